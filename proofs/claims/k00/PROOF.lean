import PyProof.Rows.All
import Wide.All
import OpenK.AllK
import Wide.FinOn
import PyProof.NeKinds
import PyProof.ReprRoads
import HandS.ForMost
import HandS.Deep
import HandS.TupSets
import KE.GoesEnum
import KE.GoesMore
import HandS.Walk
import PyProof.DictCompW
import HandS.DictComp
import HandS.SetBool
import HandS.Strs
import KE.KMinKey
import KE.KDictWalk
import HandS.TupMul
import HandS.SortKw
import Wide.Seal
import PyProof.Rows.SortShell
import PyProof.Rows.SortKey
import KE.KSortTup
import PyProof.IsInstanceT
import PyProof.IsiTuple
import PyProof.MinMaxWalk
import PyProof.DictWalks
import PyProof.DictRoads
import PyProof.DictStraight
import PyProof.WalksMore
import PyProof.ListOps
import KE.KDictPairs
import KE.KDictKeyed
import HandS.Conv
import PyProof.TupleCall
import HandS.Ends
import HandS.Evl
import HandS.IsInst
import HandS.Wide
import HandS.Style
import HandS.TryOnly
import PyProof.ExcBaseAll.LookupError
import PyProof.RulesRaise
import PyProof.FactsTree
import KE.KExcInit
import HandS.ExcInit
import HandS.ClsMeth
import HandS.Star
import HandS.Defaults
import HandS.ExcField
import HandS.Flow
import HandS.CallSlots
import HandS.TryMany
import KE.KExcIs
import HandS.ExcIs
import PyProof.FString
import PyProof.FString4
import HandS.FStr
import HandS.ForExc
import HandS.TupLe
import HandS.SortOrd
import HandS.SortInts
import HandS.WordsExc
import PySem.Challenge.RW_orderwide_k00_faults
set_option Elab.async false
set_option linter.all false
set_option maxRecDepth 100000
set_option maxHeartbeats 4000000
/-! Further rules over the hand layer: either of two walks, lists held against [], the texts of nested data. -/
namespace Mv
open PySem PySem.Spec PyProof.Rows L2
section
variable {X : Cx}
/-- either of two ways to walk one thing -/
theorem pi_either {tg it : Expr} {w1 w2 : TI} (a : PI X tg it w1) (b : PI X tg it w2) : PI X tg it (fun σ H R => w1 σ H R ∨ w2 σ H R) :=
  ⟨fun pins s σ H R I h => h.elim (a.run pins s σ H R I) (b.run pins s σ H R I)⟩
theorem pe_either {e : Expr} {t1 t2 : TE} (a : PE X e t1) (b : PE X e t2) : PE X e (fun σ H Q => t1 σ H Q ∨ t2 σ H Q) :=
  ⟨fun pins s σ H Q I h => h.elim (a.run pins s σ H Q I) (b.run pins s σ H Q I)⟩
/-- a list or a tuple, walked -/
def iSeq (K : PySem.W.Frag) (tl : TE) : TI := fun σ H R => iList K tl σ H R ∨ iTup K tl σ H R
theorem pi_seq {tg l : Expr} {tl : TE} (h : PE X l tl) : PI X tg l (iSeq X.K tl) := pi_either (pi_list h) (pi_tup h)

/-! ### a list against an empty one -/
def rNilEq (K : PySem.W.Frag) (neg : Bool) : R2 := fun x y H Q => ∃ (a b : Addr) (xs : List V), x = .ref a ∧ y = .ref b ∧ SqL K H a xs ∧ SqL K H b [] ∧ Q (.bl (if neg = true then !xs.isEmpty else xs.isEmpty)) H
theorem nil_raw {pins : List (Addr × Obj)} {σ : L2.St} {H : Hp} {s : Shared} {a : Addr} {xs : List V} (I : Inv X pins σ H s) (h : SqL X.K H a xs) :
    ∃ its : Array Value, s.heap.IsList a its ∧ its.size = xs.length := by
  obtain ⟨its, r, p, _⟩ := I.list h
  exact ⟨its.toArray, p.isList, by rw [List.size_toArray]; exact r.length.symm⟩
theorem op_eqNil (hu : X.A.units < cLine) : OpR X (compareOp .Eq) (rNilEq X.K false) := by
  intro pins s σ H x y v u Q I rx ry h
  obtain ⟨a, b, xs, rfl, rfl, ha, hb, q⟩ := h
  cases rx
  cases ry
  obtain ⟨i1, l1, z1⟩ := nil_raw I ha
  obtain ⟨i2, l2, z2⟩ := nil_raw I hb
  have z2 : i2.size = 0 := z2
  cases xs with
  | nil =>
    have z1 : i1.size = 0 := z1
    refine PySem.SeqAt.eq_listAt (e := fun _ => true) l1 l2 (z1.trans z2.symm) hu (fun j h1 _ => absurd h1 (by omega)) ⟨.bl _, H, I, rfl, ?_⟩
    have e : ((List.range i1.size).all fun _ => true) = true := by simp
    rw [e]
    exact q
  | cons x r =>
    have z1 : i1.size = r.length + 1 := z1
    exact PySem.SeqAt.eq_list_lengthsAt l1 l2 (by rw [bne_iff_ne]; omega) hu ⟨.bl _, H, I, rfl, q⟩
theorem op_neNil (hu : X.A.units < cLine) : OpR X (compareOp .NotEq) (rNilEq X.K true) := by
  intro pins s σ H x y v u Q I rx ry h
  obtain ⟨a, b, xs, rfl, rfl, ha, hb, q⟩ := h
  cases rx
  cases ry
  obtain ⟨i1, l1, z1⟩ := nil_raw I ha
  obtain ⟨i2, l2, z2⟩ := nil_raw I hb
  have z2 : i2.size = 0 := z2
  cases xs with
  | nil =>
    have z1 : i1.size = 0 := z1
    have e : ((List.range i1.size).all fun _ => true) = true := by simp
    refine PySem.SeqAt.RcNeAt.lists (e := fun _ => true) l1 l2 (z1.trans z2.symm) hu (fun j h1 _ => absurd h1 (by omega)) _ _ _ _ ⟨.bl _, H, I, rfl, ?_⟩
    rw [e]
    exact q
  | cons x r =>
    have z1 : i1.size = r.length + 1 := z1
    exact PySem.SeqAt.RcNeAt.lists_lengths l1 l2 (by rw [bne_iff_ne]; omega) hu _ _ _ _ ⟨.bl _, H, I, rfl, q⟩

/-! ### the text of nested data (nothing else is being written out) -/
def rRepr (K : PySem.W.Frag) : List V → Hp → VK → Prop := fun xs H Q => ∃ (a : Addr) (d : PyData), xs = [.ref a] ∧ Dp K H (.ref a) d ∧ d.showable = true ∧ d.hasDict = false ∧ d.depth ≤ 60 ∧ d.shown.length ≤ sizeLine ∧ Q (.str d.shown) H
theorem call_repr (hg : X.A.guards = some []) (hu : X.A.units + 64 < cLine) : CallR X (.builtin "repr") (rRepr X.K) := by
  intro pins s σ H xs us Q I r h
  obtain ⟨a, d, rfl, hd, hs, hn, hz, hl, q⟩ := h
  cases r with
  | cons ra rt =>
    cases rt
    cases ra
    obtain ⟨as, rd⟩ := Dp.reads I d _ _ hd rfl
    exact repr_of_reads' rd hs (fun z => by rw [hn] at z; cases z) hg (by omega) (fun b o e => e) (fun h' u tk k => ⟨.str d.shown, H, I.kept k, ⟨u, rfl⟩, q⟩) hl
end
end Mv
/-! enumerate of a tuple that stays. -/
namespace Mv
open PySem PySem.Spec PyProof.Rows L2
open AutoSeq1 (wpAny_loadPart')
/-- what enumerate(a tuple) makes: its own record behind the tuple's iterator -/
theorem enum_new_tup (l : Addr) (items : Array Value) :
    Meets (Builtin.«enumerate.__new__» ⟨[.type "enumerate", .ref l], []⟩) (fun _ R s => s.heap.IsTuple l items ∧
      R (.ok (.ret (.ref (s.heap.push { cls := .type "tuple_iterator", data := .fields #[.ref l, .int 0 0] }).objs.size)))
        { s with heap := (s.heap.push { cls := .type "tuple_iterator", data := .fields #[.ref l, .int 0 0] }).push { cls := .type "enumerate", data := .fields #[.none, .bool false, .ref s.heap.objs.size, rawInt 0, .none, .none] } }) :=
  .of_wp fun prog w A R s h => by
    obtain ⟨hp, g, d, tk, os⟩ := s
    obtain ⟨hl, h⟩ := h
    have hsub := sub_enumerate
    have q1 : ∀ {A' : Around} {E : Value → Shared → Prop} {Q : Value → Shared → Prop}, Q (.ref hp.objs.size) ⟨hp.push { cls := .type "tuple_iterator", data := .fields #[.ref l, .int 0 0] }, g, d, tk, os⟩ →
        wpAny (model prog w) A' (pyIter (.ref l)) Q E ⟨hp, g, d, tk, os⟩ := fun q => (begins_tuple l items).iter prog w _ _ ⟨hp, g, d, tk, os⟩ _ hl q
    wp_walk using q1
    refine wpAny_stack_any fun st => wpAny_pure ?_
    split
    · rename_i c _ _ _ _ _
      cases (c == Value.type "enumerate") <;> (wp_walk using q1; exact ⟨_, rfl, h⟩)
    · wp_walk using q1
      exact ⟨_, rfl, h⟩
theorem enum_call_tup {prog : Program} {w : World} {A : Around} {E : Value → Shared → Prop} {s : Shared} {l : Addr} {items : Array Value} {Q : Value → Shared → Prop} (hL : s.heap.IsTuple l items)
    (h : ∀ h', IsEnum h' (s.heap.objs.size + 1) s.heap.objs.size 0 .none → h'.IsTupleIter s.heap.objs.size l 0 → (∀ b o, s.heap.get? b = some o → h'.get? b = some o) → Q (.ref (s.heap.objs.size + 1)) { s with heap := h' }) :
    wpAny (model prog w) A (call (.type "enumerate") [.ref l]) Q E s := by
  refine callType_new F.called_enumerate (by decide) (F.typeCall_enumerate_1 _) (F.newCall_enumerate_1 _) (fun obj => F.args_object_init_2 obj _) F.entry_enumerate_new (enum_new_tup l items) ⟨hL, ?_⟩
  generalize ho1 : ({ cls := .type "tuple_iterator", data := .fields #[.ref l, .int 0 0] } : Obj) = o1
  generalize ho2 : ({ cls := .type "enumerate", data := .fields #[.none, .bool false, .ref s.heap.objs.size, rawInt 0, .none, .none] } : Obj) = o2
  have hz : (s.heap.push o1).objs.size = s.heap.objs.size + 1 := Heap.size_push ..
  show _ ∧ _
  rw [hz]
  have g2 : ((s.heap.push o1).push o2).get? (s.heap.objs.size + 1) = some o2 := by
    rw [← hz]
    exact Heap.get?_push_size _ (by rw [← ho2] <;> rfl)
  have g1 : ((s.heap.push o1).push o2).get? s.heap.objs.size = some o1 := Heap.get?_push_of_some _ (Heap.get?_push_size _ (by rw [← ho1] <;> rfl))
  have he : IsEnum ((s.heap.push o1).push o2) (s.heap.objs.size + 1) s.heap.objs.size 0 .none := by
    rw [← ho2] at g2 ⊢
    exact g2
  exact ⟨⟨_, he, rfl⟩, h _ he ⟨o1, g1, by rw [← ho1], by rw [← ho1] <;> rfl⟩ fun b o x => Heap.get?_push_of_some _ (Heap.get?_push_of_some _ x)⟩

/-- turn i gives out a new pair of i and the i-th item -/
def ItU (K : PySem.W.Frag) (a : Addr) : It where
  go i H := ∃ (xs : List V) (x : V), SqT K H a xs ∧ xs[i]? = some x
  yld i H v H' := ∃ (T : Addr) (x : V), v = .ref T ∧ H T = none ∧ H' = upd H T (.tup [.int (i : Nat), x]) ∧ ∀ xs, SqT K H a xs → xs[i]? = some x
  stop i H := ∃ xs : List V, SqT K H a xs ∧ xs.length = i
structure EnSt (a e it : Addr) (i : Nat) (h : Heap) : Prop where
  en : ∃ old, IsEnum h e it (i : Nat) old
  ti : h.IsTupleIter it a i
  n1 : e ≠ it
  n2 : a ≠ it
  n3 : a ≠ e
theorem turn_enumU {P : Program} {w : World} {K : PySem.W.Frag} {elts : List Expr} {kk : Nat} {tpos : Pos} (a e it : Addr) : Turn P w K (.Tuple elts kk tpos) (ItU K a) [e, it] e (EnSt a e it) where
  mem := List.mem_cons_self
  obj i h st b hb := by
    obtain ⟨old, he⟩ := st.en
    rcases List.mem_cons.mp hb with z | z
    · rw [z]
      exact ⟨_, he, fun v q => nomatch q⟩
    · rw [List.mem_singleton.mp z]
      obtain ⟨o, ho, _, hd⟩ := st.ti
      exact ⟨o, ho, fun v q => by rw [hd] at q; cases q⟩
  keep i h h' st k := by
    obtain ⟨old, he⟩ := st.en
    exact ⟨⟨old, k e List.mem_cons_self _ he⟩, st.ti.at fun o q => k it (by simp) o q, st.n1, st.n2, st.n3⟩
  item := by
    intro X hP hw hK hc i pins s σ H E I hf st hg
    subst hP hw hK
    obtain ⟨old, he⟩ := st.en
    obtain ⟨xs, x, hq, hx⟩ := hg
    obtain ⟨its, rv, p, hz⟩ := I.tuple hq
    obtain ⟨u, hu, ru⟩ := rv.get hx
    have p : s.heap.IsTuple a its.toArray := p
    have hin : i < its.toArray.size := by
      rw [List.size_toArray]
      exact (List.getElem?_eq_some_iff.mp hu).1
    have lt1 : e < s.heap.objs.size := Heap.lt_size he
    have lt2 : it < s.heap.objs.size := let ⟨_, q, _⟩ := st.ti; Heap.lt_size q
    have nfp : e ∉ [it, a] := by
      intro z
      rcases List.mem_cons.mp z with z | z
      · exact st.n1 z
      · exact st.n3 (List.mem_singleton.mp z).symm
    refine wpAny_pyNext_enum_itemC (Draws.tuple (prog := X.prog) (w := X.w) (A := X.A.in1) (show X.A.in1.handled = none from I.ok.hd hc) it a st.n2 its.toArray) he ⟨st.ti, p⟩ hin st.n1 nfp fun y h' tk hy ho hst hT hsz hk => ?_
    have ey : y = u := by
      have hy' : its[i]? = some y := by simpa using hy
      rw [hu] at hy'
      exact (Option.some.inj hy').symm
    subst ey
    refine ⟨_, rfl, wpAny_letOwnedTupleGo_enum (s := { s with heap := h', toks := tk + 1 }) ho fun h'' he' sb => ?_⟩
    have far : ∀ b o, b ∉ [e, it] → s.heap.get? b = some o → h''.get? b = some o := fun b o hb q =>
      (sb.2 b fun z => hb (by simp [z])).trans (hk b o (fun z => hb (by simp [z])) (fun z => hb (by simp [z])) q)
    have hT2 := (sb.2 _ (Nat.ne_of_gt lt1)).trans hT
    have I1 : Inv X pins σ (upd H s.heap.objs.size (.tup [.int (i : Nat), x])) { s with heap := h'', toks := tk + 1 } :=
      I.turnedNew far hf (Nat.le_refl _) ⟨by show 2 ≤ sizeLine; decide, [.int i tk, y], .cons ⟨tk, rfl⟩ (.cons ru .nil), ⟨_, hT2, rfl, _, rfl⟩⟩
    refine ⟨.ref s.heap.objs.size, _, I1, rfl, ⟨_, x, rfl, I.hok.fresh (Nat.le_refl _), rfl, fun ys hy => by rw [I.tuple_inj hy hq]; exact hx⟩, ⟨⟨y, ?_⟩, hst.1.at fun o q => (sb.2 it st.n1.symm).trans q, st.n1, st.n2, st.n3⟩, fun b hb => ?_⟩
    · have e1 : ((i + 1 : Nat) : Int) = (i : Int) + 1 := Int.natCast_succ i
      rw [e1]
      exact he'
    · have : b < s.heap.objs.size := by
        rcases List.mem_cons.mp hb with z | z
        · rw [z]; exact lt1
        · rw [List.mem_singleton.mp z]; exact lt2
      rw [upd_ne (Nat.ne_of_lt this)]
      exact (hf b hb).1
  done := by
    intro X hP hw hK hc i pins s σ H E I hf st hg
    subst hP hw hK
    obtain ⟨old, he⟩ := st.en
    obtain ⟨xs, hq, hx⟩ := hg
    obtain ⟨its, rv, p, hz⟩ := I.tuple hq
    obtain ⟨f0, f1, f2, f3, f4, f5⟩ := hf it (by simp)
    have hn : its.toArray.size = i := by rw [List.size_toArray, ← rv.length, hx]
    have hst : s.heap.IsTupleIter it a its.toArray.size ∧ s.heap.IsTuple a its.toArray := by
      rw [hn]
      exact ⟨st.ti, p⟩
    exact wpAny_pyNext_enum_endD (Draws.tuple (prog := X.prog) (w := X.w) (A := X.A.in1) (show X.A.in1.handled = none from I.ok.hd hc) it a st.n2 its.toArray) he hst fun h' eb => ⟨rfl, I.turned (t' := s.toks) (fun b o hb q => eb b o hb q) f0 f1 f3 f4 f5⟩
  self := fun A i s Q E st h => let ⟨_, he⟩ := st.en; wpAny_pyIter_enum he h
def iEnumU (K : PySem.W.Frag) (ta : TA) : TI := fun σ H R => ta σ H fun vs H1 => ∃ a xs, vs = [.ref a] ∧ SqT K H1 a xs ∧ R (ItU K a) H1
theorem pi_enumU {X : Cx} {e : Expr} {ta : TA} {p pos tpos : Pos} {elts : List Expr} {kk : Nat} (hg : Gl X "enumerate") (hm : X.mg "enumerate" = none) (ha : PA X [e] ta) (hs : starEach [e] X.env = [(false, eval e X.env)] := by rfl) :
    PI X (.Tuple elts kk tpos) (.Call (.Name "enumerate" p) [e] [] pos) (iEnumU X.K ta) where
  run pins s σ H R I h := by
    refine Call_ (ld_blt I hg hm boot_enumerate (PyProof.Rows.callWith_type1 (thn (ha.run pos pins s σ H _ I h) fun us s1 ⟨vs, H1, I1, r1, a, xs, ex, hq, q⟩ => ?_) hs rfl))
    subst ex
    cases r1 with
    | cons r rr =>
      cases rr
      cases r
      obtain ⟨its, rv, p', hz⟩ := I1.tuple hq
      have p' : s1.heap.IsTuple a its.toArray := p'
      have la : a < s1.heap.objs.size := let ⟨_, o, _⟩ := p'; Heap.lt_size o
      refine enum_call_tup p' fun h' he hit hk => wpAny_pyIter_enum he ?_
      have I2 : Inv X pins σ H1 { s1 with heap := h' } := I1.kept (t' := s1.toks) hk
      refine ⟨_, [s1.heap.objs.size + 1, s1.heap.objs.size], _, _, H1, rfl, I2, turn_enumU a (s1.heap.objs.size + 1) s1.heap.objs.size,
        ⟨⟨.none, he⟩, hit, Nat.succ_ne_self _, Nat.ne_of_lt la, Nat.ne_of_lt (Nat.lt_succ_of_lt la)⟩, fun b hb => ?_, q⟩
      have hle : s1.heap.objs.size ≤ b := by
        rcases List.mem_cons.mp hb with z | z
        · rw [z]; exact Nat.le_succ _
        · rw [List.mem_singleton.mp z]; exact Nat.le_refl _
      exact I1.fpOk hle (I1.hok.fresh hle)
theorem walk_enumU {K : PySem.W.Frag} {a : Addr} {xs : List V} : Walk (ItU K a) xs.length (fun H => SqT K H a xs) (YPair (fun i => some (.int (i : Nat))) (fun i => xs[i]?)) where
  goes i _ hi q := ⟨xs, xs[i], q, by simp [hi]⟩
  stops _ q := ⟨xs, q, rfl⟩
  yields i H v H' _ q y := let ⟨T, x, h1, h2, h3, h4⟩ := y; ⟨T, .int (i : Nat), x, h1, h2, h3, rfl, h4 xs q⟩
end Mv
/-! Comprehensions that fill a dict (any keys that the layer tracks) or a set of ints: one walk for both, the sink left open. -/
namespace Mv
open PySem PySem.Spec PyProof.Rows L2
/-- what an element does to the thing that is made, in a block: Nx is wanted of the heap behind it -/
abbrev TK := Addr → L2.St → Hp → (Hp → Prop) → Prop
/-- {.. for tg in iter if ..}: ob0 D the empty thing at D -/
def tCm (ob0 : Addr → HO) (wi : TI) (g : TG) (tt : TT) (tk : TK) (vs : List Nat) : TE := fun σ H Q => wi σ H fun J H1 => ∀ D, H1 D = none → ∃ W : Nat → Nat → Hp → Prop, (∃ m, W 0 m (upd H1 D (ob0 D))) ∧
  ∀ i m H, W i m H → (J.stop i H ∧ Q (.ref D) H) ∨ (J.go i H ∧ ∃ Nx : Hp → Prop, (∀ H', Nx H' → ∃ m', m' < m ∧ W (i + 1) m' H') ∧
    ∀ x H', J.yld i H x H' → g x (wipe σ vs) H' fun σ2 H2 => wipe σ2 vs = wipe σ vs ∧ tt σ2 H2 fun b H3 => if b = true then tk D σ2 H3 Nx else Nx H3)
abbrev Stp := Env → Addr → (Shared → Prop) → (Value → Shared → Prop) → Shared → Prop
/-- the model's own turn of such a comprehension c over one clause, its element's effect as stp -/
structure CmRun (P : Program) (w : World) (A : Around) (c tg : Expr) (ifs : List Expr) (stp : Stp) : Prop where
  loop : ∀ (R : Result → Shared → Prop) (s : Shared) (it : Value) (D : Addr) (env : Env) (In : Nat → Shared → Prop),
    (∀ n s, In n s → wpAny (model P w) A (pyNext it) (fun r s₁ => match r with
      | none => R (.ok .next) s₁
      | some v => wpAny (model P w) A (letOwnedTupleGo tg it v) (fun _ s₁' => wpAny (model P w) A (assign tg env v) (fun _ s₂ =>
          wpAny (model P w) A (forIn ifs true fun c r => if r = true then do let ok ← isTrue c env (eval c env); pure (ForInStep.yield ok) else pure (ForInStep.yield r)) (fun ok s₃ =>
            if ok = true then stp env D (fun s₆ => ∃ m, m < n ∧ In m s₆) (notedBy (model P w) A env fun e s' => R (.error e) s') s₃
            else ∃ m, m < n ∧ In m s₃) (notedBy (model P w) A env fun e s' => R (.error e) s') s₂) (notedBy (model P w) A env fun e s' => R (.error e) s') s₁') (notedBy (model P w) A env fun e s' => R (.error e) s') s₁) (notedBy (model P w) A env fun e s' => R (.error e) s') s) →
    ∀ n, In n s → codeAny (model P w) A (.compLoop c 0 it (.ref D) env) R s
  start : ∀ (R : Result → Shared → Prop) (s : Shared) (it acc : Value) (env : Env), codeAny (model P w) A (.compLoop c 0 it acc env) R s →
    wpAny (model P w) A (pyIter it) (fun it' s' => codeAny (model P w) A (.compLoop c 0 it' acc env) R s') (notedBy (model P w) A env fun x s' => R (.error x) s') s → codeAny (model P w) A (.compStart c 0 it acc env) R s
section
variable {X : Cx}
theorem cm_core {pins : List (Addr × Obj)} {s : Shared} {σ : L2.St} {H : Hp} {Q : VK} {c tg iter : Expr} {ifs : List Expr} {scope : Scope} {own : List (Str × Nat)} {pos' : Pos} {wi : TI} {g : TG} {tt : TT} {tk : TK}
    {ob0 : Addr → HO} {obj : Obj} {new : Sem Value} {stp : Stp} {Qf : Value → Shared → Prop} (hcl : clausesOf c = [⟨tg, iter, ifs, 0⟩])
    (hc : X.calm = true) (hN : X.N.Nodup) (I : Inv X pins σ H s) (hi : PI X tg iter wi) (ok : BlkOk X.N X.env.scope scope own)
    (hnew : ∀ (s : Shared) (Q : Value → Shared → Prop) (E : Value → Shared → Prop), Q (.ref s.heap.objs.size) { s with heap := s.heap.push obj } → wpAny (model X.prog X.w) X.A new Q E s) (hfr : obj.isFreed = false)
    (hob : ∀ (H : Hp) (h : Heap), sysModules < h.objs.size → ObjOk X.prog X.w H (h.push obj) h.objs.size (ob0 h.objs.size))
    (run : CmRun X.prog X.w X.A c tg ifs stp)
    (hg : ∀ (s : Shared) (H : Hp) (C : Addr) (cl : List (Str × Addr)) (fp : List Addr), PG (X.blk s H scope (compEnvC scope cl C X.env) fp) tg g)
    (ht : ∀ (s : Shared) (H : Hp) (C : Addr) (cl : List (Str × Addr)) (fp : List Addr), PTs (X.blk s H scope (compEnvC scope cl C X.env) fp) ifs tt)
    (hk : ∀ (s : Shared) (H : Hp) (C : Addr) (cl : List (Str × Addr)) (fp : List Addr) (pn : List (Addr × Obj)) (s2 : Shared) (σ2 : L2.St) (H2 : Hp) (D : Addr) (Nx : Hp → Prop) (Pq : Shared → Prop) (E : Value → Shared → Prop),
      Inv (X.blk s H scope (compEnvC scope cl C X.env) fp) pn σ2 H2 s2 → tk D σ2 H2 Nx → (∀ s' H', Inv (X.blk s H scope (compEnvC scope cl C X.env) fp) pn σ2 H' s' → Nx H' → Pq s') → stp (compEnvC scope cl C X.env) D Pq E s2)
    (hs : ∀ x, foldedSetIterable iter X.env x = pure x) (h : tCm ob0 wi g tt tk (own.map (·.2)) σ H Q)
    (back : ∀ D C s' m H', Inv X pins σ H' s' → Q (.ref D) H' → s'.heap.Ns C m → FpOk X pins H' C → compPost (model X.prog X.w) X.A X.xe none Qf (.ref D) C (.ok .next) s') :
    wpAny (model X.prog X.w) X.A (comprehension c scope X.env pos' new false (eval iter X.env) none) Qf X.xe s := by
  have hfree : ∀ y ∈ scope.names, y.2 = .free → ∃ a, X.env.cells.lookup y.1 = some a := fun y hy e => (ok.free y hy e).elim (fun k => I.ok.has _ (.inl k)) fun k => I.ok.has _ (.inr k)
  refine wpAny_comprehension_free (use := none) hcl hs (closure_ok hfree) ok.kind (fun y hy e => by rw [ok.uniq y hy, e]) (thn (hi.run pins s σ H _ I h) fun xv s1 hx => thn hx fun itv s2 h2 => ?_)
  obtain ⟨it, fp, tn, J, H2, rfl, I2, T, st2, f2, q⟩ := h2
  refine hnew s2 _ _ (newEnv_comp ?_)
  generalize hD : s2.heap.objs.size = D
  obtain ⟨W, ⟨m0, w0⟩, turn⟩ := q D (I2.hok.fresh (Nat.le_of_eq hD))
  generalize hs3 : ({ s2 with heap := s2.heap.push obj } : Shared) = s3
  have h3 : s3.heap = s2.heap.push obj := by rw [← hs3]
  have up : ∀ b o, s2.heap.get? b = some o → s3.heap.get? b = some o := fun b o e => by
    rw [h3]
    exact Heap.get?_push_of_some _ e
  have I3 : Inv X pins σ (upd H2 D (ob0 D)) s3 := by
    rw [← hs3]
    refine I2.laid (t' := s2.toks) (fun b o e => Heap.get?_push_of_some _ e) (Nat.le_of_eq hD) ?_
    rw [← hD]
    exact hob _ s2.heap I2.big
  have f3 : ∀ b ∈ fp, FpOk X pins (upd H2 D (ob0 D)) b ∧ b < s3.heap.objs.size := fun b hb => by
    obtain ⟨o, e, _⟩ := T.obj _ _ st2 b hb
    have lt : b < s2.heap.objs.size := Heap.lt_size e
    have ne : b ≠ D := hD ▸ Nat.ne_of_lt lt
    exact ⟨⟨(upd_ne ne).trans (f2 b hb).1, (f2 b hb).2⟩, by rw [h3, Heap.size_push]; exact Nat.lt_succ_of_lt lt⟩
  have st3 : tn 0 s3.heap := T.keep _ _ _ st2 fun b _ => up b
  have I4 := block_start I3 ok hN f3
  show codeAny _ _ (.compStart c 0 (.ref it) (.ref D) (compEnvC scope (cellsFrom (s3.heap.objs.size + 1) scope.names (cloFrom X.env.cells scope.names [])) s3.heap.objs.size X.env)) (compPost (model X.prog X.w) X.A X.xe none Qf (.ref D) s3.heap.objs.size)
    { s3 with heap := pushCells (s3.heap.push { cls := .type "dict", data := .dict #[] }) scope.names }
  generalize hcl : cellsFrom (s3.heap.objs.size + 1) scope.names (cloFrom X.env.cells scope.names []) = cells at I4 ⊢
  generalize hH3 : upd H2 D (ob0 D) = H3 at I3 I4 w0 f3
  have pg := hg s3 H3 s3.heap.objs.size cells fp
  have pt := ht s3 H3 s3.heap.objs.size cells fp
  have pk := hk s3 H3 s3.heap.objs.size cells fp
  generalize hce : compEnvC scope cells s3.heap.objs.size X.env = ce at I4 pg pt pk ⊢
  have cL : ce.locals = s3.heap.objs.size := by rw [← hce] <;> rfl
  generalize hs4 : ({ s3 with heap := pushCells (s3.heap.push { cls := .type "dict", data := .dict #[] }) scope.names } : Shared) = s4 at I4 ⊢
  have st4 : tn 0 s4.heap := T.keep _ _ _ st3 fun b _ o e => by
    rw [← hs4]
    exact pushCells_keeps _ _ _ _ (Heap.get?_push_of_some _ e)
  have stat : ∀ {σ' : L2.St} {H' : Hp} {s' : Shared}, Inv (X.blk s3 H3 scope ce fp) [] σ' H' s' → (∀ b ∈ fp, H' b = none) → ∀ b ∈ fp, FpOk (X.blk s3 H3 scope ce fp) [] H' b := fun I' hn b hb =>
    ⟨hn b hb, (I'.ok.exf b hb).1, I'.ok.exfs b hb, .inl hb, fun x a e => (I'.ok.exf b hb).2 x a e, fun p hp => nomatch (show p ∈ ([] : List (Addr × Obj)) from hp)⟩
  have loop : codeAny (model X.prog X.w) X.A (.compLoop c 0 (.ref it) (.ref D) ce) (compPost (model X.prog X.w) X.A X.xe none Qf (.ref D) s3.heap.objs.size) s4 := by
    refine run.loop _ s4 _ D ce (fun n s' => ∃ i H', Inv (X.blk s3 H3 scope ce fp) [] (wipe σ (own.map (·.2))) H' s' ∧ tn i s'.heap ∧ (∀ b ∈ fp, H' b = none) ∧ W i n H') ?_ m0 ⟨0, H3, I4, st4, fun b hb => (f3 b hb).1.1, w0⟩
    rintro n s5 ⟨i, H5, I5, st5, n5, w5⟩
    rcases turn i n H5 w5 with ⟨stop, qq⟩ | ⟨go, Nx, hNx, step⟩
    · refine thnF (T.done (X.blk s3 H3 scope ce fp) rfl rfl rfl hc i [] s5 _ H5 (fun _ _ => False) I5 (stat I5 n5) st5 stop) fun r s6 ⟨hr, I6⟩ => ?_
      subst hr
      have I7 : Inv X pins σ H5 s6 := I3.call' (ch := fp) I6.os I6.base I6.hok I6.bare fun b hb => let f := (f3 b hb).1; ⟨f.2.2.2.1, f.2.1, f.2.2.2.2.1, f.2.2.2.2.2⟩
      have nC : H5 ce.locals = none := I6.free
      obtain ⟨m, hn, _⟩ := I6.loc
      have hn : s6.heap.Ns ce.locals m := hn
      rw [cL] at nC hn
      exact back D _ s6 m H5 I7 qq hn (I3.fpOk (Nat.le_refl _) nC)
    · refine thnF (T.item (X.blk s3 H3 scope ce fp) rfl rfl rfl hc i [] s5 _ H5 (fun _ _ => False) I5 (stat I5 n5) st5 go) fun r s6 ⟨u, hr, h6⟩ => ?_
      subst hr
      refine thnF h6 fun _ s7 ⟨x, H7, I7, r7, y7, st7, n7⟩ => ?_
      refine thnF (pg.run _ s7 _ H7 x u _ (I7.pinned (stat I7 n7) (T.obj _ _ st7)) r7 (step x H7 y7)) fun _ s8 ⟨σ8, H8, I8, hw8, q8⟩ => ?_
      refine thnF (pt.run _ s8 σ8 H8 _ I8 q8) fun b s9 ⟨H9, I9, q9⟩ => ?_
      have fin : ∀ (s' : Shared) (H' : Hp), Inv (X.blk s3 H3 scope ce fp) ([] ++ pinsAt fp s7.heap) σ8 H' s' → Nx H' → ∃ m, m < n ∧ ∃ i H', Inv (X.blk s3 H3 scope ce fp) [] (wipe σ (own.map (·.2))) H' s' ∧ tn i s'.heap ∧ (∀ b ∈ fp, H' b = none) ∧ W i m H' := fun s' H' I' nx => by
        obtain ⟨m', hm, w'⟩ := hNx H' nx
        have pin : ∀ b ∈ fp, ∀ o, s7.heap.get? b = some o → s'.heap.get? b = some o ∧ H' b = none := fun b hb o e =>
          let z := I'.pin (b, o) (List.mem_append_right _ (List.mem_append_right _ (mem_pinsAt hb e))); ⟨z.1, z.2.1⟩
        refine ⟨m', hm, i + 1, H', (I'.unpinned (pins := [])).weak (by rw [← hw8, wipe_length]) (fun j v e => ?_), T.keep _ _ _ st7 fun b hb o e => (pin b hb o e).1, fun b hb => ?_, w'⟩
        · rw [← hw8] at e
          exact (wipe_some e).1
        · obtain ⟨o, e, _⟩ := T.obj _ _ st7 b hb
          exact (pin b hb o e).2
      cases b with
      | false => exact fin s9 H9 I9 q9
      | true => exact pk _ s9 σ8 H9 D Nx _ _ I9 q9 fin
  exact run.start _ _ _ _ _ loop (T.self X.A 0 _ _ _ st4 loop)
end
end Mv
namespace Mv
open PySem PySem.Spec PyProof.Rows L2
section
variable {X : Cx}
/-! ### a dict by a comprehension -/
theorem dictSet_put {pins : List (Addr × Obj)} {σ : L2.St} {H H' : Hp} {s : Shared} {E : Value → Shared → Prop} {D : Addr} {y v : V} {u r : Value} {Q : Unit → Shared → Prop} (hu : X.A.units < cLine) (I : Inv X pins σ H s) (g : DPut H D y v H') (ry : RelV y u) (rv : RelV v r)
    (h : ∀ s', Inv X pins σ H' s' → Q () s') : wpAny (model X.prog X.w) X.A (dictSet D u r) Q E s := by
  rcases g with ⟨kvs, k, e, rfl, l, rfl⟩ | ⟨kvs, k, b, e, rfl, eb, l, rfl⟩
  · exact d_dictSet I e l ry rv h
  · cases (show u = Value.ref b from ry)
    obtain ⟨z, hd, xs, rel, dd⟩ := dt_of I.hok e
    have hz : xs.length ≤ sizeLine := Paired.length rel ▸ z
    have hl : (putK kvs k v).length ≤ sizeLine := Nat.le_trans (length_putK kvs k v) l
    refine wpAny_dictSet_heap (hsz := hz) (knd := tupleKind (mixKind X.prog X.w)) hu (key_of I.hok eb) dd fun h' dd' hs => h _ ?_
    obtain ⟨q, es, ep, hq, h2, h3, h4, _, h5⟩ := dd'
    refine d_write I (by rw [e]; exact True.intro) hs ⟨q, hq⟩ ⟨hl, hd, _, (rel.put k eb rv).keeps fun c ys ec => ?_, q, es, ep, hq, h2, h3, h4, h5⟩
    exact (upd_ne (ne_of ec e (fun z => nomatch z))).trans ec
def kDict (tk tv : TE) : TK := fun D σ H Nx => tk σ H fun y H1 => tv σ H1 fun z H2 => ∃ H3, DPut H2 D y z H3 ∧ Nx H3
/-- {k: v for ..} whose keys are tuples -/
theorem pe_dcT {kx vx tg iter : Expr} {ifs : List Expr} {scope : Scope} {own : List (Str × Nat)} {pos : Pos} {wi : TI} {g : TG} {tt : TT} {tk tv : TE} (hu : X.A.units < cLine) (hc : X.calm = true) (hN : X.N.Nodup) (hi : PI X tg iter wi) (ok : BlkOk X.N X.env.scope scope own)
    (hg : ∀ (s : Shared) (H : Hp) (C : Addr) (cl : List (Str × Addr)) (fp : List Addr), PG (X.blk s H scope (compEnvC scope cl C X.env) fp) tg g)
    (ht : ∀ (s : Shared) (H : Hp) (C : Addr) (cl : List (Str × Addr)) (fp : List Addr), PTs (X.blk s H scope (compEnvC scope cl C X.env) fp) ifs tt)
    (hk : ∀ (s : Shared) (H : Hp) (C : Addr) (cl : List (Str × Addr)) (fp : List Addr), PE (X.blk s H scope (compEnvC scope cl C X.env) fp) kx tk)
    (he : ∀ (s : Shared) (H : Hp) (C : Addr) (cl : List (Str × Addr)) (fp : List Addr), PE (X.blk s H scope (compEnvC scope cl C X.env) fp) vx tv) (hs : ∀ x, foldedSetIterable iter X.env x = pure x := by intro _; rfl) :
    PE X (.DictComp kx vx [⟨tg, iter, ifs, 0⟩] scope pos) (tCm (fun _ => .dT []) wi g tt (kDict tk tv) (own.map (·.2))) where
  run pins s σ H Q I h := by
    rw [arm_eval_DictComp]
    refine cm_core (obj := { cls := .type "dict", data := .dict #[] }) (stp := fun env D Pq E s => wpAny (model X.prog X.w) X.A (eval kx env) (fun kv s₄ => wpAny (model X.prog X.w) X.A (eval vx env) (fun vv s₅ => wpAny (model X.prog X.w) X.A (dictSet D kv vv) (fun _ => Pq) E s₅) E s₄) E s)
      rfl hc hN I hi ok (fun s Q E q => wpAny_newObj_type q) rfl (fun H h hb => dt_empty h hb) ⟨fun R s it D env In turn n hn => compLoop_anyD In turn n hn, fun R s it acc env a b => codeAny_compStart_dict a b⟩ hg ht
      (fun s1 H1 C cl fp pn s2 σ2 H2 D Nx Pq E I2 q k => ?_) hs h fun D C s' m H' I' q hn f => ⟨m, hn, fun h'' sb => ?_⟩
    · refine thnF ((hk s1 H1 C cl fp).run _ s2 σ2 H2 _ I2 q |> fun z => wpAny_mono z (fun _ _ z => z) fun _ _ z => z) fun u s3 ⟨y, H3, I3, r3, q3⟩ => ?_
      refine thnF ((he s1 H1 C cl fp).run _ s3 σ2 H3 _ I3 q3) fun u2 s4 ⟨z, H4, I4, r4, H5, put, nx⟩ => ?_
      exact dictSet_put (X := X.blk s1 H1 scope (compEnvC scope cl C X.env) fp) hu I4 put r3 r4 fun s5 I5 => k s5 H5 I5 nx
    · obtain ⟨f0, f1, f2, f3, f4, f5⟩ := f
      exact ⟨.ref D, H', I'.turned (t' := s'.toks) (fun b o hb e => (sb.2 b hb).trans e) f0 f1 f3 f4 f5, rfl, q⟩

/-! ### a set of ints by a comprehension -/
def kSetI (w : World) (te : TE) : TK := fun D σ H Nx => te σ H fun y H1 => ∃ (k : Int) (S : Int → Bool) (n : Nat), y = .int k ∧ H1 D = some (SetO w D S n) ∧ n + 1 < scanBound ∧
  Nx (upd H1 D (SetO w D (fun j => S j || decide (j = k)) (if S k = true then n else n + 1)))
theorem pe_scI {elt tg iter : Expr} {ifs : List Expr} {scope : Scope} {own : List (Str × Nat)} {pos : Pos} {wi : TI} {g : TG} {tt : TT} {te : TE} (hc : X.calm = true) (hN : X.N.Nodup) (hi : PI X tg iter wi) (ok : BlkOk X.N X.env.scope scope own)
    (hg : ∀ (s : Shared) (H : Hp) (C : Addr) (cl : List (Str × Addr)) (fp : List Addr), PG (X.blk s H scope (compEnvC scope cl C X.env) fp) tg g)
    (ht : ∀ (s : Shared) (H : Hp) (C : Addr) (cl : List (Str × Addr)) (fp : List Addr), PTs (X.blk s H scope (compEnvC scope cl C X.env) fp) ifs tt)
    (he : ∀ (s : Shared) (H : Hp) (C : Addr) (cl : List (Str × Addr)) (fp : List Addr), PE (X.blk s H scope (compEnvC scope cl C X.env) fp) elt te) (hs : ∀ x, foldedSetIterable iter X.env x = pure x := by intro _; rfl) :
    PE X (.SetComp elt [⟨tg, iter, ifs, 0⟩] scope pos) (tCm (fun D => SetO X.w D (fun _ => false) 0) wi g tt (kSetI X.w te) (own.map (·.2))) where
  run pins s σ H Q I h := by
    rw [PpSet.eval_SetComp]
    refine cm_core (obj := { cls := .type "set", dict := none, data := .set #[] 0 (.fresh 0 0 (!X.w.params.followText "set-order")) }) (stp := fun env D Pq E s => wpAny (model X.prog X.w) X.A (eval elt env) (fun v s₄ => wpAny (model X.prog X.w) X.A (call (.builtin "set.add") [.ref D, v]) (fun _ => Pq) E s₄) E s)
      rfl hc hN I hi ok (fun s Q E q => PpSet.newSet_ok q) rfl (fun H h _ => setO_new (setR_fresh X.w)) ⟨fun R s it D env In turn n hn => PpSet.compLoopS_any In turn n hn, fun R s it acc env a b => PpSet.codeAny_compStart_set a b⟩ hg ht
      (fun s1 H1 C cl fp pn s2 σ2 H2 D Nx Pq E I2 q k => ?_) hs h fun D C s' m H' I' q hn f => ⟨m, hn, fun h'' sb => ?_⟩
    · refine thnF ((he s1 H1 C cl fp).run _ s2 σ2 H2 _ I2 q) fun u s3 ⟨y, H3, I3, r3, j, S, n, ey, hD, room, nx⟩ => ?_
      subst ey
      obtain ⟨tk, rfl⟩ := r3
      refine setR_add (setO_get (X := X.blk s1 H1 scope (compEnvC scope cl C X.env) fp) I3 hD) room fun h' sb new => k _ _ (I3.write (e := D) (t' := s3.toks + 1) (by rw [hD]; trivial) (.inl rfl) (fun b u hb hu => (sb.2 b hb).trans hu) ?_ (setO_new new)) nx
      obtain ⟨o, _, _, _, ho, _⟩ := new
      exact ⟨o, ho⟩
    · obtain ⟨f0, f1, f2, f3, f4, f5⟩ := f
      exact ⟨.ref D, H', I'.turned (t' := s'.toks) (fun b o hb e => (sb.2 b hb).trans e) f0 f1 f3 f4 f5, rfl, q⟩

/-! ### how many a set holds -/
def rLenSetI (w : World) : List V → Hp → VK → Prop := fun xs H Q => ∃ (a : Addr) (S : Int → Bool) (n : Nat), xs = [.ref a] ∧ H a = some (SetO w a S n) ∧ Q (.int n) H
theorem call_lenSetI : CallR X (.builtin "len") (rLenSetI X.w) := by
  intro pins s σ H xs us Q I r h
  obtain ⟨a, S, n, rfl, ha, q⟩ := h
  rw [Vals.ref1 r]
  obtain ⟨o, es, ep, t, ho, hex, hd, _, _, _, hz, hf, hn, _⟩ := setO_get I ha
  have hb : es.size < 2 ^ 63 := Nat.lt_trans hz (by decide)
  refine call_len_set ho hex hd hf (by omega) ⟨.int n, H, I.tok _, ⟨_, by rw [hn]⟩, q⟩
def rLenSetT (P : Program) (w : World) : List V → Hp → VK → Prop := fun xs H Q => ∃ (a : Addr) (L : List (Addr × List Int)), xs = [.ref a] ∧ H a = some (SetTO P w a L) ∧ (∀ p ∈ L, H p.1 = some (.tup (p.2.map V.int))) ∧ ((L.map (·.2)).Nodup → Q (.int L.length) H)
theorem call_lenSetT : CallR X (.builtin "len") (rLenSetT X.prog X.w) := by
  intro pins s σ H xs us Q I r h
  obtain ⟨a, L, rfl, ha, ht, q⟩ := h
  rw [Vals.ref1 r]
  obtain ⟨es, ep, t, R⟩ := SetT0.full (I.hok a _ ha).1 fun p hp => I.isT (SqT.of (ht p hp))
  obtain ⟨o, ho, hex, hd⟩ := R.ob
  have hn := R.size
  have hf := R.few
  refine call_len_set ho hex hd R.fits (by omega) ⟨.int L.length, H, I.tok _, ⟨_, by rw [hn]⟩, q R.nd⟩
end
end Mv
namespace Mv
open PySem PySem.Spec PyProof.Rows L2
/-! ### the greatest of a walk's ints, or what is handed in for none -/
def mxOf (f : Nat → Int) : Nat → Option Int
  | 0 => none
  | n + 1 => some (match mxOf f n with | none => f n | some m => if f n > m then f n else m)
theorem mxOf_spec (f : Nat → Int) : ∀ n, (n = 0 ∧ mxOf f n = none) ∨ ∃ m, mxOf f n = some m ∧ (∃ i, i < n ∧ f i = m) ∧ ∀ i, i < n → f i ≤ m
  | 0 => .inl ⟨rfl, rfl⟩
  | n + 1 => by
    right
    rcases mxOf_spec f n with ⟨rfl, e⟩ | ⟨m, e, ⟨i, hi, hm⟩, hb⟩
    · refine ⟨f 0, by simp [mxOf], ⟨0, by omega, rfl⟩, fun i hi => ?_⟩
      obtain rfl : i = 0 := by omega
      exact Int.le_refl _
    · by_cases c : f n > m
      · refine ⟨f n, by simp [mxOf, e, c], ⟨n, by omega, rfl⟩, fun j hj => ?_⟩
        rcases Nat.lt_or_ge j n with h | h
        · have := hb j h; omega
        · obtain rfl : j = n := by omega
          exact Int.le_refl _
      · refine ⟨m, by simp [mxOf, e, c], ⟨i, by omega, hm⟩, fun j hj => ?_⟩
        rcases Nat.lt_or_ge j n with h | h
        · exact hb j h
        · obtain rfl : j = n := by omega
          omega
/-- what the loop's state list holds -/
def MxSt (h : Heap) (S : Addr) (o : Option Int) : Prop := ∃ c, (o = none ∧ h.get? S = some { cls := .type "list", dict := none, data := .seq #[] c, slots := #[] }) ∨
  ∃ m t, o = some m ∧ h.get? S = some { cls := .type "list", dict := none, data := .seq #[.int m t, .int m t] c, slots := #[] }
section
variable {prog : Program} {w : World} {A : Around} {R : Result → Shared → Prop} {I : Addr} {fp wr : List Addr} {n : Nat} {P : Nat → Value → Prop} {St : Nat → Heap → Prop}
theorem int_gt {i j : Int} {t u : Tok} {s : Shared} {Q E : Value → Shared → Prop} (h : Q (.bool (decide (i > j))) s) : wpAny (model prog w) A (richCompare .Gt (.int i t) (.int j u)) Q E s :=
  CmpOf.ints_gt (prog := prog) (w := w) (A := A) (P := fun k v => (k = 0 ∧ v = .int i t) ∨ (k = 1 ∧ v = .int j u)) (fun k => if k = 0 then i else j)
    (fun k v hv => by rcases hv with ⟨rfl, rfl⟩ | ⟨rfl, rfl⟩ <;> exact ⟨_, rfl⟩) 0 1 _ _ s Q E (.inl ⟨rfl, rfl⟩) (.inr ⟨rfl, rfl⟩) (by simpa using h)
theorem max_loop (W : Walks prog w A.in1 I fp wr n P St) (f : Nat → Int) (hv : ∀ i v, P i v → ∃ t, v = .int (f i) t) (kw : List (Str × Value)) (hkw : ∃ nm d, kw = [(nm, d)]) (S : Addr) (hSf : S ∉ fp) :
    ∀ (k i : Nat) (s : Shared), n - i = k → i ≤ n → St i s.heap → MxSt s.heap S (mxOf f i) →
    (∀ v h' tk, (match mxOf f n with | none => ∃ nm, kw = [(nm, v)] | some m => ∃ t, v = .int m t) → (∀ b o, b ∉ wr → b ≠ S → s.heap.get? b = some o → h'.get? b = some o) → R (.ok (.ret v)) { s with heap := h', toks := tk }) →
    codeAny (model prog w) A (.builtin "max.loop" ⟨[.ref I, .none, .ref S], kw⟩) R s := by
  have hSw : S ∉ wr := fun h => hSf (W.sub _ h)
  obtain ⟨nm, dflt, rfl⟩ := hkw
  have hname : (toString "max" ++ toString ".loop" : String) = "max.loop" := by decide
  intro k
  induction k with
  | zero =>
    intro i s hk hi hst hS hR
    obtain rfl : i = n := by omega
    refine codeAny_builtin PySem.F.entry_max_loop ?_
    rw [Around.under_plainId PySem.F.plain_max_loop _]
    obtain ⟨c, ⟨em, hS⟩ | ⟨m, t, em, hS⟩⟩ := hS
    · show wpAny _ A.in1 (seqItems? (.ref S) >>= _) _ _ s
      refine wpAny_bind (wpAny_seqItems hS rfl ?_)
      show wpAny _ A.in1 (tryCatch (pyNext (.ref I)) _ >>= _) _ _ s
      refine wpAny_bind (wpAny_tryCatch (W.done s _ _ hst fun h' tk hk' => ?_))
      show wpAny _ A.in1 (rule _ >>= _) _ _ _
      refine wpAny_bind (wpAny_rule (wpAny_pure (hR dflt h' tk ?_ fun b o hbw _ e => hk' b o hbw e)))
      rw [em]
      exact ⟨nm, rfl⟩
    · show wpAny _ A.in1 (seqItems? (.ref S) >>= _) _ _ s
      refine wpAny_bind (wpAny_seqItems hS rfl ?_)
      show wpAny _ A.in1 (tryCatch (pyNext (.ref I)) _ >>= _) _ _ s
      refine wpAny_bind (wpAny_tryCatch (W.done s _ _ hst fun h' tk hk' => ?_))
      have hS' := hk' S _ hSw hS
      show wpAny _ A.in1 (updateSeq S (fun _ => #[]) >>= _) _ _ _
      refine wpAny_bind (wpAny_updateSeq hS' rfl (wpAny_bind (wpAny_letGo (wpAny_pure (hR _ _ tk ?_ fun b o hbw hbS e => ?_)))))
      · rw [em]
        exact ⟨t, rfl⟩
      · exact (Heap.get?_update_other _ _ (Ne.symm hbS)).trans (hk' b o hbw e)
  | succ k ih =>
    intro i s hk hi hst hS hR
    have hlt : i < n := by omega
    refine codeAny_builtin PySem.F.entry_max_loop ?_
    rw [Around.under_plainId PySem.F.plain_max_loop _]
    obtain ⟨c, ⟨em, hS⟩ | ⟨m, t, em, hS⟩⟩ := hS
    · show wpAny _ A.in1 (seqItems? (.ref S) >>= _) _ _ s
      refine wpAny_bind (wpAny_seqItems hS rfl ?_)
      show wpAny _ A.in1 (tryCatch (pyNext (.ref I)) _ >>= _) _ _ s
      refine wpAny_bind (wpAny_tryCatch (W.item i s _ _ hlt hst fun v h' tk hP hst' hk' => ?_))
      have hS' := hk' S _ hSw hS
      obtain ⟨tv, rfl⟩ := hv i v hP
      show wpAny _ A.in1 (updateSeq S (fun _ => #[_, _]) >>= _) _ _ _
      refine wpAny_bind (wpAny_updateSeq hS' rfl ?_)
      rw [hname]
      refine wpAny_pure ⟨plainId_quiet PySem.F.plain_max_loop _, ih (i + 1) _ (by omega) hlt (W.frame _ _ _ hst' fun b hbf o e => ?_) ⟨_, .inr ⟨f i, tv, by simp [mxOf, em], Heap.get?_update_self _ hS' rfl⟩⟩ fun v' h'' tk'' hv' hk'' => ?_⟩
      · exact (Heap.get?_update_other _ _ (fun h : S = b => hSf (by rw [h]; exact hbf))).trans e
      · exact hR v' h'' tk'' hv' fun b o hbw hbS e => hk'' b o hbw hbS ((Heap.get?_update_other _ _ (Ne.symm hbS)).trans (hk' b o hbw e))
    · show wpAny _ A.in1 (seqItems? (.ref S) >>= _) _ _ s
      refine wpAny_bind (wpAny_seqItems hS rfl ?_)
      show wpAny _ A.in1 (tryCatch (pyNext (.ref I)) _ >>= _) _ _ s
      refine wpAny_bind (wpAny_tryCatch (W.item i s _ _ hlt hst fun v h' tk hP hst' hk' => ?_))
      have hS' := hk' S _ hSw hS
      obtain ⟨tv, rfl⟩ := hv i v hP
      show wpAny _ A.in1 (tryCatch (holding [_, _] (richCompare .Gt _ _ >>= _)) _ >>= _) _ _ _
      refine wpAny_bind (wpAny_tryCatch (wpAny_holding (wpAny_bind (int_gt ?_))))
      refine wpAny_bind (wpAny_holding (wpAny_truthy_bool ?_))
      refine wpAny_bind (wpAny_letGo (wpAny_pure ?_))
      by_cases hb : f i > m
      · rw [decide_eq_true hb]
        simp only [if_true]
        refine wpAny_bind (wpAny_updateSeq hS' rfl (wpAny_bind (wpAny_letGo ?_)))
        rw [hname]
        refine wpAny_pure ⟨plainId_quiet PySem.F.plain_max_loop _, ih (i + 1) _ (by omega) hlt (W.frame _ _ _ hst' fun b hbf o e => ?_) ⟨_, .inr ⟨f i, tv, by simp [mxOf, em, hb], Heap.get?_update_self _ hS' rfl⟩⟩ fun v' h'' tk'' hv' hk'' => ?_⟩
        · exact (Heap.get?_update_other _ _ (fun h : S = b => hSf (by rw [h]; exact hbf))).trans e
        · exact hR v' h'' tk'' hv' fun b o hbw hbS e => hk'' b o hbw hbS ((Heap.get?_update_other _ _ (Ne.symm hbS)).trans (hk' b o hbw e))
      · rw [decide_eq_false hb]
        simp only [Bool.false_eq_true, if_false]
        refine wpAny_bind (wpAny_letGo ?_)
        rw [hname]
        refine wpAny_pure ⟨plainId_quiet PySem.F.plain_max_loop _, ih (i + 1) _ (by omega) hlt hst' ⟨_, .inr ⟨m, t, by simp [mxOf, em, hb], hS'⟩⟩ fun v' h'' tk'' hv' hk'' => ?_⟩
        exact hR v' h'' tk'' hv' fun b o hbw hbS e => hk'' b o hbw hbS (hk' b o hbw e)
end
section
variable {prog : Program} {w : World} {A : Around} {E : Value → Shared → Prop} {s : Shared}
theorem args_max_dflt (a v : Value) : argsOk "max" ⟨[a], [(Str.ofString "default", v)]⟩ := by unfold argsOk; kernel_rfl
theorem call_max_dflt {x dv : Value} {Q : Value → Shared → Prop}
    (h : wpAny (model prog w) A.in1 (pyIter x) (fun it s₂ => ∃ I fp wr n P St f, it = .ref I ∧ Walks prog w A.in1 I fp wr n P St ∧ St 0 s₂.heap ∧ (∀ b ∈ fp, b < s₂.heap.objs.size) ∧ (∀ i v, P i v → ∃ t, v = .int (f i) t) ∧
      ∀ v h' tk, (match mxOf f n with | none => v = dv | some m => ∃ t, v = .int m t) → (∀ b o, b ∉ wr → s₂.heap.get? b = some o → h'.get? b = some o) → Q v { s₂ with heap := h', toks := tk }) E s) :
    wpAny (model prog w) A (call (.builtin "max") [x] [(Str.ofString "default", dv)]) Q E s := by
  have hname : (toString "max" ++ toString ".loop" : String) = "max.loop" := by decide
  refine PyProof.Rows.kmk_tree PySem.F.kind_max PySem.F.plain_max PySem.F.entry_max (args_max_dflt _ _) ?_
  show wpAny _ A.in1 (Builtin.Builtins.bindParams "max" ["key", "default"] 0 ⟨[], [(Str.ofString "default", dv)]⟩ >>= _) _ _ s
  refine wpAny_bind (wpAny_of_eq (show Builtin.Builtins.bindParams "max" ["key", "default"] 0 ⟨[], [(Str.ofString "default", dv)]⟩ = pure [none, some dv] from rfl) ?_)
  refine wpAny_bind (wpAny_pure ?_)
  refine wpAny_bind (wpAny_mono h (fun it s₂ h₂ => ?_) fun _ _ e => e)
  obtain ⟨I, fp, wr, n, P, St, f, rfl, W, hst, hfp, hv, hQ⟩ := h₂
  refine wpAny_bind (wpAny_newObj_type ?_)
  have hSf : s₂.heap.objs.size ∉ fp := fun hm => Nat.lt_irrefl _ (hfp _ hm)
  rw [hname]
  refine wpAny_pure ⟨plainId_quiet PySem.F.plain_max_loop _, max_loop W f hv _ ⟨_, dv, rfl⟩ s₂.heap.objs.size hSf n 0 _ (Nat.sub_zero _) (Nat.zero_le _) (W.frame _ _ _ hst fun b _ o e => Heap.get?_push_of_some _ e) ⟨_, .inl ⟨rfl, Heap.get?_push_size _ rfl⟩⟩ fun v h' tk hP hk => ?_⟩
  refine hQ v h' tk ?_ fun b o hbw e => hk b o hbw (Nat.ne_of_lt (Heap.lt_size e)) (Heap.get?_push_of_some _ e)
  cases em : mxOf f n with
  | none =>
    rw [em] at hP
    obtain ⟨nm, e⟩ := hP
    simp only [Option.toList, List.map_cons, List.map_nil, List.cons.injEq, Prod.mk.injEq, and_true] at e
    exact e.2.symm
  | some m =>
    rw [em] at hP
    exact hP
end

/-! ### d.values() of a dict with tuple keys; its greatest -/
def valuesO (p d : Addr) : HO := .ext fun h => h.IsValuesView p d
theorem valuesO_ok {P : Program} {w : World} {H : Hp} {h : Heap} {p d : Addr} (e : h.get? p = some { cls := .type "dict_values", data := .fields #[.ref d] }) : ObjOk P w H h p (valuesO p d) :=
  ⟨⟨_, e, rfl, rfl⟩, ⟨_, e⟩, fun h1 h2 x k => let ⟨o, ho, r⟩ := x; ⟨o, k o ho, r⟩⟩
section
variable {X : Cx}
theorem raw_of {pins : List (Addr × Obj)} {σ : L2.St} {H : Hp} {s : Shared} {a : Addr} {kvs : List (List Key × V)} (I : Inv X pins σ H s) (ha : H a = some (.dT kvs)) :
    (a == sysModules) = false ∧ ∃ (es : Array DictEntry) (ep : Nat), s.heap.DictRaw a es ep ∧ es.size = kvs.length ∧ ∀ (i : Nat) (hi : i < es.size), ∃ k v, kvs[i]? = some (k, v) ∧ RelV v es[i].val := by
  obtain ⟨z, hd, xs, rel, o, es, ep, ho, hx, hdat, hes, _, _⟩ := dt_of I.hok ha
  have hl : es.size = xs.length := by
    have q := congrArg List.length hes
    rw [Array.length_toList, List.length_map] at q
    exact q
  have hl2 : kvs.length = xs.length := Paired.length rel
  refine ⟨hd, es, ep, ⟨o, ho, hx, hdat⟩, hl.trans hl2.symm, fun i hi => ?_⟩
  have get : ∀ {kvs : List (List Key × V)} {xs : List (List Key × Addr × Value)} (_ : KT H kvs xs) (i : Nat) (y : List Key × Addr × Value), xs[i]? = some y → ∃ v, kvs[i]? = some (y.1, v) ∧ RelV v y.2.2 := by
    intro kvs xs r
    induction r with
    | nil => intro i y e; simp at e
    | cons hh t ih =>
      intro i y e
      cases i with
      | zero =>
        cases (Option.some.inj (show some _ = some y from e))
        exact ⟨_, congrArg some (Prod.ext hh.1 rfl), hh.2.2⟩
      | succ i => exact ih i y e
  have hx' : i < xs.length := hl ▸ hi
  obtain ⟨v, e1, e2⟩ := get rel i xs[i] (List.getElem?_eq_getElem hx')
  have ev : es[i].val = (xs[i]).2.2 := by
    have q : es.toList[i]? = (xs.map (entryOfKey (tupleKind (mixKind X.prog X.w))))[i]? := by rw [hes]
    rw [Array.getElem?_toList, List.getElem?_map, List.getElem?_eq_getElem hx', Array.getElem?_eq_getElem hi] at q
    have q := Option.some.inj q
    rw [q] <;> rfl
  exact ⟨_, v, e1, by rw [ev]; exact e2⟩
def rValuesT : V → List V → Hp → VK → Prop := fun x xs H Q => ∃ (a : Addr) (kvs : List (List Key × V)), x = .ref a ∧ xs = [] ∧ H a = some (.dT kvs) ∧ ∀ p, H p = none → Q (.ref p) (upd H p (valuesO p a))
theorem mt_valuesT : MtR X "dict.values" rValuesT := by
  intro pins s σ H x xs v us Q I rx rxs h
  obtain ⟨a, kvs, rfl, rfl, ha, q⟩ := h
  cases rx
  cases rxs
  obtain ⟨hd, es, ep, hr, _⟩ := raw_of I ha
  refine call_meetsIn F.slot_dict_values hr.typeIs F.entry_dict_values (F.args_dict_values_1 _) (meets_dict_values_raw a hd) ⟨⟨es, ep, hr⟩, ?_⟩
  exact ⟨.ref s.heap.objs.size, upd H s.heap.objs.size (valuesO s.heap.objs.size a), I.laid (t' := s.toks) (fun b u e => Heap.get?_push_of_some _ e) (Nat.le_refl _) (valuesO_ok (Heap.get?_push_size _ rfl)), rfl, q _ (I.hok.fresh (Nat.le_refl _))⟩
/-- what a view's walk asks and gives -/
theorem view_walk {pins : List (Addr × Obj)} {σ : L2.St} {H : Hp} {s : Shared} {p a : Addr} {kvs : List (List Key × V)} {is : List Int} {A : Around} {E : Value → Shared → Prop} (hh : A.handled = none) (I : Inv X pins σ H s) (hp : H p = some (valuesO p a)) (ha : H a = some (.dT kvs))
    (hi : kvs.map (·.2) = is.map V.int) {Q : Value → Shared → Prop}
    (h : ∀ I fp wr P St s₂ n, n = is.length → Walks X.prog X.w A I fp wr n P St → St 0 s₂.heap → (∀ b ∈ fp, b < s₂.heap.objs.size) → (∀ i v, P i v → ∃ t, v = .int (is.getD i 0) t) → (∀ b o, s.heap.get? b = some o → s₂.heap.get? b = some o ∧ b ∉ wr) →
      (∃ h₂, s₂ = { s with heap := h₂ }) → Q (.ref I) s₂) : wpAny (model X.prog X.w) A (pyIter (.ref p)) Q E s := by
  obtain ⟨hd, es, ep, hr, hz, hv⟩ := raw_of I ha
  have hpv : s.heap.IsValuesView p a := (I.hok p _ hp).1
  have hlt : a < s.heap.objs.size := let ⟨_, o, _⟩ := hr; Heap.lt_size o
  have hlen : kvs.length = is.length := by
    have q := congrArg List.length hi
    rwa [List.length_map, List.length_map] at q
  refine wpAny_pyIter_values_raw hpv hr ?_
  generalize ho : ({ cls := .type "dict_valueiterator", data := .fields #[.ref a, .int 0 0, .int es.size 0, .int ep 0] } : Obj) = o1
  have W := Walks.rawValues (prog := X.prog) (w := X.w) hh s.heap.objs.size a (Nat.ne_of_lt hlt) es ep
  have g1 : (s.heap.push o1).get? s.heap.objs.size = some o1 := Heap.get?_push_size _ (by rw [← ho] <;> rfl)
  refine h s.heap.objs.size [s.heap.objs.size, a] [s.heap.objs.size] _ _ _ _ (hz.trans hlen) W ⟨?_, hr.at fun o e => Heap.get?_push_of_some _ e⟩ (fun b hb => ?_) (fun i v hP => ?_) (fun b o e => ⟨Heap.get?_push_of_some _ e, fun z => ?_⟩) ⟨_, rfl⟩
  · exact ⟨o1, g1, by rw [← ho] <;> rfl, by rw [← ho] <;> rfl⟩
  · show b < (s.heap.push o1).objs.size
    rw [Heap.size_push]
    rcases List.mem_cons.mp hb with z | z
    · rw [z]; exact Nat.lt_succ_self _
    · rw [List.mem_singleton.mp z]; exact Nat.lt_succ_of_lt hlt
  · obtain ⟨hi', rfl⟩ := hP
    obtain ⟨k, v, e1, e2⟩ := hv i hi'
    have e3 : (kvs.map (·.2))[i]? = some v := by rw [List.getElem?_map, e1] <;> rfl
    rw [hi, List.getElem?_map] at e3
    obtain ⟨j, hj, e4⟩ := Option.map_eq_some_iff.mp e3
    subst e4
    obtain ⟨t, e5⟩ := e2
    exact ⟨t, by rw [e5, List.getD_eq_getElem?_getD, hj] <;> rfl⟩
  · exact absurd (Heap.lt_size e) (by rw [List.mem_singleton.mp z]; exact Nat.lt_irrefl _)
def IsMax (is : List Int) (m : Int) : Prop := m ∈ is ∧ ∀ j ∈ is, j ≤ m
def rMaxV : List V → Hp → VK → Prop := fun vs H Q => ∃ (p a : Addr) (kvs : List (List Key × V)) (is : List Int), vs = [.ref p] ∧ H p = some (valuesO p a) ∧ H a = some (.dT kvs) ∧ kvs.map (·.2) = is.map V.int ∧ is ≠ [] ∧ ∀ m, IsMax is m → Q (.int m) H
theorem cr_maxV (hc : X.calm = true) : CallR X (.builtin "max") rMaxV := by
  intro pins s σ H vs us Q I r h
  obtain ⟨p, a, kvs, is, rfl, hp, ha, hi, hne, q⟩ := h
  rw [Vals.ref1 r]
  refine call_max_walk (view_walk (A := X.A.in1) (show X.A.in1.handled = none from I.ok.hd hc) I hp ha hi fun It fp wr P St s₂ n en W st hfp hv k es2 => ?_)
  have hl : 0 < is.length := List.length_pos_iff.mpr hne
  subst en
  refine ⟨It, fp, wr, is.length, P, St, _, rfl, W, st, hfp, hl, CmpOf.ints_gt (fun i => is.getD i 0) hv, fun v h' tk hP hk => ?_⟩
  obtain ⟨t, rfl⟩ := hv _ v hP
  obtain ⟨h₂, rfl⟩ := es2
  obtain ⟨b1, b2⟩ := argBest_gt (fun i => is.getD i 0) (is.length - 1)
  have hb : argBest (fun i j => decide (is.getD i 0 > is.getD j 0)) (is.length - 1) < is.length := by omega
  refine ⟨.int _, H, I.kept (t' := tk) fun b u e => hk b u (k b u e).2 (k b u e).1, ⟨t, rfl⟩, q _ ⟨?_, fun j hj => ?_⟩⟩
  · rw [List.getD_eq_getElem?_getD, List.getElem?_eq_getElem hb]
    exact List.getElem_mem hb
  · obtain ⟨i, hi, e⟩ := List.mem_iff_getElem.mp hj
    have e2 : is.getD i 0 = j := by rw [List.getD_eq_getElem?_getD, List.getElem?_eq_getElem hi, ← e] <;> rfl
    rw [← e2]
    exact b2 i (by omega)
/-- max(d.values(), default=e) -/
def rMaxVD : List V → List V → Hp → VK → Prop := fun vs zs H Q => ∃ (p a : Addr) (kvs : List (List Key × V)) (is : List Int) (d : V), vs = [.ref p] ∧ zs = [d] ∧ H p = some (valuesO p a) ∧ H a = some (.dT kvs) ∧ kvs.map (·.2) = is.map V.int ∧ (is = [] → Q d H) ∧ ∀ m, IsMax is m → Q (.int m) H
theorem crk_maxV (hc : X.calm = true) : CallRK X (.builtin "max") [Str.ofString "default"] rMaxVD := by
  intro pins s σ H vs zs us ws Q I r rz h
  obtain ⟨p, a, kvs, is, d, rfl, rfl, hp, ha, hi, q0, q⟩ := h
  rw [Vals.ref1 r]
  cases rz with
  | cons rd rt =>
    cases rt
    rename_i dv
    refine call_max_dflt (view_walk (A := X.A.in1) (show X.A.in1.handled = none from I.ok.hd hc) I hp ha hi fun It fp wr P St s₂ n en W st hfp hv k es2 => ?_)
    subst en
    refine ⟨It, fp, wr, is.length, P, St, fun i => is.getD i 0, rfl, W, st, hfp, hv, fun v h' tk hP hk => ?_⟩
    obtain ⟨h₂, rfl⟩ := es2
    have J : Inv X pins σ H { s with heap := h', toks := tk } := I.kept (t' := tk) fun b u e => hk b u (k b u e).2 (k b u e).1
    rcases mxOf_spec (fun i => is.getD i 0) is.length with ⟨e0, em⟩ | ⟨m, em, ⟨i, hi', ei⟩, hb⟩
    · rw [em] at hP
      subst hP
      exact ⟨d, H, J, rd, q0 (List.length_eq_zero_iff.mp e0)⟩
    · rw [em] at hP
      obtain ⟨t, rfl⟩ := hP
      refine ⟨.int m, H, J, ⟨t, rfl⟩, q m ⟨?_, fun j hj => ?_⟩⟩
      · rw [← ei, List.getD_eq_getElem?_getD, List.getElem?_eq_getElem hi']
        exact List.getElem_mem hi'
      · obtain ⟨i2, hi2, e⟩ := List.mem_iff_getElem.mp hj
        have e2 : is.getD i2 0 = j := by rw [List.getD_eq_getElem?_getD, List.getElem?_eq_getElem hi2, ← e] <;> rfl
        rw [← e2]
        exact hb i2 hi2

/-! ### a store into a dict, as one of several targets -/
theorem set_dict (hu : X.A.units + 1 < cLine) : PSet X (fun o i v H Q => ∃ (a : Addr) (H' : Hp), o = .ref a ∧ DPut H a i v H' ∧ Q H') := by
  intro pins s σ H o i v ov iv u Q I ro ri rv h
  obtain ⟨a, H', rfl, put, q⟩ := h
  cases ro
  exact d_setItem hu I put ri rv fun s' I' => ⟨H', I', q⟩
end
end Mv
/-! set and sorted of a tuple of tuples of ints. -/
namespace Mv
open PySem PySem.Spec PyProof.Rows L2
section
variable {P : Program} {w : World} {A : Around} {E : Value → Shared → Prop} {s : Shared}
set_option maxHeartbeats 6400000 in
theorem call_set_tupsU {l : Addr} {items : Array Value} (ks : List (Addr × List Int)) {Q : Value → Shared → Prop} (hh : A.handled = none) (hl : s.heap.IsTuple l items) (hit : items.toList = ks.map fun p => Value.ref p.1)
    (hk : ∀ p ∈ ks, IsT P w s.heap p.2 p.1) (hfew : ks.length < 64) (hu : A.units + 3 < cLine)
    (h : ∀ (h' : Heap) (tk : Nat) L es ep t, SetTR P w h' s.heap.objs.size L es ep t → Got ks ks.length L → (∀ b o, s.heap.get? b = some o → h'.get? b = some o) → Q (.ref s.heap.objs.size) { s with heap := h', toks := tk }) :
    wpAny (model P w) A (call (.type "set") [.ref l]) Q E s := by
  have hisz : items.size = ks.length := by
    have q := congrArg List.length hit
    rw [Array.length_toList, List.length_map] at q
    exact q
  obtain ⟨c, tl, hmro⟩ := F.called_set.mro
  have hmade := F.called_set.made
  have hsub := F.called_set.sub
  refine wpAny_call (codeAny_of_tree ?_)
  show wpAny _ _ (callAny (.type "set") _) _ _ _
  refine wpAny_pure ⟨Code.quiet_builtin _ (by decide +kernel), codeAny_builtin F.entry_type_call ?_⟩
  rw [Around.under_plain (weight_type_call_type "set" [.ref l] []) rfl]
  have h1 := F.called_set.notType
  have h2 := F.called_set.canCreate
  have hct := F.typeCall_set_1 (.ref l)
  repeat (any_goals (first | assumption | wp_step))

  refine codeAny_mono (code_set_led1 (.ref l) (E := E) (Q₁ := fun obj s₁ => obj = .ref s.heap.objs.size ∧ s₁ = { s with heap := s.heap.push { cls := .type "set", dict := none, data := .set #[] 0 (.fresh 0 0 (!w.params.followText "set-order")) } }) ⟨rfl, rfl⟩) fun r s₁ hr => ?_
  cases r with
  | error e => exact hr
  | ok fl =>
    cases fl with
    | ret obj =>
      obtain ⟨rfl, rfl⟩ := hr
      have hS : (s.heap.push { cls := .type "set", dict := none, data := .set #[] 0 (.fresh 0 0 (!w.params.followText "set-order")) }).get? s.heap.objs.size = some { cls := .type "set", dict := none, data := .set #[] 0 (.fresh 0 0 (!w.params.followText "set-order")) } := Heap.get?_push_size _ rfl
      have hT : Shared.TypeIs { s with heap := s.heap.push { cls := .type "set", dict := none, data := .set #[] 0 (.fresh 0 0 (!w.params.followText "set-order")) } } (.ref s.heap.objs.size) "set" := ⟨_, hS, rfl⟩
      have hli := F.called_set.init.lookup
      have hbi := F.called_set.init.bind (.ref s.heap.objs.size)
      repeat (any_goals (first | assumption | wp_step))

      refine codeAny_mono (codeAny_call_builtin (R := wants (fun r s₂ => r = .none ∧ ∃ h' tk L es ep t, s₂ = { s with heap := h', toks := tk } ∧ SetTR P w h' s.heap.objs.size L es ep t ∧ Got ks ks.length L ∧
          (∀ b o, s.heap.get? b = some o → h'.get? b = some o)) E) F.called_set.init.plain F.entry_set_init (check_set_init_1 hT ?_)) fun r₂ s₂ hr₂ => ?_
      · obtain ⟨ol, hol, hcl, nl, hdl⟩ := hl
        obtain ⟨ocls, odict, odata, oslots⟩ := ol
        simp only at hcl hdl
        subst hcl; subst hdl
        have hol' : (s.heap.push { cls := .type "set", dict := none, data := .set #[] 0 (.fresh 0 0 (!w.params.followText "set-order")) }).get? l = some { cls := .type "tuple", dict := odict, data := .seq items nl, slots := oslots } := Heap.get?_push_of_some _ hol
        have hsls := F.sub_tuple_set
        have hslf := F.sub_tuple_frozenset
        have hne : (Value.type "tuple" == Value.type "dict") = false := by decide
        have hl1 : (s.heap.push { cls := .type "set", dict := none, data := .set #[] 0 (.fresh 0 0 (!w.params.followText "set-order")) }).IsTuple l items := ⟨_, hol', rfl, nl, rfl⟩
        unfold Builtin.«set.__init__» noKeywords Builtin.Frozenset.updateFrom
        generalize hPI : pyIter = PI
        wp_walk
        subst hPI

        refine wpAny_pyIter_tuple hl1 ?_
        refine wpAny_bind (wpAny_runValue ?_)
        have hlS : l < s.heap.objs.size := Heap.lt_size hol
        have hh3 : A.in1.in1.in1.handled = none := by simp [hh]
        have hz1 : (s.heap.push { cls := .type "set", dict := none, data := .set #[] 0 (.fresh 0 0 (!w.params.followText "set-order")) }).objs.size = s.heap.objs.size + 1 := Heap.size_push ..
        have hneI : l ≠ (s.heap.push { cls := .type "set", dict := none, data := .set #[] 0 (.fresh 0 0 (!w.params.followText "set-order")) }).objs.size := by
          rw [Heap.size_push]; exact Nat.ne_of_lt (Nat.lt_succ_of_lt hlS)
        have hSf : s.heap.objs.size ∉ [(s.heap.push { cls := .type "set", dict := none, data := .set #[] 0 (.fresh 0 0 (!w.params.followText "set-order")) }).objs.size, l] := by
          rw [Heap.size_push]; simp only [List.mem_cons, List.mem_singleton, List.not_mem_nil, or_false, not_or]
          exact ⟨Nat.ne_of_lt (Nat.lt_succ_self _), Nat.ne_of_gt hlS⟩
        have hval : ∀ (i : Nat) (v : Value), items[i]? = some v → ∃ p, ks[i]? = some p ∧ v = .ref p.1 := fun i v hv => by
          have q : items.toList[i]? = some v := by rw [Array.getElem?_toList]; exact hv
          rw [hit, List.getElem?_map] at q
          cases hq : ks[i]? with
          | none => rw [hq] at q; cases q
          | some p =>
            rw [hq] at q
            exact ⟨p, rfl, (Option.some.inj q).symm⟩
        have none_of : ∀ b, s.heap.objs.size ≤ b → s.heap.get? b = none := fun b hb => by
          cases q : s.heap.get? b with
          | none => rfl
          | some o => exact absurd (Nat.lt_of_lt_of_le (Heap.lt_size q) hb) (Nat.lt_irrefl _)
        refine set_update_tups ((Walks.tuple hh3 _ l hneI items).toS) s.heap.objs.size
          hSf ks hisz hfew hval s.heap hk (none_of _ (Nat.le_refl _)) (fun b hb => none_of b (by
            rw [List.mem_singleton.mp hb, Heap.size_push]
            exact Nat.le_succ _)) hu (items.size - 0) 0 _ (by omega) (Nat.zero_le _)
          ⟨⟨_, Heap.get?_push_size _ rfl, rfl, rfl⟩, (hl1.push _)⟩ (fun b o e => Heap.get?_push_of_some _ (Heap.get?_push_of_some _ e)) ?hS0 ?hR
        case hS0 =>
          have hget : ((s.heap.push { cls := .type "set", dict := none, data := .set #[] 0 (.fresh 0 0 (!w.params.followText "set-order")) }).push { cls := .type "tuple_iterator", data := .fields #[.ref l, .int 0 0] }).get? s.heap.objs.size
              = some { cls := .type "set", dict := none, data := .set #[] 0 (.fresh 0 0 (!w.params.followText "set-order")) } := Heap.get?_push_of_some _ hS
          exact ⟨[], #[], 0, _, setTR_fresh hget, Got.zero ks⟩
        case hR =>
          intro s' L es ep t hm hS' g' hkp
          obtain ⟨h', g2, d', tk', os'⟩ := s'
          have eg : g2 = s.gens := hm.gens
          have ed : d' = s.drawn := hm.drawn
          have eo : os' = s.os := hm.os
          subst eg; subst ed; subst eo
          show wpAny _ _ _ _ _ _
          refine wpAny_pure ?_
          show wpAny _ _ (ret Value.none) _ _ _
          rw [hisz] at g'
          exact wpAny_pure ⟨rfl, h', tk', L, es, ep, t, rfl, hS', g', hkp⟩

      · cases r₂ with
        | error e => exact hr₂
        | ok fl₂ =>
          cases fl₂ with
          | ret r =>
            obtain ⟨rfl, h', tk, L, es, ep, t, rfl, hS', g', hk'⟩ := hr₂
            repeat (any_goals (first | assumption | wp_step))
            exact h _ _ _ _ _ _ hS' g' hk'
          | _ => exact hr₂.elim
    | _ => exact hr.elim
end
section
variable {X : Cx}
/-- set(xs), xs a tuple of tuples of ints -/
def rSetOfTU (K : PySem.W.Frag) (P : Program) (w : World) : List V → Hp → VK → Prop := fun xs H Q => ∃ (l : Addr) (ks : List (Addr × List Int)), xs = [V.ref l] ∧ SqT K H l (ks.map fun p => V.ref p.1) ∧ (∀ p ∈ ks, SqT K H p.1 (p.2.map V.int)) ∧ ks.length < 64 ∧
  ∀ a L, H a = none → (∀ p ∈ L, p ∈ ks) → (∀ p ∈ ks, p.2 ∈ L.map (·.2)) → Q (.ref a) (upd H a (SetTO P w a L))
theorem cr_setOfTU (hc : X.calm = true) (hu : X.A.units + 64 < cLine) : CallR X (.type "set") (rSetOfTU X.K X.prog X.w) := by
  intro pins s σ H xs us Q I r h
  obtain ⟨l, ks, rfl, hl, hk, hf, q⟩ := h
  rw [Vals.ref1 r]
  obtain ⟨its, rv, pl, hz⟩ := I.tuple hl
  have pl : s.heap.IsTuple l its.toArray := pl
  have hn : H s.heap.objs.size = none := I.hok.fresh (Nat.le_refl _)
  refine call_set_tupsU (P := X.prog) (w := X.w) ks (I.ok.hd hc) pl (by simpa using refs_of_vals rv) (fun p hp => I.isT (hk p hp)) hf (by omega) fun h' tk L es ep t R g k => ?_
  refine ⟨.ref s.heap.objs.size, upd H s.heap.objs.size (SetTO X.prog X.w s.heap.objs.size L), I.laid (t' := tk) k (Nat.le_refl _) (setTO_new R.t0), rfl, q _ L hn (fun p hp => ?_) fun p hp => ?_⟩
  · exact List.mem_of_mem_take (g.sub p hp)
  · exact g.all p (by rw [List.take_length]; exact hp)
end
end Mv
/-! sorted of a tuple of tuples of ints; sum of lists; a tuple once. -/
namespace Mv
open PySem PySem.Spec PyProof.Rows L2
section
variable {prog : Program} {w : World} {A : Around} {E : Value → Shared → Prop} {s : Shared}
theorem collect_tup {l : Addr} {vs : List Value} {Q : List Value → Shared → Prop} (hl : s.heap.IsTuple l vs.toArray)
    (h : Q vs { s with heap := (s.heap.push (seqObj "list" #[] 0)).update s.heap.objs.size (Obj.mapSeq (· ++ vs.toArray)) }) (hsz : vs.length ≤ sizeLine := by size_fits) :
    wpAny (model prog w) A (collect (.ref l)) Q E s := by
  obtain ⟨o, ho, hc, n, hd⟩ := id hl
  unfold collect
  refine wpAny_bind (wpAny_runValue (codeAny_builtin entry_proto_collect' ?_))
  show wpAny _ _ (do again (.builtin "list.__iadd__" ⟨[← newList [], .ref l], []⟩)) _ _ s
  refine wpAny_bind (wpAny_newList (wpAny_pure ⟨Code.quiet_builtin _ (by decide +kernel), codeAny_builtin entry_list_iadd' ?_⟩))
  show wpAny _ _ (Builtin.List.listExtendWith (.ref s.heap.objs.size) (.ref l) (.ref s.heap.objs.size)) _ _ { s with heap := s.heap.push (seqObj "list" #[] 0) }
  unfold Builtin.List.listExtendWith
  have ho' : (s.heap.push (seqObj "list" #[] 0)).get? l = some o := Heap.get?_push_of_some _ ho
  refine wpAny_bind (wpAny_typeOf (T := "tuple") ⟨o, ho', hc⟩ ?_)
  have ht : (Value.type "tuple" == Value.type "tuple") = true := by rfl
  rw [if_pos (by rw [ht]; simp)]
  refine wpAny_bind (listItems_at ho' hd ?_)
  refine wpAny_bind (listItems_at (xs := #[]) (n := 0) (Heap.get?_push_size _ rfl) rfl ?_)
  rw [if_neg (by simp)]
  refine wpAny_bind (listUpdate_at (xs := #[]) (n := 0) (Heap.get?_push_size _ rfl) rfl ?_ (Nat.zero_le _) (by show (#[] ++ vs.toArray).size ≤ sizeLine + 1; simp only [Array.size_append, List.size_toArray, List.length_nil]; omega))
  refine wpAny_pure ?_
  show wpAny (model prog w) A (do
      let o ← load s.heap.objs.size
      match o.data with
      | .seq xs _ => pure xs.toList
      | _ => unsupported "internal:collect") Q E { s with heap := (s.heap.push (seqObj "list" #[] 0)).update s.heap.objs.size (Obj.mapSeq (· ++ vs.toArray)) }
  refine wpAny_bind (wpAny_load (get?_update_seq (Heap.get?_push_size _ rfl) _) ?_)
  show wpAny _ _ (pure ((#[] : Array Value) ++ vs.toArray).toList) Q E _
  rw [show ((#[] : Array Value) ++ vs.toArray).toList = vs by simp]
  exact wpAny_pure h
theorem sorted_tupsU {l : Addr} {vs : List Value} {d : Nat} {B : Int} {Q : Value → Shared → Prop} (hl : s.heap.IsTuple l vs.toArray) (h64 : vs.length < 64) (hd : 1 ≤ d) (x : TS.TupsOk s.heap d B vs)
    (h : ∀ out : Array Value, out.toList.Perm vs → out.toList.Pairwise (fun u v => TS.code B (TS.intsOf s.heap u) ≤ TS.code B (TS.intsOf s.heap v)) → Q (.ref (s.heap.objs.size + 1)) { s with heap := sortedAll s.heap vs out }) :
    wpAny (model prog w) A (call (.builtin "sorted") [.ref l]) Q E s := by
  refine Calls.call_function_entry kind_sorted plain_sorted entry_sorted (args_sorted1 _) ?_
  unfold Builtin.«sorted»
  refine wpAny_bind (m := checkCount "sorted" 1 1 _) (wpAny_pure ?_)
  refine wpAny_bind (collect_tup hl ?_ (by rw [sizeLine_eq]; omega))
  refine wpAny_bind (wpAny_newList ?_ (by rw [sizeLine_eq]; omega))
  have hsz : ((s.heap.push (seqObj "list" #[] 0)).update s.heap.objs.size (Obj.mapSeq (· ++ vs.toArray))).objs.size = s.heap.objs.size + 1 := by
    rw [Heap.size_update, size_push']
  have hoL : (((s.heap.push (seqObj "list" #[] 0)).update s.heap.objs.size (Obj.mapSeq (· ++ vs.toArray))).push (seqObj "list" vs.toArray 0)).get? (s.heap.objs.size + 1) = some (seqObj "list" vs.toArray 0) := by
    rw [← hsz]; exact Heap.get?_push_size _ rfl
  have keep : ∀ b o, s.heap.get? b = some o → o.cls = .type "tuple" → (((s.heap.push (seqObj "list" #[] 0)).update s.heap.objs.size (Obj.mapSeq (· ++ vs.toArray))).push (seqObj "list" vs.toArray 0)).get? b = some o := fun b o q _ => by
    have hlt : b < s.heap.objs.size := Heap.lt_size q
    rw [Heap.get?_push_ne _ _ _ (by rw [hsz]; exact Nat.ne_of_lt (Nat.lt_succ_of_lt hlt)), Heap.get?_update_ne _ _ _ _ (Nat.ne_of_lt hlt), Heap.get?_push_ne _ _ _ (Nat.ne_of_lt hlt)]
    exact q
  show wpAny _ _ _ _ _ { s with heap := ((s.heap.push (seqObj "list" #[] 0)).update s.heap.objs.size (Obj.mapSeq (· ++ vs.toArray))).push (seqObj "list" vs.toArray 0) }
  rw [hsz]
  refine wpAny_bind (wpAny_holding (wpAny_call_entry slot_list_sort ⟨_, hoL, rfl⟩ entry_list_sort (TS.sort_tups hoL h64 hd (x.keeps keep) (fun v => TS.code B (TS.intsOf s.heap v)) (fun v hv ns t => ?_) fun out a1 a2 => ⟨_, rfl, ?_⟩) (args_list_sort _)))
  · obtain ⟨ns0, t0, _⟩ := x v hv
    have e : ns = ns0 := t.ints.symm.trans (t0.keeps keep).ints
    rw [e]
    show TS.code B (TS.intsOf s.heap v) = TS.code B ns0
    rw [t0.ints]
  · exact wpAny_pure ⟨_, rfl, h out a1 a2⟩

end
section
variable {X : Cx} {pins : List (Addr × Obj)} {σ : L2.St} {H : Hp} {s : Shared}
def rSortUU (K : PySem.W.Frag) (d : Nat) (B : Int) : List V → Hp → VK → Prop := fun vs H Q => ∃ (a : Addr) (xs : List V), vs = [V.ref a] ∧ SqT K H a xs ∧ xs.length < 64 ∧ (∀ x ∈ xs, ∃ ns, TupI K H x ns ∧ ns.length = d ∧ TS.Bd B ns) ∧
  ∀ (ys : List V) (p : Addr), ys.Perm xs → ys.Pairwise (fun x y => ∀ n m, TupI K H x n → TupI K H y m → TS.code B n ≤ TS.code B m) → H p = none → Q (.ref p) (upd H p (.lst ys))
theorem cr_sortTU {d : Nat} {B : Int} (hd : 1 ≤ d) : CallR X (.builtin "sorted") (rSortUU X.K d B) := by
  intro pins s σ H vs us Q I r h
  obtain ⟨a, xs, rfl, hs, h64, hx, q⟩ := h
  obtain ⟨its, rv, hl, hz⟩ := I.tuple hs
  rw [Vals.ref1 r]
  obtain ⟨e1, e2⟩ := bkV_refs rv fun x m => by
    obtain ⟨ns, ⟨t, e, _⟩, _⟩ := hx x m
    exact ⟨t, e⟩
  refine sorted_tupsU (d := d) (B := B) (show s.heap.IsTuple a its.toArray from hl) (by rw [← rv.length]; exact h64) hd (fun v hv => ?_) fun out h1 h2 => ?_
  · obtain ⟨t, rfl⟩ := e2 v hv
    have hm : V.ref t ∈ xs := by
      rw [e1]
      exact List.mem_map.mpr ⟨_, hv, rfl⟩
    obtain ⟨ns, ⟨t', e, ht⟩, hn, hb⟩ := hx _ hm
    cases e
    exact ⟨ns, tupI_raw I ht, hn, hb⟩
  · obtain ⟨ep, he'⟩ := PyProof.Rows.sortedAll_at s.heap its out
    have h3 : ∀ u ∈ out.toList, ∃ a, u = Value.ref a := fun u hu => e2 u (h1.mem_iff.mp hu)
    have hp : (out.toList.map bkV).Perm xs := by
      rw [e1]
      exact h1.map bkV
    have hlen : (out.toList.map bkV).length ≤ sizeLine := by
      rw [hp.length_eq]
      exact hz
    refine ⟨.ref _, upd H (s.heap.objs.size + 1) (.lst (out.toList.map bkV)), I.laid (t' := s.toks) (fun _ _ => PyProof.Rows.sortedAll_old) (Nat.le_succ _) ⟨hlen, out.toList, ep, bkV_vals h3, he'⟩, rfl, q _ _ hp ?_ (I.hok.fresh (Nat.le_succ _))⟩
    rw [List.pairwise_map]
    refine List.Pairwise.imp (fun {u v} huv n m hn hm => ?_) h2
    obtain ⟨t, et, ht⟩ := hn
    obtain ⟨t', et', ht'⟩ := hm
    have eu := bkV_ref et
    have ev := bkV_ref et'
    have i1 : TS.intsOf s.heap u = n := by
      rw [eu]
      exact (tupI_raw I ht).ints
    have i2 : TS.intsOf s.heap v = m := by
      rw [ev]
      exact (tupI_raw I ht').ints
    rw [← i1, ← i2]
    exact huv

end
/-! ### sum(xs, ys) of lists -/
section
variable {prog : Program} {w : World} {A : Around} {E : Value → Shared → Prop}
theorem args_sum2 (a b : Value) : argsOk "sum" ⟨[a, b], []⟩ := by unfold argsOk; kernel_rfl
def flat (ls : List (Addr × List Value)) : List Value := (ls.map (·.2)).flatten
theorem sum_loopL {R : Result → Shared → Prop} (hh : A.in1.handled = none) (I ax S : Addr) (h0 : Heap) (ls : List (Addr × List Value)) (hI0 : h0.get? I = none) (hS0 : h0.get? S = none) (hax : ∃ o, h0.get? ax = some o) (hIS : I ≠ S)
    (hl : ∀ p ∈ ls, ∃ c, IsL h0 p.1 p.2.toArray c) (items : Array Value) (hit : items.toList = ls.map fun p => Value.ref p.1) :
    ∀ (k i : Nat) (s : Shared) (t : Addr) (acc : List Value) (c cc : Nat), ls.length - i = k → i ≤ ls.length → s.heap.IsListIter I ax i → s.heap.IsList ax items → (∀ b o, h0.get? b = some o → s.heap.get? b = some o) → h0.objs.size ≤ s.heap.objs.size →
      IsL s.heap S #[.ref t] cc → IsL s.heap t acc.toArray c → t ≠ I → t ≠ S → acc.length + (flat (ls.drop i)).length ≤ sizeLine →
      (∀ h' tk t' c', (∀ b o, h0.get? b = some o → h'.get? b = some o) → (i = ls.length → t' = t) → (i < ls.length → h0.objs.size ≤ t') → IsL h' t' (acc ++ flat (ls.drop i)).toArray c' → R (.ok (.ret (.ref t'))) { s with heap := h', toks := tk }) →
      codeAny (model prog w) A (.builtin "sum.loop" ⟨[.ref I, .ref S, rawInt 2, rawInt 0], []⟩) R s := by
  obtain ⟨oax, hax⟩ := hax
  have nai : ax ≠ I := fun e => by rw [e, hI0] at hax; cases hax
  have nas : ax ≠ S := fun e => by rw [e, hS0] at hax; cases hax
  have hn : items.size = ls.length := by
    have q := congrArg List.length hit
    rwa [Array.length_toList, List.length_map] at q
  intro k
  induction k with
  | zero =>
    intro i s t acc c cc hk hi hst hax' hkp hsz hS ht h1 h2 hz hR
    have hin : i = ls.length := by omega
    refine codeAny_builtin F.entry_sum_loop ?_
    rw [Around.under_plainId F.plain_sum_loop _]
    show wpAny _ A.in1 (seqItems? (.ref S) >>= _) _ _ s
    refine wpAny_bind (wpAny_seqItems hS rfl ?_)
    show wpAny _ A.in1 (tryCatch (pyNext (.ref I)) _ >>= _) _ _ s
    refine wpAny_bind (wpAny_tryCatch (wpAny_pyNext_list_end hh hst hax' (Array.getElem?_eq_none (by rw [hn]; omega)) fun h' he' => ?_))
    refine wpAny_pure (hR h' s.toks t c (fun b o e => (he' b o (fun z => by rw [z, hI0] at e; cases e) (hkp b o e))) (fun _ => rfl) (fun z => absurd z (by omega)) ?_)
    have e0 : flat (ls.drop i) = [] := by rw [hin, List.drop_length] <;> rfl
    rw [e0, List.append_nil]
    exact he' t _ h1 ht
  | succ k ih =>
    intro i s t acc c cc hk hi hst hax' hkp hsz hS ht h1 h2 hz hR
    have hlt : i < ls.length := by omega
    obtain ⟨p, hp⟩ : ∃ p, ls[i]? = some p := ⟨ls[i], List.getElem?_eq_getElem hlt⟩
    have hx : items[i]? = some (Value.ref p.1) := by
      rw [← Array.getElem?_toList, hit, List.getElem?_map, hp] <;> rfl
    obtain ⟨cp, hlp⟩ := hl p (List.mem_of_getElem? hp)
    have nps : p.1 ≠ S := fun e => by
      have q : h0.get? p.1 = some _ := hlp
      rw [e, hS0] at q; cases q
    have npi : p.1 ≠ I := fun e => by
      have q : h0.get? p.1 = some _ := hlp
      rw [e, hI0] at q; cases q
    have ed : ls.drop i = p :: ls.drop (i + 1) := by
      rw [List.drop_eq_getElem_cons hlt]
      congr 1
      rw [List.getElem?_eq_getElem hlt] at hp
      exact Option.some.inj hp
    have ef : flat (ls.drop i) = p.2 ++ flat (ls.drop (i + 1)) := by rw [ed] <;> rfl
    refine codeAny_builtin F.entry_sum_loop ?_
    rw [Around.under_plainId F.plain_sum_loop _]
    show wpAny _ A.in1 (seqItems? (.ref S) >>= _) _ _ s
    refine wpAny_bind (wpAny_seqItems hS rfl ?_)
    show wpAny _ A.in1 (tryCatch (pyNext (.ref I)) _ >>= _) _ _ s
    refine wpAny_bind (wpAny_tryCatch (wpAny_pyNext_list_item hst hax' hx fun h1' hit' hs' => ?_))
    have hs1 := hs'.extBut
    have hS1 : IsL h1' S #[.ref t] cc := hs1 S _ hIS.symm hS
    have ht1 : IsL h1' t acc.toArray c := hs1 t _ h1 ht
    have hk1 : ∀ b o, h0.get? b = some o → h1'.get? b = some o := fun b o e => hs1 b o (fun z => by rw [z, hI0] at e; cases e) (hkp b o e)
    have hsz1 : h0.objs.size ≤ h1'.objs.size := by rw [hs'.1]; exact hsz
    have hp1 : IsL h1' p.1 p.2.toArray cp := hk1 _ _ hlp
    have hax1 : h1'.IsList ax items := by
      obtain ⟨o, ho, r⟩ := hax'
      exact ⟨o, hs1 ax o nai ho, r⟩
    show wpAny _ A.in1 ((holding [Value.ref p.1] (binaryOp .Add (.ref t) (.ref p.1))).attempt >>= _) _ _ _
    have lsz : acc.length + p.2.length ≤ sizeLine := by
      rw [ef, List.length_append] at hz
      omega
    refine wpAny_bind (wpAny_attempt (wpAny_holding (P.add_list (s := { s with heap := h1' }) ht1 hp1 ?_ (by rw [List.size_toArray, List.size_toArray]; exact lsz))))
    have eap : acc.toArray ++ p.2.toArray = (acc ++ p.2).toArray := by simp
    rw [eap]
    have gT : IsL (h1'.push { cls := .type "list", data := .seq (acc ++ p.2).toArray }) h1'.objs.size (acc ++ p.2).toArray 0 := IsL.new _ _
    have lS : S < h1'.objs.size := Heap.lt_size hS1
    have lI : I < h1'.objs.size := let ⟨_, e, _⟩ := hit'; Heap.lt_size e
    have hS2 : IsL (h1'.push { cls := .type "list", data := .seq (acc ++ p.2).toArray }) S #[.ref t] cc := hS1.push _
    show wpAny _ A.in1 (updateSeq S (fun _ => #[.ref h1'.objs.size]) >>= _) _ _ { s with heap := h1'.push { cls := .type "list", data := .seq (acc ++ p.2).toArray } }
    refine wpAny_bind (wpAny_updateSeq hS2 rfl ?_)
    have hS3 := Heap.get?_update_self (Obj.mapSeq fun _ => #[Value.ref h1'.objs.size]) hS2 rfl
    refine wpAny_bind (wpAny_letGo ?_)
    refine wpAny_bind (wpAny_updateSeq hS3 rfl ?_)
    have hS4 := Heap.get?_update_self (Obj.mapSeq fun _ => #[Value.ref h1'.objs.size]) hS3 rfl
    have up : ∀ b o, b ≠ S → h1'.get? b = some o → (((h1'.push { cls := .type "list", data := .seq (acc ++ p.2).toArray }).update S (Obj.mapSeq fun _ => #[Value.ref h1'.objs.size])).update S (Obj.mapSeq fun _ => #[Value.ref h1'.objs.size])).get? b = some o := fun b o hb e =>
      (Heap.get?_update_other _ _ (Ne.symm hb)).trans ((Heap.get?_update_other _ _ (Ne.symm hb)).trans (Heap.get?_push_of_some _ e))
    refine wpAny_pure ⟨plainId_quiet F.plain_sum_loop _, ih (i + 1) _ h1'.objs.size (acc ++ p.2) 0 _ (by omega) hlt (hit'.at fun o e => up I o hIS e) ?_ (fun b o e => up b o (fun z => by rw [z, hS0] at e; cases e) (hk1 b o e)) (by rw [Heap.size_update, Heap.size_update, Heap.size_push]; exact Nat.le_succ_of_le hsz1) hS4 ?_ (Nat.ne_of_gt lI) (Nat.ne_of_gt lS) ?_ fun h' tk t' c' k1 k2 k3 k4 => ?_⟩
    · obtain ⟨o, ho, r⟩ := hax1
      exact ⟨o, up ax o nas ho, r⟩
    · exact (Heap.get?_update_other _ _ (Nat.ne_of_lt lS)).trans ((Heap.get?_update_other _ _ (Nat.ne_of_lt lS)).trans gT)
    · rw [List.length_append]
      rw [ef, List.length_append] at hz
      omega
    · refine hR h' tk t' c' k1 (fun z => absurd z (by omega)) (fun _ => ?_) ?_
      · rcases Nat.lt_or_ge (i + 1) ls.length with z | z
        · exact k3 z
        · rw [k2 (by omega)]
          exact hsz1
      · rw [ef, ← List.append_assoc]
        exact k4
variable {s : Shared}
theorem call_sumLL {l st : Addr} {acc : List Value} {c : Nat} {Q : Value → Shared → Prop} (hh : A.handled = none) (ls : List (Addr × List Value)) (items : Array Value) (hL : s.heap.IsList l items) (hit : items.toList = ls.map fun p => Value.ref p.1)
    (hl : ∀ p ∈ ls, ∃ c, IsL s.heap p.1 p.2.toArray c) (hst : IsL s.heap st acc.toArray c) (hz : acc.length + (flat ls).length ≤ sizeLine)
    (h : ∀ h' tk t' c', (∀ b o, s.heap.get? b = some o → h'.get? b = some o) → (ls = [] → t' = st) → (ls ≠ [] → s.heap.objs.size ≤ t') → IsL h' t' (acc ++ flat ls).toArray c' → Q (.ref t') { s with heap := h', toks := tk }) :
    wpAny (model prog w) A (call (.builtin "sum") [.ref l, .ref st]) Q E s := by
  refine call_function_tree F.kind_sum F.plain_sum F.entry_sum (args_sum2 _ _) ?_
  unfold Builtin.«sum»
  simp only [List.length_cons, List.length_nil]
  rw [if_neg (by decide)]
  refine wpAny_bind (wpAny_of_eq (show Builtin.Builtins.bindParams "sum" ["start"] 0 ⟨[.ref st], []⟩ = pure [some (.ref st)] from rfl) ?_)
  refine wpAny_bind (wpAny_pyIter_list hL ?_)
  refine wpAny_bind (wpAny_pure ?_)
  have oT : Shared.TypeIs { s with heap := s.heap.push { cls := .type "list_iterator", data := .fields #[.ref l, .int 0 0] } } (.ref st) "list" := ⟨_, hst.push _, rfl⟩
  simp only [List.forIn_cons, List.forIn_nil]
  refine wpAny_bind (wpAny_bind (wpAny_bind (wpAny_isInstance (T := "list") (b := false) oT F.sub_list_str ?_)))
  simp only [Bool.false_eq_true, if_false]
  refine wpAny_pure (wpAny_bind (wpAny_bind (wpAny_isInstance (T := "list") (b := false) oT F.sub_list_bytes ?_)))
  simp only [Bool.false_eq_true, if_false]
  refine wpAny_pure (wpAny_bind (wpAny_bind (wpAny_isInstance (T := "list") (b := false) oT F.sub_list_bytearray ?_)))
  simp only [Bool.false_eq_true, if_false]
  refine wpAny_pure (wpAny_pure ?_)
  refine wpAny_bind (wpAny_newObj_type ?_)
  generalize ho : ({ cls := .type "list_iterator", data := .fields #[.ref l, .int 0 0] } : Obj) = oi at oT ⊢
  have hz1 : (s.heap.push oi).objs.size = s.heap.objs.size + 1 := Heap.size_push ..
  have none_of : ∀ b, s.heap.objs.size ≤ b → s.heap.get? b = none := fun b hb => by
    cases q : s.heap.get? b with
    | none => rfl
    | some o => exact absurd (Nat.lt_of_lt_of_le (Heap.lt_size q) hb) (Nat.lt_irrefl _)
  have gi : (s.heap.push oi).get? s.heap.objs.size = some oi := Heap.get?_push_size _ (by rw [← ho] <;> rfl)
  have hlt : st < s.heap.objs.size := Heap.lt_size hst
  refine wpAny_pure ⟨plainId_quiet F.plain_sum_loop _, sum_loopL (show A.in1.handled = none by simpa using hh) s.heap.objs.size l (s.heap.push oi).objs.size s.heap ls (none_of _ (Nat.le_refl _)) (none_of _ (by rw [hz1]; exact Nat.le_succ _)) (let ⟨o, e, _⟩ := hL; ⟨o, e⟩) (by rw [hz1]; exact Nat.ne_of_lt (Nat.lt_succ_self _)) hl items hit
    ls.length 0 _ st acc c 0 rfl (Nat.zero_le _) ⟨oi, Heap.get?_push_of_some _ gi, by rw [← ho] <;> rfl, by rw [← ho] <;> rfl⟩ (let ⟨o, e, r⟩ := hL; ⟨o, Heap.get?_push_of_some _ (Heap.get?_push_of_some _ e), r⟩) (fun b o e => Heap.get?_push_of_some _ (Heap.get?_push_of_some _ e))
    (by rw [Heap.size_push, Heap.size_push]; omega) (Heap.get?_push_size _ rfl) ((hst.push _).push _) (Nat.ne_of_lt hlt) (by rw [hz1]; exact Nat.ne_of_lt (Nat.lt_succ_of_lt hlt)) (by rw [List.drop_zero]; exact hz) fun h' tk t' c' k1 k2 k3 k4 => ?_⟩
  rw [List.drop_zero] at k4
  exact h h' tk t' c' k1 (fun e => k2 (by rw [e] <;> rfl)) (fun e => k3 (List.length_pos_iff.mpr e)) k4
end
section
variable {X : Cx}
/-- sum(xss, ys) of a list of lists: ys itself where xss is empty, else a new list -/
def rSumL : List V → Hp → VK → Prop := fun vs H Q => ∃ (l st : Addr) (ls : List (Addr × List V)) (ys : List V), vs = [.ref l, .ref st] ∧ H l = some (.lst (ls.map fun p => V.ref p.1)) ∧ (∀ p ∈ ls, H p.1 = some (.lst p.2)) ∧ H st = some (.lst ys) ∧ ys.length + (ls.map (·.2)).flatten.length ≤ sizeLine ∧
  (ls = [] → Q (.ref st) H) ∧ ∀ p, H p = none → Q (.ref p) (upd H p (.lst (ys ++ (ls.map (·.2)).flatten)))
theorem raw_lists {pins : List (Addr × Obj)} {σ : L2.St} {H : Hp} {s : Shared} (I : Inv X pins σ H s) : ∀ ls : List (Addr × List V), (∀ p ∈ ls, H p.1 = some (.lst p.2)) →
    ∃ rs : List (Addr × List Value), rs.map (·.1) = ls.map (·.1) ∧ (∀ p ∈ rs, ∃ c, IsL s.heap p.1 p.2.toArray c) ∧ Vals (ls.map (·.2)).flatten (flat rs)
  | [], _ => ⟨[], rfl, fun _ h => absurd h (by simp), .nil⟩
  | p :: ls, h => by
    obtain ⟨rs, e1, e2, e3⟩ := raw_lists I ls fun q hq => h q (List.mem_cons_of_mem _ hq)
    obtain ⟨z, its, n, r, hl, e⟩ := I.lstM (h p List.mem_cons_self)
    refine ⟨(p.1, its) :: rs, by rw [List.map_cons, List.map_cons, e1], fun q hq => ?_, r.append e3⟩
    rcases List.mem_cons.mp hq with z | z
    · subst z
      exact ⟨n, e⟩
    · exact e2 q z
theorem cr_sumL (hc : X.calm = true) : CallR X (.builtin "sum") rSumL := by
  intro pins s σ H vs us Q I r h
  obtain ⟨l, st, ls, ys, rfl, hl, hls, hst, hz, q0, q⟩ := h
  cases r with
  | cons r1 rt =>
  cases rt with
  | cons r2 rt =>
  cases rt
  cases r1
  cases r2
  obtain ⟨rs, e1, e2, e3⟩ := raw_lists I ls hls
  obtain ⟨z, its, n, rv, hlen, e⟩ := I.lstM hl
  obtain ⟨z2, its2, n2, rv2, hlen2, eS⟩ := I.lstM hst
  have hits : its = rs.map fun p => Value.ref p.1 := by
    have a : Vals ((rs.map (·.1)).map V.ref) its := by
      rw [e1, List.map_map]
      exact rv
    have : ∀ (as : List Addr) (us : List Value), Vals (as.map V.ref) us → us = as.map Value.ref := by
      intro as
      induction as with
      | nil => intro us h; cases h; rfl
      | cons a as ih =>
        intro us h
        cases h with
        | cons r t =>
          cases r
          rw [ih _ t] <;> rfl
    rw [this _ _ a, List.map_map] <;> rfl
  have hf : (flat rs).length = (ls.map (·.2)).flatten.length := e3.length.symm
  refine call_sumLL (I.ok.hd hc) rs its.toArray (IsL.isList e) (by simpa using hits) e2 eS (by rw [← hlen2, hf]; exact hz) fun h' tk t' c' k1 k2 k3 k4 => ?_
  have J : Inv X pins σ H { s with heap := h', toks := tk } := I.kept (t' := tk) k1
  rcases Classical.em (ls = []) with z | z
  · have zr : rs = [] := by
      have := congrArg List.length e1
      rw [z] at this
      exact List.eq_nil_of_length_eq_zero (by simpa using this)
    rw [k2 zr]
    exact ⟨.ref st, H, J, rfl, q0 z⟩
  · have zr : rs ≠ [] := fun q => z (by
      have := congrArg List.length e1
      rw [q] at this
      exact List.eq_nil_of_length_eq_zero (by simpa using this.symm))
    have k5 := k3 zr
    refine ⟨.ref t', _, I.laid (t' := tk) (o := .lst (ys ++ (ls.map (·.2)).flatten)) k1 k5 ⟨by rw [List.length_append]; exact hz, _, c', rv2.append e3, k4⟩, rfl, q _ (I.hok.fresh k5)⟩
end
end Mv
/-! A tuple times one; a dict of pairs with tuple keys. -/
namespace Mv
open PySem PySem.Spec PyProof.Rows L2
theorem tuple_mul1 (l : Addr) (items : Array Value) (n : Nat) (dd : Option Addr) (sl : Array (Option Value)) (u : Tok) :
    Meets (Builtin.«tuple.__mul__» ⟨[.ref l, .int 1 u], []⟩) (fun _ R s => s.heap.get? l = some { cls := .type "tuple", dict := dd, data := .seq items n, slots := sl } ∧ R (.ok (.ret (Value.ref l))) { s with toks := s.toks }) :=
  .of_wp fun prog w A R s h => by
    obtain ⟨hp, g, d, tk, os⟩ := s
    obtain ⟨hl, h⟩ := h
    have f1 := AutoSeq1.idx_int
    have c0 : ¬ (decide ((1 : Int) < -(2 ^ 63)) || decide ((1 : Int) ≥ 2 ^ 63)) = true := by decide
    have c1 : (items.isEmpty || (1 : Int) == 1) = true := by simp
    wp_walk using AutoSeq1.wpAny_loadPart' hl
    repeat (first
      | (refine wpAny_ite_false (decide_eq_false c0) ?_; wp_walk using AutoSeq1.wpAny_loadPart' hl)
      | (refine wpAny_ite_true (decide_eq_true c1) ?_; wp_walk using AutoSeq1.wpAny_loadPart' hl))
    exact ⟨_, rfl, h⟩
/-- a tuple times a small count: the very tuple where it is 1 -/
def rRepU (K : PySem.W.Frag) : R2 := fun x y H Q => ∃ l k xs, x = .ref l ∧ y = .int k ∧ SqT K H l xs ∧ xs ≠ [] ∧ 1 ≤ k ∧ k ≤ 1000 ∧ xs.length ≤ 1000 ∧ (k = 1 → Q (.ref l) H) ∧ (k ≠ 1 → ∀ p, H p = none → Q (.ref p) (upd H p (.tup (List.replicate k.toNat xs).flatten)))
section
variable {X : Cx}
theorem op_repU : OpR X (binaryOp .Mult) (rRepU X.K) := by
  intro pins s σ H x y v u Q I rx ry h
  obtain ⟨l, k, xs, rfl, rfl, hT, hne, h1, h2, hz, q1, q2⟩ := h
  by_cases e : k = 1
  · subst e
    cases rx
    obtain ⟨t, rfl⟩ := ry
    obtain ⟨its, r, ⟨⟨cls, dd, data, sl⟩, ho, hc, n, hd⟩, hs⟩ := I.tuple hT
    simp only at hc hd
    subst hc hd
    refine wpAny_binaryOp_repeat_ref (T := "tuple") (U := "int") (by decide) ⟨_, ho, rfl⟩ (fun s' => typeIs_int s' 1 t) noFill_tuple_mul F.fills_int_mul F.slot_int_rmul repeat_tuple F.slot_int_index.lookup
      (call_meets F.slot_int_rmul (typeIs_int s 1 t) F.entry_int_rmul (F.args_int_rmul_2 _ _) (int_rmul_tuple 1 t l its.toArray n dd sl)
        ⟨ho, rfl, ⟨_, ho, rfl⟩, call_meets F.slot_tuple_mul ⟨_, ho, rfl⟩ F.entry_tuple_mul (F.args_tuple_mul_2 _ _) (tuple_mul1 l its.toArray n dd sl t) ⟨ho, ?_⟩⟩)
    exact ⟨.ref l, H, I, rfl, q1 rfl⟩
  · exact op_repT pins s σ H _ _ _ _ Q I rx ry ⟨l, k, xs, rfl, rfl, hT, hne, by omega, h2, hz, q2 e⟩

/-! ### dict(pairs), the keys tuples -/
theorem raw_pairs {pins : List (Addr × Obj)} {σ : L2.St} {H : Hp} {s : Shared} (I : Inv X pins σ H s) : ∀ ps : List (Addr × List Key × Addr × V), (∀ p ∈ ps, H p.1 = some (.tup [.ref p.2.2.1, p.2.2.2])) →
    ∃ rs : List (Addr × List Key × Addr × Value), rs.map (fun r => Value.ref r.1) = ps.map (fun p => Value.ref p.1) ∧ (∀ r ∈ rs, s.heap.IsTuple r.1 #[.ref r.2.2.1, r.2.2.2]) ∧
      Paired (fun (p : Addr × List Key × Addr × V) (r : Addr × List Key × Addr × Value) => p.1 = r.1 ∧ p.2.1 = r.2.1 ∧ p.2.2.1 = r.2.2.1 ∧ RelV p.2.2.2 r.2.2.2) ps rs
  | [], _ => ⟨[], rfl, fun _ h => absurd h (by simp), .nil⟩
  | p :: ps, h => by
    obtain ⟨rs, e1, e2, e3⟩ := raw_pairs I ps fun q hq => h q (List.mem_cons_of_mem _ hq)
    obtain ⟨its, rv, pl, _⟩ := I.tuple (xs := [.ref p.2.2.1, p.2.2.2]) (.inl (.inl (h p List.mem_cons_self)))
    cases rv with
    | cons r1 rt =>
    cases rt with
    | cons r2 rt =>
    cases rt
    cases r1
    rename_i u2
    refine ⟨(p.1, p.2.1, p.2.2.1, u2) :: rs, by rw [List.map_cons, List.map_cons, e1], fun q hq => ?_, .cons ⟨rfl, rfl, rfl, r2⟩ e3⟩
    rcases List.mem_cons.mp hq with z | z
    · subst z
      exact pl
    · exact e2 q z
def rDictPT : List V → Hp → VK → Prop := fun vs H Q => ∃ (l : Addr) (ps : List (Addr × List Key × Addr × V)), vs = [.ref l] ∧ H l = some (.lst (ps.map fun p => V.ref p.1)) ∧ (∀ p ∈ ps, H p.1 = some (.tup [.ref p.2.2.1, p.2.2.2])) ∧ (∀ p ∈ ps, H p.2.2.1 = some (.tup (p.2.1.map kV))) ∧
  ∀ d, H d = none → Q (.ref d) (upd H d (.dT (ps.foldl (fun acc p => putK acc p.2.1 p.2.2.2) [])))
theorem kt_fold {H : Hp} : ∀ {ps : List (Addr × List Key × Addr × V)} {rs : List (Addr × List Key × Addr × Value)} {kvs : List (List Key × V)} {xs : List (List Key × Addr × Value)},
    Paired (fun (p : Addr × List Key × Addr × V) (r : Addr × List Key × Addr × Value) => p.1 = r.1 ∧ p.2.1 = r.2.1 ∧ p.2.2.1 = r.2.2.1 ∧ RelV p.2.2.2 r.2.2.2) ps rs → (∀ p ∈ ps, H p.2.2.1 = some (.tup (p.2.1.map kV))) → KT H kvs xs →
    KT H (ps.foldl (fun acc p => putK acc p.2.1 p.2.2.2) kvs) (storedAllH xs (rs.map fun r => r.2))
  | _, _, _, _, .nil, _, r => r
  | _, _, _, _, .cons (a := p) (b := q) (l₁ := ps) (l₂ := rs) h t, hk, r => by
    obtain ⟨h1, h2, h3, h4⟩ := h
    have z := KT.put r p.2.1 (hk p List.mem_cons_self) h4
    rw [h2, h3] at z
    have w := kt_fold t (fun x hx => hk x (List.mem_cons_of_mem _ hx)) z
    show KT H (ps.foldl _ (putK _ p.2.1 p.2.2.2)) (storedAllH (storedH _ q.2.1 q.2.2.1 q.2.2.2) (rs.map fun r => r.2))
    rw [h2]
    exact w
theorem paired_at {α β : Type} {F : α → β → Prop} : ∀ {xs : List α} {ys : List β}, Paired F xs ys → ∀ (i : Nat) (y : β), ys[i]? = some y → ∃ x, xs[i]? = some x ∧ F x y
  | _, _, .nil, i, y, h => by simp at h
  | _, _, .cons (a := a) h t, 0, y, e => by
    cases (Option.some.inj (show some _ = some y from e))
    exact ⟨a, rfl, h⟩
  | _, _, .cons h t, i + 1, y, e => paired_at t i y e
theorem cr_dictPT (hc : X.calm = true) (hu : X.A.units + 64 < cLine) : CallR X (.type "dict") rDictPT := by
  intro pins s σ H vs us Q I r h
  obtain ⟨l, ps, rfl, hl, hp, hk, q⟩ := h
  rw [Vals.ref1 r]
  obtain ⟨rs, e1, e2, e3⟩ := raw_pairs I ps hp
  obtain ⟨z, its, n, rv, hlen, e⟩ := I.lstM hl
  have refs : ∀ (as : List Addr) (us : List Value), Vals (as.map V.ref) us → us = as.map Value.ref := by
    intro as
    induction as with
    | nil => intro us h; cases h; rfl
    | cons a as ih =>
      intro us h
      cases h with
      | cons r t =>
        cases r
        rw [ih _ t] <;> rfl
  have hits : its = rs.map fun p => Value.ref p.1 := by
    rw [e1]
    have := refs (ps.map (·.1)) its (by rw [List.map_map]; exact rv)
    rw [this, List.map_map] <;> rfl
  have hpl : ps.length = rs.length := Paired.length e3
  have key : ∀ r ∈ rs, H r.2.2.1 = some (.tup (r.2.1.map kV)) := by
    intro r hr
    obtain ⟨i, hi, ei⟩ := List.mem_iff_getElem.mp hr
    obtain ⟨p, hpi, h1, h2, h3, h4⟩ := paired_at e3 i r (by rw [List.getElem?_eq_getElem hi, ei])
    rw [← h3, ← h2]
    exact hk p (List.mem_of_getElem? hpi)
  have hraw : (rs.map fun r => (Value.ref r.2.2.1, r.2.2.2)).length = rs.length := List.length_map _
  have zlen : rs.length ≤ sizeLine := by
    rw [List.length_map] at z
    omega
  refine call_dict_pairsH (knd := tupleKind (mixKind X.prog X.w)) (ps := rs.map fun r => r.2) (PairArg.list l its.toArray (fun j => (rs.getD j default).1) (rs.map fun r => (Value.ref r.2.2.1, r.2.2.2))) (I.ok.hd hc) (show X.A.units + 2 < cLine by omega) ⟨⟨_, n, e, rfl, rfl, rfl⟩, ?_, ?_⟩ ⟨by rw [List.length_map, List.length_map], ?_⟩ ?_ (by rw [hraw]; exact zlen) fun h' tk hd' hk' => ?_
  · rw [hits, List.size_toArray, List.length_map, List.length_map]
  · intro j k v hj
    rw [List.getElem?_map] at hj
    obtain ⟨r, hr, er⟩ := Option.map_eq_some_iff.mp hj
    have ed : rs.getD j default = r := by rw [List.getD_eq_getElem?_getD, hr] <;> rfl
    cases er
    show its.toArray[j]? = some (Value.ref (rs.getD j default).1) ∧ PairAt s.heap (rs.getD j default).1 _ _
    rw [ed]
    refine ⟨?_, .inl (e2 r (List.mem_of_getElem? hr))⟩
    rw [hits, List.getElem?_toArray, List.getElem?_map, hr] <;> rfl
  · intro i kk v hi
    have hi : (rs.map fun r => (Value.ref r.2.2.1, r.2.2.2))[i]? = some (kk, v) := hi
    rw [List.getElem?_map] at hi
    obtain ⟨r, hr, er⟩ := Option.map_eq_some_iff.mp hi
    cases er
    exact ⟨r.2.1, r.2.2.1, by rw [List.getElem?_map, hr] <;> rfl, rfl⟩
  · intro h' hk' x hx
    obtain ⟨r, hr, rfl⟩ := List.mem_map.mp hx
    have hkey := key_of I.hok (key r hr)
    refine tupleKind_stays.stays (fun b o vs n hb hd => hk' b o (Nat.ne_of_lt (Heap.lt_size hb)) (by simp) hb) hkey
  · have rel : KT H (ps.foldl (fun acc p => putK acc p.2.1 p.2.2.2) []) (storedAllH [] (rs.map fun r => r.2)) := kt_fold e3 hk .nil
    have keep : ∀ b o, s.heap.get? b = some o → h'.get? b = some o := fun b o e => hk' b o (by simp) e
    have hn : H s.heap.objs.size = none := I.hok.fresh (Nat.le_refl _)
    have hl2 : (ps.foldl (fun acc p => putK acc p.2.1 p.2.2.2) ([] : List (List Key × V))).length ≤ sizeLine := by
      have a := Paired.length rel
      have b := storedAllH_length (rs.map fun r => r.2) ([] : List (List Key × Addr × Value))
      rw [List.length_map, List.length_nil] at b
      omega
    obtain ⟨o, es, ep, ho, h2, h3, h4, _, h5⟩ := hd'
    refine ⟨.ref s.heap.objs.size, _, I.laid (t' := tk) (o := .dT (ps.foldl (fun acc p => putK acc p.2.1 p.2.2.2) [])) keep (Nat.le_refl _) ⟨hl2, beq_eq_false_iff_ne.mpr (Ne.symm (Nat.ne_of_lt I.big)), _, rel.keeps fun c ys ec => ?_, o, es, ep, ho, h2, h3, h4, h5⟩, rfl, q _ hn⟩
    exact (upd_ne (fun z => by rw [z, hn] at ec; cases ec)).trans ec
end
end Mv
/-! Defs of which one knows that nothing is being written out when they are called. -/
namespace Mv
open PySem PySem.Spec PyProof.Rows L2
structure FnG (P : Program) (w : World) (K : PySem.W.Frag) (mg : Str → Option Value) (base : Heap) (CX : CXT) (k : Nat) (f : Addr) (fd : FuncData) (ps : List Str) (sp : Sp) : Prop where
  len : ∀ vs H Q E, sp vs H Q E → vs.length = ps.length
  run : ∀ (A : Around) (outer : List Env) (s : Shared) (H : Hp) (args : Args) (us : List Value) (vs : List V) (Q : VK) (E : XK), A.guards = some [] → Room k A → Env0 P w K mg base A outer s H → BindsTo s fd args (ps.zip us) → Vals vs us → sp vs H Q E →
    codeAny (model P w) A (.call (.ref f) args) (CR CX outer P w H s Q E) s
theorem fn_ofG {CX : CXT} {P : Program} {w : World} {K : PySem.W.Frag} {mg : Str → Option Value} {base : Heap} {k : Nat} {f : Addr} {name qual : Str} {params : Arguments} {body : List Stmt} {scope : Scope} {dV kV doc pm cdv ct oc : Value} {an od : Option Addr}
    {osl : Array (Option Value)} {N ps : List Str} {sp : Sp} (lk : K.lookup f = some ⟨oc, od, .func (PySem.W.fnOf name qual params body scope dV kV doc pm an cdv ct), osl⟩) (hcd : PySem.W.codeIn K cdv qual = true) (S : FnScope N ps scope)
    (len : ∀ vs H Q E, sp vs H Q E → vs.length = ps.length)
    (hbody : ∀ (A : Around) (outer : List Env) (s : Shared) (H : Hp) (vs : List V) (Q : VK) (E : XK), A.guards = some [] → Room k (A.deeper (envOfC qual scope s.heap.objs.size f cdv)) → sp vs H Q E →
      ∃ t, PSs (cxOf CX P w K mg base N qual scope f cdv A outer s H E) body t ∧ t { nx := fun _ H' => Q .non H', rt := Q } (start N vs) H) :
    FnG P w K mg base CX (k + 1) f (PySem.W.fnOf name qual params body scope dV kV doc pm an cdv ct) ps sp := by
  refine ⟨len, fun A outer s H args us vs Q E hgd hr e0 hb r hsp => ?_⟩
  have hl := len _ _ _ _ hsp
  have KX : K.In s.heap := e0.mod.kin.keeps fun b o e => (e0.bs b o e).1
  have lim : s.heap.NoLimit := e0.mod.nolimit.keeps fun b o e => (e0.bs b o e).1
  have hkind : ∀ y ∈ ps.zip us, scope.names.lookup y.1 = some .local ∨ (scope.names.lookup y.1 = some .cell ∧ ((cellsFrom (s.heap.objs.size + 1) scope.names []).lookup y.1).isSome = true) := fun ⟨n, v⟩ hy => by
    rcases S.par n (List.of_mem_zip hy).1 with q | q
    · exact .inl q
    · exact .inr ⟨q, PySem.W.cellsFrom_some _ _ _ (.inl q)⟩
  refine codeAny_call_function hr.depth (KX _ _ lk) rfl S.co S.gen rfl (PySem.W.codeRec_of KX hcd) (hb _ _ _ _ ?_)
  refine wpAny_newFunctionEnv_cells S.kind hkind fun env he s1 x => ?_
  subst he
  refine ⟨lim.keeps x.toInCall.keep, codeAny_func ?_⟩
  obtain ⟨t, ht, hq⟩ := hbody A outer s H vs Q E hgd (hr.deeper _) hsp
  have I : Inv (cxOf CX P w K mg base N qual scope f cdv A outer s H E) [] (start N vs) H s1 := inv_start S hr.hd e0 hl r x
  refine wpAny_mono (ht.run [] s1 (start N vs) H _ I hq) (fun fl s' hs => ?_) fun e s' hs => hs
  have fin : ∀ {σ' : L2.St} {H' : Hp} {v : V} {u : Value}, Inv (cxOf CX P w K mg base N qual scope f cdv A outer s H E) [] σ' H' s' → RelV v u → Q v H' → CE outer P w H s Q u s' :=
    fun {σ' H' v u} J rv q => ⟨v, H', J.os, J.bare, J.base, J.hok, rv, q⟩
  cases fl with
  | ret u =>
    obtain ⟨v, σ', H', J, rv, q⟩ := hs
    exact fin J rv q
  | next =>
    obtain ⟨σ', H', J, q⟩ := hs
    exact fin (v := V.non) (u := Value.none) J rfl q
  | brk =>
    obtain ⟨_, _, _, q⟩ := hs
    exact False.elim q
  | cont =>
    obtain ⟨_, _, _, q⟩ := hs
    exact False.elim q

section
variable {X : Cx} {CX : CXT} {k : Nat} {f C : Addr} {fd : FuncData} {ps : List Str} {sp : Sp} {dvs : List V} {ds : List Value} {E : XK} {x m : Str} {p pos apos : Pos} {e o : Expr} {es : List Expr} {ta : TE} {t : TA}
theorem run_fnG {pins : List (Addr × Obj)} {σ : L2.St} {H : Hp} {s : Shared} {Q : VK} {us : List Value} {vs : List V} (F : FnG X.prog X.w X.K X.mg X.base CX k f fd ps sp) (hgd : X.A.guards = some []) (hr : Room k X.A) (hb : Binds X.K fd ps ds) (hd : Vals dvs ds) (hx : Passes CX X E)
    (I : Inv X pins σ H s) (r : Vals vs us) (h : sp (vs ++ dvs) H Q E) : wpAny (model X.prog X.w) X.A (call (.ref f) us) (EP X pins σ Q) X.xe s := by
  have r2 : Vals (vs ++ dvs) (us ++ ds) := r.append hd
  have hl : (us ++ ds).length = ps.length := by rw [← r2.length]; exact F.len _ _ _ _ h
  refine wpAny_call (codeAny_mono (F.run X.A X.stack s H ⟨us, []⟩ (us ++ ds) (vs ++ dvs) Q E hgd hr I.env0 (hb s us I.kIn hl) r2 h) fun r s' hq => ?_)
  cases r with
  | error e => exact hx pins σ H s e s' I hq
  | ok fl =>
    cases fl with
    | ret u => exact I.after hq
    | next => exact False.elim hq
    | brk => exact False.elim hq
    | cont => exact False.elim hq
theorem pe_callG (F : FnG X.prog X.w X.K X.mg X.base CX k f fd ps sp) (hgd : X.A.guards = some []) (hr : Room k X.A) (hg : Gl X x) (hm : X.mg x = some (.ref f)) (hk : PySem.W.keepIn X.K (.ref f) = true) (hb : Binds X.K fd ps ds) (hd : Vals dvs ds) (hx : Passes CX X E)
    (ha : PA X (e :: es) t) (hdb : (x == ("__debug__" : Str)) = false := by decide) (he : starEach (e :: es) X.env = (false, eval e X.env) :: starEach es X.env := by rfl) (hpl : (backTo pos (starEach es X.env)).any (·.1) = false := by rfl) :
    PE X (.Call (.Name x p) (e :: es) [] pos) (tCall sp dvs E t) := by
  refine ⟨fun pins s σ H Q I h => ?_⟩
  refine wpAny_Call_Name_kw (ld_glob I hg hm ?_ hdb)
  refine PySem.W.callWith_K (h₀ := X.base) I.ok.mod.kin hk (thn (ha.run pos pins s σ H _ I h) fun us s1 ⟨vs, H1, I1, r, q⟩ => ⟨I1.kIn, ?_⟩) he hpl
  exact run_fnG F hgd hr hb hd hx I1 r q
end
theorem law_callG {P : Program} {w : World} {K : PySem.W.Frag} {mg mb : Str → Option Value} {CX : CXT} {k : Nat} {fa a : Addr} {fd : FuncData} {x : Str} {sp : Sp} {s₁ : Shared} {vs : List Value} {ns : List Int}
    (KX : K.In s₁.heap) (hns : s₁.heap.Ns mainGlobals mg) (hb : s₁.heap.Ns builtinsNs mb) (hbb : ∀ x : Str, x ≠ "__name__" → mb x = bootBuiltins x) (hlim : s₁.heap.NoLimit) (hg : s₁.gens = #[])
    (ha : s₁.heap.get? a = some { cls := .type "list", data := .seq vs.toArray }) (hi : IntsAre vs ns) (hl : ns.length ≤ sizeLine) (hr : Room k callerA)
    (F : ∀ base : Heap, K.In base → base.Ns mainGlobals mg → FnG P w K mg base CX k fa fd [x] sp) (hbind : ∀ (s : Shared) (u : Value), BindsTo s fd ⟨[u], []⟩ [(x, u)])
    (hsp : ∀ H : Hp, Only H → SqL K H a (ns.map V.int) → sp [.ref a] H (fun v _ => v = .bl true) fun _ _ _ => False)
    (hCX : ∀ H e s', CX [] H s₁ (fun _ _ _ => False) e s' → False) :
    codeAny (model P w) callerA (.call (.ref fa) ⟨[.ref a], []⟩) (fun r s' => r = .ok (.ret (.bool true)) ∧ OldK s₁.heap s'.heap ∧ s'.os = s₁.os ∧ AllBare s'.gens) s₁ := by
  have rv := vals_ints hi
  have lenV := hi.length
  have core : ∀ H : Hp, Only H → SqL K H a (ns.map V.int) → HOk P w H s₁.heap → (∀ b, H b ≠ none → b = a) → (H a ≠ none → K.lookup a = none) →
      codeAny (model P w) callerA (.call (.ref fa) ⟨[.ref a], []⟩) (fun r s' => r = .ok (.ret (.bool true)) ∧ OldK s₁.heap s'.heap ∧ s'.os = s₁.os ∧ AllBare s'.gens) s₁ := by
    intro H hO hS hok hA hK
    have base_of : ∀ {b : Addr} {o : Obj}, s₁.heap.get? b = some o → H b = none → (hidT s₁.heap H).get? b = some o := fun e n => hidT_get e n
    have noA : ∀ {b : Addr} {o : Obj} {es : Array DictEntry} {ep : Nat}, s₁.heap.get? b = some o → o.data = .dict es ep → H b = none := fun {b o es ep} e d => by
      cases q : H b with
      | none => rfl
      | some u =>
        have e' : b = a := hA b (by rw [q]; simp)
        subst e'
        rw [ha] at e; cases e
        have d' : Data.seq vs.toArray _ = Data.dict es ep := d
        cases d'
    have nsK : ∀ {b : Addr} {m : Str → Option Value}, s₁.heap.Ns b m → (hidT s₁.heap H).Ns b m := fun {b m} ⟨o, es, ep, e, d, r⟩ => ⟨o, es, ep, base_of e (noA e d), d, r⟩
    have hKb : K.In (hidT s₁.heap H) := fun b o e => base_of (KX b o e) (by
      cases q : H b with
      | none => rfl
      | some u =>
        have e' : b = a := hA b (by rw [q]; simp)
        subst e'
        rw [hK (by rw [q]; simp)] at e; cases e)
    have hM : Mod K mg (hidT s₁.heap H) := ⟨hKb, nsK hns, ⟨mb, nsK hb, hbb⟩, let ⟨mc, h1, h2⟩ := hlim; ⟨mc, nsK h1, h2⟩⟩
    have e0 : Env0 P w K mg (hidT s₁.heap H) callerA [] s₁ H := ⟨rfl, hM, fun b o e => of_hidT e, Nat.le_of_eq (hidT_size _ _), trivial, fun b hb => absurd (show b ∈ ([] : List Addr) from hb) (by simp), hok, .of_eq hg⟩
    refine codeAny_mono ((F _ hKb (nsK hns)).run callerA [] s₁ H ⟨[.ref a], []⟩ [.ref a] [.ref a] _ _ rfl hr e0 (hbind s₁ (.ref a)) (.cons rfl .nil) (hsp H hO hS)) fun r s' h => ?_
    cases r with
    | error e => exact (hCX H e s' h).elim
    | ok fl =>
      cases fl with
      | next => exact False.elim h
      | brk => exact False.elim h
      | cont => exact False.elim h
      | ret u =>
        obtain ⟨v, H', os, bare, un, hok', r', q⟩ := h
        have q' : v = .bl true := q
        subst q'
        obtain rfl : u = Value.bool true := r'
        refine ⟨rfl, OldK.of_keep fun b o e => ?_, os, bare⟩
        cases q : H b with
        | none => exact un.keep b o e q (by intro z; exact absurd (show b ∈ ([] : List Addr) from z) (by simp)) (by simp)
        | some u =>
          rcases hO b with z | ⟨ob, xs, z⟩
          · rw [q] at z; cases z
          · have z2 := un.frzs b ob _ z
            obtain ⟨e1, _⟩ := hok b _ z
            obtain ⟨e2, _⟩ := hok' b _ z2
            rw [e] at e1; cases e1
            exact e2
  cases hk : K.lookup a with
  | some o =>
    have e := KX a o hk
    rw [ha] at e
    cases e
    refine core (fun _ => none) (fun _ => .inl rfl) (.inr ⟨_, vs.toArray, _, hk, rfl, rfl, rfl, by rw [List.size_toArray, lenV]; exact hl, by simpa using rv⟩) (fun b u z => by have z' : (none : Option HO) = some u := z; cases z') (fun b z => absurd rfl z) fun z => absurd rfl z
  | none =>
    refine core (fun b => if b = a then some (.frz { cls := .type "list", data := .seq vs.toArray } (.lst (ns.map V.int))) else none) (fun b => ?_) (.inl (.inr ⟨{ cls := .type "list", data := .seq vs.toArray }, if_pos rfl⟩)) (fun b u z => ?_) (fun b z => ?_) fun _ => hk
    · by_cases hb : b = a
      · exact .inr ⟨_, _, if_pos hb⟩
      · exact .inl (if_neg hb)
    · by_cases hb : b = a
      · have z' := (if_pos hb).symm.trans z
        cases z'
        subst hb
        exact ⟨ha, by rw [List.length_map]; exact hl, vs, _, rv, ha⟩
      · have z' := (if_neg hb).symm.trans z
        cases z'
    · by_cases hb : b = a
      · exact hb
      · exact absurd (if_neg hb) z

theorem walk_ofG {l : PySem.W.OpenLaw} {n k : Nat} {q : Program} {loose : List Str} {XP : (Str → Option Value) → Heap → Prop} {YP : World → Heap → Prop} {d : DefRec} {K : Params → PySem.W.Frag} {CX : World → CXT} {sp : World → Sp} {x : Str}
    (hn : l.most = some n) (hn2 : n ≤ sizeLine) (hdf : d.params.defaults = []) (hr : Room k callerA)
    (hY : ∀ (w : World) (h : Heap), YP w h → (K w.params).In h)
    (F : ∀ (w : World) (mg : Str → Option Value) (fa : Addr) (h : Heap), (K w.params).In h → h.Ns mainGlobals mg → mg d.name = some (.ref fa) →
      ∃ fd : FuncData, (∀ (s : Shared) (u : Value), BindsTo s fd ⟨[u], []⟩ [(x, u)]) ∧
        ∀ base : Heap, (K w.params).In base → base.Ns mainGlobals mg → FnG l.prog w (K w.params) mg base (CX w) k fa fd [x] (sp w))
    (hsp : ∀ (w : World) (H : Hp) (a : Addr) (ns : List Int), ns.length ≤ n → Only H → SqL (K w.params) H a (ns.map V.int) → sp w [.ref a] H (fun v _ => v = .bl true) fun _ _ _ => False)
    (hCX : ∀ (w : World) (H : Hp) (s : Shared) (e : Value) (s' : Shared), CX w [] H s (fun _ _ _ => False) e s' → False) :
    PySem.W.WalkO q loose XP YP l.row.toRowW d [] (fun f vs => PySem.call f vs) := by
  refine Att.attach_call hn hdf fun w s₀ s₁ mg mb fa o pm cd doc a vs ns G Y ho hd hcd hmg hobj hints hlen hg => ?_
  have KX := hY w _ Y
  obtain ⟨fd, hb, hF⟩ := F w mg fa _ KX G.T.g hmg
  exact law_callG KX G.T.g G.T.b G.T.builtins G.T.nolimit hg hobj hints (Nat.le_trans hlen hn2) hr hF hb (fun H hO hS => hsp w H a ns hlen hO hS) fun H e s' => hCX w H s₁ e s'

end Mv
/-! Either of list and tuple; what is not reached. -/
namespace Mv
open PySem PySem.Spec PyProof.Rows L2
section
variable {X : Cx}
def iEnumS (K : PySem.W.Frag) (ta : TA) : TI := fun σ H R => iEnum K ta σ H R ∨ iEnumU K ta σ H R
theorem pi_enumS {e : Expr} {ta : TA} {p pos tpos : Pos} {elts : List Expr} {kk : Nat} (hg : Gl X "enumerate") (hm : X.mg "enumerate" = none) (ha : PA X [e] ta) (hs : starEach [e] X.env = [(false, eval e X.env)] := by rfl) :
    PI X (.Tuple elts kk tpos) (.Call (.Name "enumerate" p) [e] [] pos) (iEnumS X.K ta) := pi_either (pi_enum hg hm ha hs) (pi_enumU hg hm ha hs)
def rSetS (K : PySem.W.Frag) (P : Program) (w : World) : List V → Hp → VK → Prop := fun xs H Q => rSetOfT K P w xs H Q ∨ rSetOfTU K P w xs H Q
theorem cr_setS (hc : X.calm = true) (hu : X.A.units + 64 < cLine) : CallR X (.type "set") (rSetS X.K X.prog X.w) := (cr_setOfT hc hu).or (cr_setOfTU hc hu)
def rSortS (K : PySem.W.Frag) (d : Nat) (B : Int) : List V → Hp → VK → Prop := fun xs H Q => rSortU K d B xs H Q ∨ rSortUU K d B xs H Q
theorem cr_sortS {d : Nat} {B : Int} (hd : 1 ≤ d) : CallR X (.builtin "sorted") (rSortS X.K d B) := (cr_sortT hd).or (cr_sortTU hd)
theorem pe_bm0K {K : PySem.W.Frag} (hK : X.K = K) {T id : String} {name : Str} {r : V → List V → Hp → VK → Prop} {o : Expr} {to : TE} {apos cpos : Pos} (pa : PlainAttrs T) (slot : Slot T name id) (hty : typeOf (.builtin id) = pure (.type "method_descriptor")) (hm : MtR X id r) (ho : PE X o to)
    (hbase : attributeBase o name X.env (eval o X.env) = eval o X.env := by rfl) (hline : (apos.endLine == cpos.line) = true := by rfl) : PE X (.Call (.Attribute o name apos) [] [] cpos) (tBM0 K T r to) := by
  subst hK
  exact pe_bm0 pa slot hty hm ho hbase hline
theorem pi_seqK {K : PySem.W.Frag} (hK : X.K = K) {tg l : Expr} {tl : TE} (h : PE X l tl) : PI X tg l (iSeq K tl) := by
  subst hK
  exact pi_seq h
def rTupOf (K : PySem.W.Frag) : List V → Hp → VK → Prop := fun xs H Q => ∃ p ys, xs = [.ref p] ∧ ((SqL K H p ys ∧ ∀ l, H l = none → Q (.ref l) (upd H l (.tup ys))) ∨ (SqT K H p ys ∧ Q (.ref p) H))
theorem ps_dead {st : Stmt} : PS X st (fun _ _ _ => False) := ⟨fun _ _ _ _ _ _ h => h.elim⟩
section
variable {CX : CXT} {k : Nat} {f : Addr} {fd : FuncData} {sp : Sp} {E : XK} {x y : Str} {p pos kpos : Pos} {e : Expr} {te : TE}
/-- f(y = e), the one parameter by its name -/
theorem pe_callK1 (F : FnOk X.prog X.w X.K X.mg X.base CX k f fd [y] sp) (hr : Room k X.A) (hg : Gl X x) (hm : X.mg x = some (.ref f)) (hk : PySem.W.keepIn X.K (.ref f) = true) (hb : ∀ (s : Shared) (u : Value), BindsTo s fd ⟨[], [(y, u)]⟩ [(y, u)]) (hx : Passes CX X E)
    (he : PE X e te) (hdb : (x == ("__debug__" : Str)) = false := by decide) :
    PE X (.Call (.Name x p) [] [⟨some y, e, kpos⟩] pos) (fun σ H Q => te σ H fun v H1 => sp [v] H1 Q E) := by
  refine ⟨fun pins s σ H Q I h => ?_⟩
  refine wpAny_Call_Name_kw (ld_glob I hg hm ?_ hdb)
  refine PySem.W.callWith_KW0 (h₀ := X.base) I.ok.mod.kin hk (by rfl) (thn ((pk_cons (nm := some y) (kpos := kpos) he pk_nil).run pos pins s σ H (fun zs H2 => ∃ v, zs = [v] ∧ sp [v] H2 Q E) I ?_) fun ws s2 ⟨zs, H2, I2, rz, v, ez, q2⟩ => ⟨I2.kIn, ?_⟩)
  · show te σ H _
    have : (fun v H1 => sp [v] H1 Q E) = (fun x H1 => tNil σ H1 fun xs H2 => ∃ v, x :: xs = [v] ∧ sp [v] H2 Q E) := by
      funext v H1
      exact propext ⟨fun h => ⟨v, rfl, h⟩, fun ⟨w, e, h⟩ => by cases e; exact h⟩
    rw [this] at h
    exact h
  · subst ez
    cases rz with
    | cons r1 rt =>
      cases rt
      rename_i w _
      show wpAny _ _ (call (.ref f) [] [(y, w)]) _ _ s2
      refine wpAny_call (codeAny_mono (F.run X.A X.stack s2 H2 ⟨[], [(y, w)]⟩ [w] [v] Q E hr I2.env0 (hb s2 w) (.cons r1 .nil) q2) fun r s' hq => ?_)
      cases r with
      | error e => exact hx pins σ H2 s2 e s' I2 hq
      | ok fl =>
        cases fl with
        | ret u => exact I2.after hq
        | next => exact False.elim hq
        | brk => exact False.elim hq
        | cont => exact False.elim hq
end
end
end Mv
/-! Own exception classes over any of three built-in bases: how one is made. -/
namespace Mv
open PySem PySem.F PySem.HandSPX Builtin Builtin.ObjectAttr
/-- what a class' mro (behind the class itself) must say: nB gives __new__, iB gives __init__ -/
structure ExBs (bm : List Value) (nB newId iB initId : String) : Prop where
  nw : ∃ bmN iN, ExcBaseFacts nB newId iN bmN
  hN : bm.contains (.type nB) = true
  hA : bm.contains (.type "AttributeError") = false
  hM : bm.contains (.type "NameError") = false
  hI : bm.contains (.type iB) = true
  hO : bm.contains (.type "object") = true
  ne : bm.isEmpty = false
  pass : ∀ self, refuseLoop self "__setattr__" bm = pure ()
  slot : Slot iB "__init__" initId
  entry : entryFor table initId = some Builtin.«BaseException.__init__»
  split : splitId initId = some (iB, "__init__")
  kind : builtinKind initId = some .slot
  row : Manifest.signature? initId = some ⟨.positional, "*", iB, .self, [⟨"args", .varPos, false⟩]⟩
  star : (iB != "*") = true
/-- own classes, then a tail -/
def refsT (tail : List Value) : List Value → Bool
  | .ref _ :: r => refsT tail r
  | l => l == tail
theorem refsT_cases (tail : List Value) : ∀ l : List Value, refsT tail l = true → (∃ c r, l = .ref c :: r ∧ refsT tail r = true) ∨ l = tail
  | [], e => .inr (beq_iff_eq.mp e)
  | .ref c :: r, e => .inl ⟨c, r, rfl, e⟩
  | .none :: _, e => .inr (beq_iff_eq.mp e)
  | .ellipsis :: _, e => .inr (beq_iff_eq.mp e)
  | .notImplemented :: _, e => .inr (beq_iff_eq.mp e)
  | .bool _ :: _, e => .inr (beq_iff_eq.mp e)
  | .int _ _ :: _, e => .inr (beq_iff_eq.mp e)
  | .float _ _ :: _, e => .inr (beq_iff_eq.mp e)
  | .str _ _ :: _, e => .inr (beq_iff_eq.mp e)
  | .bytes _ _ :: _, e => .inr (beq_iff_eq.mp e)
  | .type _ :: _, e => .inr (beq_iff_eq.mp e)
  | .builtin _ :: _, e => .inr (beq_iff_eq.mp e)
theorem ExBs.ref {c : Addr} {r : List Value} {nB newId iB initId : String} (h : ExBs r nB newId iB initId) : ExBs (.ref c :: r) nB newId iB initId := {
  h with
  hN := by rw [List.contains_cons, h.hN, Bool.or_true]
  hA := by rw [List.contains_cons, h.hA] <;> rfl
  hM := by rw [List.contains_cons, h.hM] <;> rfl
  hI := by rw [List.contains_cons, h.hI, Bool.or_true]
  hO := by rw [List.contains_cons, h.hO, Bool.or_true]
  ne := rfl
  pass := fun self => by
    rw [refuseLoop_ref]
    exact h.pass self }
theorem ExBs.refs {tail : List Value} {nB newId iB initId : String} (h : ExBs tail nB newId iB initId) : ∀ l, refsT tail l = true → ExBs l nB newId iB initId := by
  intro l
  induction l with
  | nil =>
    intro e
    rcases refsT_cases tail [] e with ⟨c, r, q, _⟩ | q
    · cases q
    · rw [q]
      exact h
  | cons a r ih =>
    intro e
    rcases refsT_cases tail (a :: r) e with ⟨c, r', q, z⟩ | q
    · obtain ⟨rfl, rfl⟩ := List.cons.inj q
      exact (ih z).ref
    · rw [q]
      exact h
abbrev veT : List Value := [.type "ValueError", .type "Exception", .type "BaseException", .type "object"]
abbrev leT : List Value := [.type "LookupError", .type "Exception", .type "BaseException", .type "object"]
abbrev keT : List Value := [.type "KeyError", .type "LookupError", .type "Exception", .type "BaseException", .type "object"]
theorem exB_ve : ExBs veT "ValueError" "ValueError.__new__" "ValueError" "ValueError.__init__" := {
  nw := ⟨_, _, excBase_ValueError⟩
  hN := by decide +kernel
  hA := by decide +kernel
  hM := by decide +kernel
  hI := by decide +kernel
  hO := by decide +kernel
  ne := rfl
  pass := F.store_ValueError.passes
  slot := excBase_ValueError.init
  entry := excBase_ValueError.initEntry
  split := excBase_ValueError.initSplit
  kind := excBase_ValueError.initKind
  row := excBase_ValueError.initRow
  star := excBase_ValueError.noStar }
theorem exB_le : ExBs leT "LookupError" "LookupError.__new__" "LookupError" "LookupError.__init__" := {
  nw := ⟨_, _, excBase_LookupError⟩
  hN := by decide +kernel
  hA := by decide +kernel
  hM := by decide +kernel
  hI := by decide +kernel
  hO := by decide +kernel
  ne := rfl
  pass := F.store_LookupError.passes
  slot := excBase_LookupError.init
  entry := excBase_LookupError.initEntry
  split := excBase_LookupError.initSplit
  kind := excBase_LookupError.initKind
  row := excBase_LookupError.initRow
  star := excBase_LookupError.noStar }
theorem exB_ke : ExBs keT "LookupError" "LookupError.__new__" "KeyError" "KeyError.__init__" := {
  nw := ⟨_, _, excBase_LookupError⟩
  hN := by decide +kernel
  hA := by decide +kernel
  hM := by decide +kernel
  hI := by decide +kernel
  hO := by decide +kernel
  ne := rfl
  pass := fun self => by kernel_rfl
  slot := .of (owner := "KeyError") (n := "__init__") (by rw [typeLookup_type, builtinLookup_eq_fast]; kernel_rfl) (by decide +kernel) (by decide +kernel) (by decide +kernel) (by first | exact .inl (by decide +kernel) | exact .inr (by decide +kernel)) (by rw [isSubtype_type]; kernel_rfl)
  entry := entryFor_alias (id' := "BaseException.__init__") (by rw [fastTable_eq_tree]; kernel_rfl) (by first | rfl | decide +kernel) (by decide +kernel) (by rw [fastTable_eq_tree]; kernel_rfl)
  split := by kernel_rfl
  kind := by kernel_rfl
  row := by kernel_rfl
  star := by decide +kernel }
section
variable {M : Model} {A : Around} {E : Value → Shared → Prop} {h : Heap} {g : Array GenState} {d : Drawn} {t : Nat} {os : OsState}
variable {nm q : Str} {C N : Addr} {bs bm : List Value} {hdct : Bool} {sn : List Str} {sub : List Value} {ab : Bool} {col : Option Bool} {dd : Option Addr} {k0 k1 k2 k3 k5 : Option Value} {nB iB newId initId : String}
theorem chk_new (F : ExBs bm nB newId iB initId) {rest : List Value} {kw : List (Str × Value)} {Q : Unit → Shared → Prop}
    (hC : h.get? C = some (excClassObj nm q C N bs bm hdct sn sub ab col dd k0 k1 k2 k3 k5 newId)) (hq : Q () ⟨h, g, d, t, os⟩) : wpAny M A (checkBuiltinCall newId ⟨.ref C :: rest, kw⟩) Q E ⟨h, g, d, t, os⟩ := by
  obtain ⟨bmN, iN, G⟩ := F.nw
  have hcont : (Value.ref C :: bm).contains (.type nB) = true := by rw [List.contains_cons, F.hN, Bool.or_true]
  have hstar := G.noStar
  simp only [checkBuiltinCall, G.newKind, G.newSplit, G.newRow]
  repeat (first | refine wpAny_loadPart_at hC ?_ | (refine wpAny_isSubtype_exc hC ?_; rw [hcont]) | refine wpAny_staticBase_exc hC ?_ | refine wpAny_madeBy_exc hC ?_ | simp only [bne_self_eq_false, Bool.false_eq_true, if_false] | wp_step)
  exact hq
theorem chk_init (F : ExBs bm nB newId iB initId) {e : Addr} {oe : Obj} {rest : List Value} {Q : Unit → Shared → Prop}
    (hC : h.get? C = some (excClassObj nm q C N bs bm hdct sn sub ab col dd k0 k1 k2 k3 k5 newId)) (he : h.get? e = some oe) (hcls : oe.cls = .ref C) (hq : Q () ⟨h, g, d, t, os⟩) :
    wpAny M A (checkBuiltinCall initId ⟨.ref e :: rest, []⟩) Q E ⟨h, g, d, t, os⟩ := by
  have hcB : (Value.ref C :: bm).contains (.type iB) = true := by rw [List.contains_cons, F.hI, Bool.or_true]
  have hshort := F.star
  simp only [checkBuiltinCall, F.kind, F.split, F.row]
  repeat (first | (with_reducible refine wpAny_loadPart_at he ?_; rw [hcls]) | with_reducible refine wpAny_loadPart_at hC ?_ | (with_reducible refine wpAny_isSubtype_exc hC ?_; rw [hcB]) | wp_step)
  refine wpAny_onRaise ?_
  rw [show ∀ (a b : String) (n : Nat), Bind.check ⟨.positional, "*", iB, .self, [⟨"args", .varPos, false⟩]⟩ a b n (List.map (fun x => x.fst) ({ pos := Value.ref e :: rest } : Args).kw) = pure () from
    fun a b n => check_star_args _ _ _ _ _ _]
  exact wpAny_pure hq
end
section
variable {prog : Program} {w : World} {A : Around} {E : Value → Shared → Prop} {R : Result → Shared → Prop} {h : Heap} {g : Array GenState} {d : Drawn} {t : Nat} {os : OsState}
variable {nm q : Str} {C N : Addr} {bs bm : List Value} {hdct : Bool} {sn : List Str} {sub : List Value} {ab : Bool} {col : Option Bool} {dd : Option Addr} {k0 k1 k2 k3 k5 : Option Value} {nB iB newId initId : String}
theorem mk_new (F : ExBs bm nB newId iB initId) {rest : List Value} {kw : List (Str × Value)}
    (hC : h.get? C = some (excClassObj nm q C N bs bm hdct sn sub ab col dd k0 k1 k2 k3 k5 newId))
    (hq : R (.ok (.ret (.ref (h.objs.size + 1)))) ⟨(h.push { cls := .type "tuple", data := .seq rest.toArray }).push
      { cls := .ref C, data := .fields #[.ref h.objs.size, .none, .none, .none, .bool false, .none] }, g, d, t, os⟩) (hrest : rest.length ≤ sizeLine) :
    codeAny (model prog w) A (.builtin newId ⟨.ref C :: rest, kw⟩) R ⟨h, g, d, t, os⟩ := by
  obtain ⟨bmN, iN, G⟩ := F.nw
  have hends := G.ends
  have hcB : (Value.ref C :: bm).contains (.type nB) = true := by rw [List.contains_cons, F.hN, Bool.or_true]
  have hcA : (Value.ref C :: bm).contains (.type "AttributeError") = false := by rw [List.contains_cons, F.hA] <;> rfl
  have hcN : (Value.ref C :: bm).contains (.type "NameError") = false := by rw [List.contains_cons, F.hM] <;> rfl
  refine codeAny_builtinAt G.entry ?_
  unfold Builtin.«BaseException.__new__»
  refine wpAt_bind ?_
  show wpAt _ _ _ (stack >>= _) _ _ _
  refine wpAt_bind (wpAt_stack fun p below => wpAt_of_wpAny ?_)
  wp_walk
  refine wpAt_of_wpAny ?_
  rw [G.owner]
  repeat (first | with_reducible refine wpAny_madeHere_exc G.canon hC ?_ | with_reducible refine wpAny_loadPart_at hC ?_ | (with_reducible refine wpAny_isSubtype_exc hC ?_; first | rw [hcB] | rw [hcA] | rw [hcN]) | wp_step)
  show R _ _
  rw [Heap.size_push]
  exact hq
theorem mk_type_call (F : ExBs bm nB newId iB initId) {rest : List Value} {kw : List (Str × Value)} {fI : Addr} {Q : Fin → Shared → Prop}
    (hC : h.get? C = some (excClassObj nm q C N bs bm hdct sn sub ab col dd k0 k1 k2 k3 k5 newId))
    (hi : W.Looks (model prog w) h (typeLookup (.ref C) "__init__") (some (.ref fI))) (hb : ∀ self, W.Looks (model prog w) h (bindSpecial (.ref fI) self) (.ref fI, [self])) (hrest : rest.length ≤ sizeLine)
    (hq : codeAny (model prog w) A (.call (.ref fI) ⟨.ref (h.objs.size + 1) :: rest, kw⟩)
      (fun r s' => match r with | .ok (.ret v) => v = .none ∧ Q (.done (.ret (.ref (h.objs.size + 1)))) s' | .ok _ => False | .error e => E e s')
      ⟨(h.push (W.kdv_tup rest)).push (excO C h.objs.size), g, d, t, os⟩) :
    wpAny (model prog w) A (Builtin.«type.__call__» ⟨.ref C :: rest, kw⟩) Q E ⟨h, g, d, t, os⟩ := by
  obtain ⟨bmN, iN, G⟩ := id F.nw
  repeat (first | with_reducible refine wpAny_loadPart_at hC ?_ | with_reducible refine wpAny_madeBy_exc hC ?_ | wp_step)
  refine codeAny_call_builtin_code (Code.quiet_builtin _ G.quiet) (chk_new F hC ?_)
  refine mk_new F hC ?_ hrest
  show wpAny _ _ _ _ _ _
  have k : ∀ b o, h.get? b = some o → ((h.push (W.kdv_tup rest)).push (excO C h.objs.size)).get? b = some o := fun b o e => Heap.get?_push_of_some _ (Heap.get?_push_of_some _ e)
  have hC₁ := k _ _ hC
  have hget : ((h.push (W.kdv_tup rest)).push (excO C h.objs.size)).get? (h.objs.size + 1) = some (excO C h.objs.size) := by heap_get
  have hcC : (Value.ref C :: bm).contains (.ref C) = true := by simp
  have i1 := hi.keeps k
  have b1 := (hb (.ref (h.objs.size + 1))).keeps k
  unfold isInstance
  repeat (first | with_reducible refine wpAny_loadPart_at hget ?_ | (with_reducible refine wpAny_isSubtype_exc hC₁ ?_; rw [hcC]) | wp_step)
  show wpAny _ _ (typeLookup (.ref C) _) _ _ _
  refine i1.at ?_
  refine wpAny_holding (wpAny_bind (b1.at ?_))
  refine wpAny_bind (wpAny_call (codeAny_mono hq fun r s' z => ?_))
  rcases r with e | (v | _ | _ | _) <;> first | exact z | exact z.elim | skip
  obtain ⟨rfl, z⟩ := z
  first
    | exact wpAny_pure (wpAny_pure z)
    | (wp_walk; exact z)
theorem mk_call (F : ExBs bm nB newId iB initId) {rest : List Value} {kw : List (Str × Value)} {fI : Addr}
    (hC : h.get? C = some (excClassObj nm q C N bs bm hdct sn sub ab col dd k0 k1 k2 k3 k5 newId))
    (hi : W.Looks (model prog w) h (typeLookup (.ref C) "__init__") (some (.ref fI))) (hb : ∀ self, W.Looks (model prog w) h (bindSpecial (.ref fI) self) (.ref fI, [self])) (hrest : rest.length ≤ sizeLine)
    (hq : codeAny (model prog w) (A.under (.builtin "type.__call__" ⟨.ref C :: rest, kw⟩)) (.call (.ref fI) ⟨.ref (h.objs.size + 1) :: rest, kw⟩) (W.InitBack (h.objs.size + 1) R)
      ⟨(h.push (W.kdv_tup rest)).push (excO C h.objs.size), g, d, t, os⟩) :
    codeAny (model prog w) A (.call (.ref C) ⟨rest, kw⟩) R ⟨h, g, d, t, os⟩ := by
  have f1 := tc_lookup
  have f2 := tc_bind (.ref C)
  have hTy : (⟨h, g, d, t, os⟩ : Shared).TypeIs (.ref C) "type" := ⟨_, hC, rfl⟩
  refine codeAny_of_tree ?_
  show wpAny _ _ (callAny (.ref C) _) _ _ _
  repeat (any_goals (first | assumption | with_reducible refine wpAny_loadPart_at hC ?_ | wp_step))
  refine ⟨rfl, ?_⟩
  refine codeAny_call_builtin_at (Code.quiet_builtin _ (by decide +kernel)) entry_typeCall (wpAny_check_type_call_sub hC (mk_type_call F hC hi hb hrest ?_))
  refine codeAny_mono hq fun r s' z => ?_
  rcases r with e | (v | _ | _ | _) <;> exact z
/-- the base's __init__: the args are laid anew -/
theorem base_init (F : ExBs bm nB newId iB initId) {e t0 : Addr} {rest : List Value}
    (hC : h.get? C = some (excClassObj nm q C N bs bm hdct sn sub ab col dd k0 k1 k2 k3 k5 newId)) (he : h.get? e = some (excO C t0)) (hrest : rest.length ≤ sizeLine)
    (hq : ∀ h' t1, (∀ b o, b ≠ e → h.get? b = some o → h'.get? b = some o) → h'.get? e = some (excO C t1) → R (.ok (.ret .none)) ⟨h', g, d, t, os⟩) :
    codeAny (model prog w) A (.call (.builtin initId) ⟨.ref e :: rest, []⟩) R ⟨h, g, d, t, os⟩ := by
  refine codeAny_call_builtin F.slot.plain F.entry (chk_init F hC he rfl ?_)
  wp_walk
  refine hq _ h.objs.size (fun b o hb ho => ?_) ?_
  · rw [Heap.get?_update_other _ _ (Ne.symm hb)]
    exact Heap.get?_push_of_some _ ho
  · rw [Heap.get?_update_self _ (Heap.get?_push_of_some _ he) rfl]
    rfl
end
end Mv
/-! Own exception classes over any of three built-in bases: fields, __init__, the making. -/
namespace Mv
open PySem PySem.F PySem.HandSPX PySem.W PySem.Calls PyProof.Rows Builtin Builtin.ObjectAttr
section
variable {prog : Program} {w : World} {A : Around} {E : Value → Shared → Prop} {R : Result → Shared → Prop} {hp : Heap} {g : Array GenState} {d : Drawn} {t : Nat} {os : OsState}
theorem osa_fst {K : W.Frag} {nB nI iB iI : String} {name : Str} {tk : Tok} {v : Value} {x C : Addr} {fv : Array Value} {cd : ClassData}
    (X : K.In hp) (hx : hp.get? x = some { cls := .ref C, data := .fields fv }) (hcd : W.clsIn K C = some cd) (hm : ExBs cd.mro nB nI iB iI) (hh : cd.hasDict = true) (ha : W.findIn K (.ref C) name = some none)
    (hq : ∀ h' tk' dx, (∀ b o, b ≠ x → hp.get? b = some o → h'.get? b = some o) → hp.objs.size ≤ dx → dx ≠ x → h'.get? x = some { cls := .ref C, dict := some dx, data := .fields fv } →
      h'.Ns1 dx (fun y => if y = name then some v else none) → R (.ok (.ret .none)) ⟨h', g, d, tk', os⟩) :
    codeAny (model prog w) A (.call (.builtin "object.__setattr__") ⟨[.ref x, .str name tk, v], []⟩) R ⟨hp, g, d, t, os⟩ := by
  have I : W.InstAt hp x { cls := .ref C, data := .fields fv } C none := ⟨hx, rfl, rfl, trivial⟩
  have SF := F.store_object
  have ne := hm.ne
  have hob : cd.mro.contains (.type "object") = true := hm.hO
  have hxs : x ≠ hp.objs.size := Nat.ne_of_lt (Heap.lt_size hx)
  have sub : W.Looks (model prog w) hp (isInstance (.ref x) (.type "object")) true := I.type.andThen (W.looks_mroIn X (by unfold W.mroIn; rw [hcd, Option.bind_some, if_neg (by rw [ne]; decide), hob]))
  refine codeAny_call_builtin SF.slot.plain SF.entry (@W.check_slot (model prog w) _ _ ⟨hp, g, d, t, os⟩ "object.__setattr__" "object" "__setattr__" (.ref x) [.str name tk, v] [] _ SF.kind SF.split sub (SF.args (.ref x) (.str name tk) v) ?_)
  have hmr : W.Looks (model prog w) hp (mroOf (.ref C)) cd.mro := (W.looks_clsIn X hcd).andThen .now
  have L3 : W.Looks (model prog w) hp (storeTaker? none) none := .now
  have hcls : W.Looks (model prog w) hp (classData C) cd := W.looks_clsIn X hcd
  rw [W.osa_eq, refuse_eq]
  refine wpAny_bind (wpAny_bind (I.type.at (wpAny_bind (hmr.at ?_))))
  rw [hm.pass]
  refine wpAny_pure (wpAny_bind (I.type.at (wpAny_bind ((W.looks_findIn X ha).at (wpAny_bind (L3.at ?_))))))
  show wpAny _ _ (storeInOwnDict (.ref x) (.ref C) (.str name tk) name v false) _ _ _
  obtain ⟨nm, bs, mro, ns, qn, hd, sn, sb, ab, col, del⟩ := cd
  dsimp only at hh
  subst hh
  unfold storeInOwnDict ownDictForStores
  repeat (first | with_reducible refine store_in_new ?_ ?_ | with_reducible refine wpAny_loadPart_at hx ?_ | with_reducible refine hcls.at ?_ | wp_step)
  · exact ⟨_, #[], _, (Heap.get?_update_ne _ _ _ _ hxs.symm).trans (Heap.get?_push_at rfl rfl), rfl, fun e he => absurd he (by simp), fun _ => rfl⟩
  · intro h' tk' hn' hs
    have hx₁ : (hp.push { cls := .type "dict", data := .dict #[] }).get? x = some { cls := .ref C, data := .fields fv } := Heap.get?_push_of_some _ hx
    refine hq h' tk' hp.objs.size (fun b o hb ho => ?_) (Nat.le_refl _) hxs.symm ?_ hn'
    · exact (hs.2 b (Nat.ne_of_lt (Heap.lt_size ho))).trans ((Heap.get?_update_ne _ _ _ _ hb).trans (Heap.get?_push_of_some _ ho))
    · exact (hs.2 x hxs).trans (Heap.get?_update_self _ hx₁ rfl)
/-- a further field of an exception that has its dict -/
theorem osa_nxt {K : W.Frag} {nB nI iB iI : String} {name : Str} {tk : Tok} {v : Value} {x C dx : Addr} {fv : Array Value} {cd : ClassData} {m0 : Str → Option Value} {nl : List Str}
    (X : K.In hp) (hx : hp.get? x = some { cls := .ref C, dict := some dx, data := .fields fv }) (hns : hp.Ns1 dx m0) (hw : Within m0 nl) (hz : nl.length ≤ 1000) (hcd : W.clsIn K C = some cd) (hm : ExBs cd.mro nB nI iB iI) (hh : cd.hasDict = true)
    (ha : W.findIn K (.ref C) name = some none)
    (hq : ∀ h' tk', (∀ b o, b ≠ dx → hp.get? b = some o → h'.get? b = some o) → h'.Ns1 dx (fun y => if y = name then some v else m0 y) → R (.ok (.ret .none)) ⟨h', g, d, tk', os⟩) :
    codeAny (model prog w) A (.call (.builtin "object.__setattr__") ⟨[.ref x, .str name tk, v], []⟩) R ⟨hp, g, d, t, os⟩ := by
  obtain ⟨oD, esD, epD, hoD, hdD, _⟩ := hns.count hw
  have I : W.InstAt hp x { cls := .ref C, dict := some dx, data := .fields fv } C (some oD) := ⟨hx, rfl, rfl, hoD⟩
  have SF := F.store_object
  have ne := hm.ne
  have hob : cd.mro.contains (.type "object") = true := hm.hO
  have sub : W.Looks (model prog w) hp (isInstance (.ref x) (.type "object")) true := I.type.andThen (W.looks_mroIn X (by unfold W.mroIn; rw [hcd, Option.bind_some, if_neg (by rw [ne]; decide), hob]))
  refine codeAny_call_builtin SF.slot.plain SF.entry (@W.check_slot (model prog w) _ _ ⟨hp, g, d, t, os⟩ "object.__setattr__" "object" "__setattr__" (.ref x) [.str name tk, v] [] _ SF.kind SF.split sub (SF.args (.ref x) (.str name tk) v) ?_)
  have hmr : W.Looks (model prog w) hp (mroOf (.ref C)) cd.mro := (W.looks_clsIn X hcd).andThen .now
  have L3 : W.Looks (model prog w) hp (storeTaker? none) none := .now
  have hcls : W.Looks (model prog w) hp (classData C) cd := W.looks_clsIn X hcd
  rw [W.osa_eq, refuse_eq]
  refine wpAny_bind (wpAny_bind (I.type.at (wpAny_bind (hmr.at ?_))))
  rw [hm.pass]
  refine wpAny_pure (wpAny_bind (I.type.at (wpAny_bind ((W.looks_findIn X ha).at (wpAny_bind (L3.at ?_))))))
  show wpAny _ _ (storeInOwnDict (.ref x) (.ref C) (.str name tk) name v false) _ _ _
  obtain ⟨nm, bs, mro, ns, qn, hd, sn, sb, ab, col, del⟩ := cd
  dsimp only at hh
  subst hh
  unfold storeInOwnDict ownDictForStores
  repeat (first | with_reducible refine OEX.store_in_old hns hw hz ?_ | with_reducible refine wpAny_loadPart_at hx ?_ | with_reducible refine hcls.at ?_ | wp_step)
  intro h' tk' hn' hs
  exact hq h' tk' (fun b o hb ho => (hs.2 b hb).trans ho) hn'
end
end Mv
namespace Mv
open PySem PySem.Spec PyProof.Rows L2
/-- what the written part says of an exception class -/
structure OeX (K : PySem.W.Frag) (C : Addr) (iB iI : String) : Prop where
  cls : ∃ nm q N bs bm sn sub ab col dd k0 k1 k2 k3 k5 nB nI, K.lookup C = some (excClassObj nm q C N bs bm true sn sub ab col dd k0 k1 k2 k3 k5 nI) ∧ ExBs bm nB nI iB iI
  sa : PySem.W.findIn K (.ref C) "__setattr__" = some (some (.builtin "object.__setattr__"))
  exC : PySem.W.subIn K (.ref C) (.type "BaseException") = some true
  tyC : PySem.W.typeIn K (.ref C) = some (.type "type")
  kC : PySem.W.keepIn K (.ref C) = true
section
variable {X : Cx} {pins : List (Addr × Obj)} {σ : L2.St} {H : Hp} {s : Shared} {a C dx : Addr} {f : Str} {y : V} {u : Value} {fs : List (Str × V)} {Q : Unit → Shared → Prop} {E : Value → Shared → Prop} {A : Around} {iB iI : String}
/-- self.f = y, the first one -/
theorem oet_new (T : OeX X.K C iB iI) (I : Inv X pins σ H s) (e : H a = some (exo a C none)) (hno : PySem.W.findIn X.K (.ref C) f = some none) (ry : RelV y u)
    (h : ∀ dx s', H dx = none → dx ≠ a → Inv X pins σ (upd (upd H dx (exd dx [(f, y)])) a (exo a C (some dx))) s' → Q () s') : wpAny (model X.prog X.w) A (setAttr (.ref a) f u) Q E s := by
  obtain ⟨nm, q, N, bs, bm, sn, sub, ab, col, dd, k0, k1, k2, k3, k5, nB, nI, hC, hbm⟩ := T.cls
  have hcl : PySem.W.clsIn X.K C = some { name := nm, bases := bs, mro := .ref C :: bm, ns := N, qualname := q, hasDict := true, slotNames := sn, subclasses := sub, abstract := ab, collection := col, hasDel := false } := by unfold PySem.W.clsIn; rw [hC] <;> rfl
  obtain ⟨t1, ho⟩ := exo_at I.hok e
  obtain ⟨hp, g, d, t, os⟩ := s
  refine PySem.W.set_plain I.kIn (ox := { cls := .ref C, dict := none, data := .fields #[.ref t1, .none, .none, .none, .bool false, .none] }) (od := none) ⟨ho, rfl, rfl, trivial⟩ T.sa ?_
  refine osa_fst I.kIn ho hcl hbm.ref rfl hno (fun h' tk' dx k dn dne hx hn => ?_)
  have hnd : H dx = none := I.hok.fresh dn
  have nd : ∀ {b : Addr} {o : Obj}, hp.get? b = some o → b ≠ dx := fun {b o} q => Nat.ne_of_lt (Nat.lt_of_lt_of_le (Heap.lt_size q) dn)
  have na : ∀ {b : Addr}, H b = none → b ≠ a := fun {b} n z => by
    rw [z, e] at n
    cases n
  have Un1 : Un X.fs [] H (upd (upd H dx (exd dx [(f, y)])) a (exo a C (some dx))) hp h' := {
    keep := fun b o q n _ _ => k b o (na n) q
    slot := fun b o q n _ _ => ⟨o.slots, k b o (na n) q⟩
    free := fun b o q n _ => by rw [upd_ne (na n), upd_ne (nd q)]; exact n
    there := fun b o q _ => by
      by_cases hb : b = a
      · exact ⟨_, by rw [hb]; exact hx⟩
      · exact ⟨o, k b o hb q⟩
    tups := fun b xs q => by rw [upd_ne (at_ne e q exo_tup), upd_ne (ne_of_none q hnd)]; exact q
    frzs := fun b o v q => by rw [upd_ne (at_ne e q exo_frz), upd_ne (ne_of_none q hnd)]; exact q
    tbls := fun b ps q => ⟨#[], by rw [upd_ne (at_ne e q exo_tbl), upd_ne (ne_of_none q hnd), q]; simp⟩ }
  refine h dx _ hnd dne (I.un (t' := tk') Un1 fun b o q => ?_)
  by_cases hb : b = a
  · subst hb
    rw [upd_same] at q
    cases q
    exact exo_ok hx
  · rw [upd_ne hb] at q
    by_cases hd : b = dx
    · subst hd
      rw [upd_same] at q
      cases q
      exact exd_ok hn (relO_put (fs := []) ry fun g => True.intro)
    · rw [upd_ne hd] at q
      exact (I.hok b o q).stay (fun c v hc z => k c v (by
          rcases hc with hc | hc
          · rw [hc]
            exact hb
          · exact at_ne e hc exo_own) z)
        (fun c hc => by rw [upd_ne (at_ne e hc exo_own), upd_ne (ne_of_none hc hnd)]; exact hc) (fun c xs hc => by rw [upd_ne (at_ne e hc exo_tup), upd_ne (ne_of_none hc hnd)]; exact hc)
/-- self.f = y, a further one -/
theorem oet_old (T : OeX X.K C iB iI) (I : Inv X pins σ H s) (e : H a = some (exo a C (some dx))) (ed : H dx = some (exd dx fs)) (hl : fs.length ≤ 900) (hno : PySem.W.findIn X.K (.ref C) f = some none) (ry : RelV y u)
    (h : ∀ s', Inv X pins σ (upd H dx (exd dx ((f, y) :: fs))) s' → Q () s') : wpAny (model X.prog X.w) A (setAttr (.ref a) f u) Q E s := by
  obtain ⟨nm, q, N, bs, bm, sn, sub, ab, col, dd, k0, k1, k2, k3, k5, nB, nI, hC, hbm⟩ := T.cls
  have hcl : PySem.W.clsIn X.K C = some { name := nm, bases := bs, mro := .ref C :: bm, ns := N, qualname := q, hasDict := true, slotNames := sn, subclasses := sub, abstract := ab, collection := col, hasDel := false } := by unfold PySem.W.clsIn; rw [hC] <;> rfl
  obtain ⟨t1, ho⟩ := exo_at I.hok e
  obtain ⟨mA, hns, rel⟩ := exd_at I.hok ed
  have hw := within_of rel
  obtain ⟨hp, g, d, t, os⟩ := s
  obtain ⟨oD, _, _, hoD, _, _⟩ := hns.count hw
  refine PySem.W.set_plain I.kIn (ox := { cls := .ref C, dict := some dx, data := .fields #[.ref t1, .none, .none, .none, .bool false, .none] }) (od := some oD) ⟨ho, rfl, rfl, hoD⟩ T.sa ?_
  refine osa_nxt I.kIn ho hns hw (by rw [List.length_map]; omega) hcl hbm.ref rfl hno (fun h' tk' k hn => ?_)
  have hd : ∃ o, h'.get? dx = some o := by
    obtain ⟨o, _, _, e', _⟩ := hn
    exact ⟨o, e'⟩
  exact h _ (I.write (t' := tk') (x := dx) (e := dx) (o := exd dx ((f, y) :: fs)) (by rw [ed]; exact True.intro) (.inl rfl) k hd (exd_ok hn (relO_put ry rel)))
/-- the base's __init__ as a call: nothing of it is told -/
theorem oet_init {us : List Value} {Q : Value → Shared → Prop} (T : OeX X.K C iB iI) (I : Inv X pins σ H s) (e : H a = some (exo a C none)) (hl : us.length ≤ sizeLine) (h : ∀ s', Inv X pins σ H s' → Q .none s') :
    wpAny (model X.prog X.w) A (call (.builtin iI) (.ref a :: us)) Q E s := by
  obtain ⟨nm, q, N, bs, bm, sn, sub, ab, col, dd, k0, k1, k2, k3, k5, nB, nI, hC, hbm⟩ := T.cls
  obtain ⟨t1, ho⟩ := exo_at I.hok e
  obtain ⟨hp, g, d, t, os⟩ := s
  refine wpAny_call (base_init hbm (I.kIn _ _ hC) ho hl fun h' t2 k hx => ?_)
  have J := I.write (t' := t) (x := a) (e := a) (o := exo a C none) (by rw [e]; exact True.intro) (.inl rfl) k ⟨_, hx⟩ (exo_ok hx)
  have eu : upd H a (exo a C none) = H := by
    funext b
    by_cases hb : b = a
    · rw [hb, upd_same, e]
    · rw [upd_ne hb]
  rw [eu] at J
  exact h _ J
end
/-- B.__init__(self, ..) -/
def tBi (K : PySem.W.Frag) (iB iI : String) (ta : TA) : TE := fun σ H Q => ta σ H fun vs H1 => ∃ (a C : Addr) (ws : List V), vs = .ref a :: ws ∧ ws.length ≤ 1000 ∧ OeX K C iB iI ∧ H1 a = some (exo a C none) ∧ Q .non H1
/-- self.f = e -/
def tOs (K : PySem.W.Frag) (iB iI : String) (f : Str) (to te : TE) : TS := fun D σ H => te σ H fun y H1 => to σ H1 fun x H2 => ∃ a C : Addr, x = .ref a ∧ OeX K C iB iI ∧ PySem.W.findIn K (.ref C) f = some none ∧
  ((H2 a = some (exo a C none) ∧ ∀ dx, H2 dx = none → dx ≠ a → D.nx σ (upd (upd H2 dx (exd dx [(f, y)])) a (exo a C (some dx)))) ∨
    ∃ (dx : Addr) (fs : List (Str × V)), H2 a = some (exo a C (some dx)) ∧ H2 dx = some (exd dx fs) ∧ fs.length ≤ 900 ∧ D.nx σ (upd H2 dx (exd dx ((f, y) :: fs))))
section
variable {X : Cx} {o e : Expr} {es : List Expr} {to te : TE} {ta : TA} {f x : Str} {p p' p1 p2 pos : Pos} {B : Addr} {mc : Value} {iB iI : String}
theorem pe_bi {pl : Sem Bool} (hg : Gl X x) (hm : X.mg x = some (.ref B)) (r : ClX.CRead X.K B mc) (vV : PySem.W.findCls X.K (.ref B) mc "__init__" = some (.val (.builtin iI))) (ha : PA X (e :: es) ta)
    (hc : eval (.Call (.Attribute (.Name x p1) "__init__" p2) (e :: es) [] pos) X.env = (do
      let ov ← eval (.Name x p1) X.env
      standAt p2.atName
      let (f, first) ← holding [ov] (getMethod ov "__init__" pl)
      callWith pos f first (backTo pos (starEach (e :: es) X.env)) (backToKw pos (keywordEach [] X.env))) := by rfl)
    (hcx : PySem.W.handedIn (.builtin iI) = true := by decide +kernel)
    (hdb : (x == ("__debug__" : Str)) = false := by decide) (he : starEach (e :: es) X.env = (false, eval e X.env) :: starEach es X.env := by rfl) (hpl : (backTo pos (starEach es X.env)).any (·.1) = false := by rfl) :
    PE X (.Call (.Attribute (.Name x p1) "__init__" p2) (e :: es) [] pos) (tBi X.K iB iI ta) := by
  refine ⟨fun pins s σ H Q I h => ?_⟩
  refine PySem.W.methodCall_KW (ld_glob I hg hm ?_ hdb) hc
  refine PySem.W.method_cls I.kIn r.ga (PySem.W.cls_value I.kIn r.rd vV hcx ?_)
  show wpAny _ _ (callWith pos (Value.builtin iI) [] (backTo pos (starEach (e :: es) X.env)) []) _ _ _
  refine PyProof.Rows.callWith_method1 (thn (ha.run pos pins _ σ H _ (I.tok _) h) fun us s1 ⟨vs, H1, I1, r1, a, C, ws, ev, hl, T, ea, q⟩ => ?_) he hpl
  subst ev
  cases r1 with
  | @cons _ u0 _ ur ra rw' =>
    obtain rfl : u0 = Value.ref a := ra
    have hlen : ur.length ≤ sizeLine := by
      rw [← Paired.length rw', sizeLine_eq]
      omega
    exact oet_init T I1 ea hlen fun s' J => ⟨.non, H1, J, rfl, q⟩
theorem ps_os (ho : PE X o to) (he : PE X e te) (hs : swapsWith e (some (.Attribute o f p')) pos.line X.env = pure false := by rfl) : PS X (.Assign [.Attribute o f p'] e pos) (tOs X.K iB iI f to te) := by
  refine ⟨fun pins s σ H D I h => ?_⟩
  refine plainObj_wpAny_Assign_Attribute (thn (he.run pins s σ H _ I h) fun v s1 ⟨y, H1, I1, r1, q1⟩ => thn (ho.run pins s1 σ H1 _ I1 q1) fun u s2 ⟨x, H2, I2, r2, a, C, ex, T, hno, q⟩ => ?_) hs
  subst ex
  obtain rfl : u = Value.ref a := r2
  rcases q with ⟨ea, q⟩ | ⟨dx, fs, ea, ed, hl, q⟩
  · exact oet_new T I2 ea hno r1 fun dx s' n ne J => ⟨σ, _, J, q dx n ne⟩
  · exact oet_old T I2 ea ed hl hno r1 fun s' J => ⟨σ, _, J, q⟩
theorem pmk_e {CX : CXT} {x : Str} {C fI : Addr} {k : Nat} {fd : FuncData} {ps : List Str} {sp : Sp} {ds : List Value} {dvs : List V} (T : OeX X.K C iB iI) (iC : PySem.W.findIn X.K (.ref C) "__init__" = some (some (.ref fI))) (tI : PySem.W.typeIn X.K (.ref fI) = some (.type "function"))
    (F1 : FnOk X.prog X.w X.K X.mg X.base CX k fI fd ps sp) (hr : Room (k + 1) X.A) (hb : Binds X.K fd ps ds) (hd : Vals dvs ds) (hx : Passes CX X (fun _ _ _ => False)) (hg : Gl X x) (hm : X.mg x = some (.ref C)) (ha : PA X (e :: es) ta)
    (hdb : (x == ("__debug__" : Str)) = false := by decide) (he : starEach (e :: es) X.env = (false, eval e X.env) :: starEach es X.env := by rfl) (hpl : (backTo pos (starEach es X.env)).any (·.1) = false := by rfl) :
    PMk X (.Call (.Name x p) (e :: es) [] pos) (tMkO C sp dvs ta) := by
  intro pins s σ H Q I h
  obtain ⟨nm, q, N, bs, bm, sn, sub, ab, col, dd, k0, k1, k2, k3, k5, nB, nI, hC, hbm⟩ := T.cls
  refine wpAny_Call_Name_kw (ld_glob I hg hm ?_ hdb)
  refine PySem.W.callWith_K (h₀ := X.base) I.ok.mod.kin T.kC (thn (ha.run pos pins s σ H _ I h) fun us s1 ⟨vs, H1, I1, r1, hz, q1⟩ => ⟨I1.kIn, ?_⟩) he hpl
  show wpAny _ _ (call (.ref C) us) _ _ _
  obtain ⟨hp, g, dr, tk, os⟩ := s1
  have hsz : hp.objs.size ≤ hp.objs.size + 1 := Nat.le_succ _
  have hn : H1 (hp.objs.size + 1) = none := I1.hok.fresh hsz
  have hq := q1 (hp.objs.size + 1) hn
  have kk : ∀ b o, hp.get? b = some o → ((hp.push (PySem.W.kdv_tup us)).push (PySem.HandSPX.excO C hp.objs.size)).get? b = some o := fun b o e => Heap.get?_push_of_some _ (Heap.get?_push_of_some _ e)
  have hget : ((hp.push (PySem.W.kdv_tup us)).push (PySem.HandSPX.excO C hp.objs.size)).get? (hp.objs.size + 1) = some (PySem.HandSPX.excO C hp.objs.size) := by heap_get
  have I2 : Inv X pins σ (upd H1 (hp.objs.size + 1) (exo (hp.objs.size + 1) C none)) ⟨(hp.push (PySem.W.kdv_tup us)).push (PySem.HandSPX.excO C hp.objs.size), g, dr, tk, os⟩ :=
    I1.laid (t' := tk) (a := hp.objs.size + 1) (o := exo (hp.objs.size + 1) C none) (h' := (hp.push (PySem.W.kdv_tup us)).push (PySem.HandSPX.excO C hp.objs.size)) kk hsz (exo_ok hget)
  have r2 : Vals (V.ref (hp.objs.size + 1) :: (vs ++ dvs)) (Value.ref (hp.objs.size + 1) :: (us ++ ds)) := .cons rfl (r1.append hd)
  have hl : (Value.ref (hp.objs.size + 1) :: us ++ ds).length = ps.length := by
    have e := r2.length
    rw [F1.len _ _ _ _ hq] at e
    exact e.symm
  have hus : us.length ≤ sizeLine := by
    rw [← Paired.length r1, sizeLine_eq]
    omega
  refine wpAny_call (mk_call hbm (I1.kIn _ _ hC) (PySem.W.looks_findIn I1.kIn iC) (fun self => PySem.W.bind_fn I1.kIn self tI) hus
    (codeAny_mono (F1.run _ X.stack _ _ ⟨Value.ref (hp.objs.size + 1) :: us, []⟩ (Value.ref (hp.objs.size + 1) :: (us ++ ds)) _ _ (fun _ _ _ => False) (hr.make C us []) (I2.env0.make C us []) (hb _ (Value.ref (hp.objs.size + 1) :: us) I2.kIn hl) r2 hq) fun r s' hq' => ?_))
  cases r with
  | error er => exact hx pins σ _ _ er s' I2 hq'
  | ok fl =>
    cases fl with
    | ret u =>
      obtain ⟨v, H2, os2, bare2, un2, hok2, rv, ev, d, fs, ea, ed, hd1, q2⟩ := hq'
      subst ev
      obtain ⟨h2, g2, d2, t2, os'⟩ := s'
      exact ⟨rv, mk_end (raises_own T.exC T.tyC) I1 hsz kk un2 hok2 os2 bare2 ea ed hd1 q2⟩
    | next => exact False.elim hq'
    | brk => exact False.elim hq'
    | cont => exact False.elim hq'
end
end Mv
/-! Exceptions of own classes: raised by values or by keywords, each with one to three fields. -/
namespace Mv
open PySem PySem.Spec PyProof.Rows L2
/-- C(k = v, ..) -/
def tMkK (C : Addr) (m : Nat) (sp : Sp) (gV : List V → List V → List V) (tk : TA) : L2.St → Hp → XK → Prop := fun σ H Q => tk σ H fun zs H1 => zs.length = m ∧ ∀ a, H1 a = none → sp (gV [.ref a] zs) (upd H1 a (exo a C none))
  (fun v H2 => v = .non ∧ ∃ (d : Addr) (fs : List (Str × V)), H2 a = some (exo a C (some d)) ∧ H2 d = some (exd d fs) ∧ H1 d = none ∧ Q (.ref C) (some d) (upd (del H2 a) d (.xd fs))) (fun _ _ _ => False)
section
variable {X : Cx} {p pos : Pos} {iB iI : String}
theorem pmk_k {CX : CXT} {x : Str} {C fI : Addr} {k : Nat} {fd : FuncData} {ps : List Str} {sp : Sp} {ks : List Str} {gg : List Value → List Value → List Value} {gV : List V → List V → List V} {kws : List Keyword} {tk : TA} (T : OeX X.K C iB iI) (iC : PySem.W.findIn X.K (.ref C) "__init__" = some (some (.ref fI))) (tI : PySem.W.typeIn X.K (.ref fI) = some (.type "function"))
    (F1 : FnOk X.prog X.w X.K X.mg X.base CX k fI fd ps sp) (hr : Room (k + 1) X.A) (hb : KBn X.K fd ps 1 ks gg gV) (hx : Passes CX X (fun _ _ _ => False)) (hg : Gl X x) (hm : X.mg x = some (.ref C)) (hkw : PK X kws tk)
    (hall : (backToKw pos (keywordEach kws X.env)).all (·.1.isSome) = true := by rfl) (hks : (backToKw pos (keywordEach kws X.env)).filterMap (·.1) = ks := by rfl) (hdb : (x == ("__debug__" : Str)) = false := by decide)
    (hpl : ((backTo pos (starEach [] X.env)).any (·.1) || (backToKw pos (keywordEach kws X.env)).any (·.1.isNone)) = false := by rfl) :
    PMk X (.Call (.Name x p) [] kws pos) (tMkK C ks.length sp gV tk) := by
  intro pins s σ H Q I h
  obtain ⟨nm, q, N, bs, bm, sn, sub, ab, col, dd, k0, k1, k2, k3, k5, nB, nI, hC, hbm⟩ := T.cls
  refine wpAny_Call_Name_kw (ld_glob I hg hm ?_ hdb)
  refine PySem.W.callWith_KW0 (h₀ := X.base) I.ok.mod.kin T.kC hall ?_ hpl
  refine thn (hkw.run pos pins s σ H _ I h) fun ws s1 ⟨zs, H1, I1, rz, lz, q1⟩ => ⟨I1.kIn, ?_⟩
  rw [hks]
  show wpAny _ _ (call (.ref C) [] (ks.zip ws)) _ _ _
  obtain ⟨hp, g, dr, tk, os⟩ := s1
  have hsz : hp.objs.size ≤ hp.objs.size + 1 := Nat.le_succ _
  have hn : H1 (hp.objs.size + 1) = none := I1.hok.fresh hsz
  have hq := q1 (hp.objs.size + 1) hn
  have kk : ∀ b o, hp.get? b = some o → ((hp.push (PySem.W.kdv_tup [])).push (PySem.HandSPX.excO C hp.objs.size)).get? b = some o := fun b o e => Heap.get?_push_of_some _ (Heap.get?_push_of_some _ e)
  have hget : ((hp.push (PySem.W.kdv_tup [])).push (PySem.HandSPX.excO C hp.objs.size)).get? (hp.objs.size + 1) = some (PySem.HandSPX.excO C hp.objs.size) := by heap_get
  have I2 : Inv X pins σ (upd H1 (hp.objs.size + 1) (exo (hp.objs.size + 1) C none)) ⟨(hp.push (PySem.W.kdv_tup [])).push (PySem.HandSPX.excO C hp.objs.size), g, dr, tk, os⟩ :=
    I1.laid (t' := tk) (a := hp.objs.size + 1) (o := exo (hp.objs.size + 1) C none) (h' := (hp.push (PySem.W.kdv_tup [])).push (PySem.HandSPX.excO C hp.objs.size)) kk hsz (exo_ok hget)
  have r1 : Vals [V.ref (hp.objs.size + 1)] [Value.ref (hp.objs.size + 1)] := .cons rfl .nil
  have r2 := hb.rel r1 rz
  have e2 : ws.length = ks.length := rz.length.symm.trans lz
  refine wpAny_call (mk_call hbm (I1.kIn _ _ hC) (PySem.W.looks_findIn I1.kIn iC) (fun self => PySem.W.bind_fn I1.kIn self tI) (Nat.zero_le _)
    (codeAny_mono (F1.run _ X.stack _ _ ⟨[Value.ref (hp.objs.size + 1)], ks.zip ws⟩ (gg [Value.ref (hp.objs.size + 1)] ws) _ _ (fun _ _ _ => False) (hr.make C [] (ks.zip ws)) (I2.env0.make C [] (ks.zip ws)) (hb.to _ [Value.ref (hp.objs.size + 1)] ws I2.kIn rfl e2) r2 hq) fun r s' hq' => ?_))
  cases r with
  | error er => exact hx pins σ _ _ er s' I2 hq'
  | ok fl =>
    cases fl with
    | ret u =>
      obtain ⟨v, H2, os2, bare2, un2, hok2, rv, ev, d, fs, ea, ed, hd1, q2⟩ := hq'
      subst ev
      obtain ⟨h2, g2, d2, t2, os'⟩ := s'
      exact ⟨rv, mk_end (raises_own T.exC T.tyC) I1 hsz kk un2 hok2 os2 bare2 ea ed hd1 q2⟩
    | next => exact False.elim hq'
    | brk => exact False.elim hq'
    | cont => exact False.elim hq'
end
/-! ### __init__ -/
def sp_in (C : Addr) (fs : List Str) : Sp := fun vs H Q _ => ∃ (a : Addr) (ys : List V), vs = .ref a :: ys ∧ ys.length = fs.length ∧ H a = some (exo a C none) ∧
  ∀ (dx : Addr) (H' : Hp), H dx = none → dx ≠ a → H' a = some (exo a C (some dx)) → H' dx = some (exd dx (fs.zip ys).reverse) → (∀ b, b ≠ a → b ≠ dx → H' b = H b) → Q .non H'
abbrev iHead (Bx : Str) (txt : Str) (p1 p2 p3 p4 p5 p6 : Pos) : Stmt := .Expr (.Call (.Attribute (.Name Bx p1) "__init__" p2) [.Name "self" p3, .Constant (.str txt) 0 p4] [] p5) p6
/-- how the call of the base's __init__ is taken apart -/
abbrev iTakes (q : Str) (sc : Scope) (Bx : Str) (txt : Str) (p1 p2 p3 p4 p5 : Pos) (pl : Addr → Addr → Value → Sem Bool) : Prop := ∀ (L f : Addr) (cd : Value), eval (.Call (.Attribute (.Name Bx p1) "__init__" p2) [.Name "self" p3, .Constant (.str txt) 0 p4] [] p5) (envOfC q sc L f cd) = (do
      let ov ← eval (.Name Bx p1) (envOfC q sc L f cd)
      standAt p2.atName
      let (f1, first) ← holding [ov] (getMethod ov "__init__" (pl L f cd))
      callWith p5 f1 first (backTo p5 (starEach [.Name "self" p3, .Constant (.str txt) 0 p4] (envOfC q sc L f cd))) (backToKw p5 (keywordEach [] (envOfC q sc L f cd))))
abbrev iSet (f : Str) (q1 q2 q3 q4 : Pos) : Stmt := .Assign [.Attribute (.Name "self" q1) f q2] (.Name f q3) q4
/-- a base class that has no __init__ of its own: B.__init__ is the built-in one -/
structure BaseI (K : PySem.W.Frag) (mg : Str → Option Value) (Bx : Str) (iI : String) : Prop where
  ex : ∃ (B : Addr) (mc : Value), mg Bx = some (.ref B) ∧ ClX.CRead K B mc ∧ PySem.W.findCls K (.ref B) mc "__init__" = some (.val (.builtin iI))
  hd : PySem.W.handedIn (.builtin iI) = true
section
variable {P : Program} {w : World} {K : PySem.W.Frag} {mg : Str → Option Value} {base : Heap} {C fI : Addr} {fd : FuncData} {st : Stmt} {q Bx txt : Str} {iB iI : String} {f g h : Str} {p1 p2 p3 p4 p5 p6 q1 q2 q3 q4 r1 r2 r3 r4 s1 s2 s3 s4 : Pos}
theorem upd_ne' {H : Hp} {a b : Addr} {o : HO} (h : b ≠ a) : upd H a o b = H b := upd_ne h
theorem ok_in1 (F : Fun K "__init__" q st fI fd) (Bi : BaseI K mg Bx iI) (T : OeX K C iB iI) (n1 : PySem.W.findIn K (.ref C) f = some none) (sc : FnScope ["self", f] ["self", f] (defScope st)) (hgl : (defScope st).names.lookup Bx = some .globalImplicit) (hdb : (Bx == ("__debug__" : Str)) = false)
    (v0 : Vis (defScope st) "self") (v1 : Vis (defScope st) f) (d1 : (f == ("__debug__" : Str)) = false) (c1 : (f == ("__classdict__" : Str)) = false)
    (pl : Addr → Addr → Value → Sem Bool) (hc : iTakes q (defScope st) Bx txt p1 p2 p3 p4 p5 pl) (hb : defBody st = [iHead Bx txt p1 p2 p3 p4 p5 p6, iSet f q1 q2 q3 q4]) : FnOk P w K mg base CX0 1 fI fd ["self", f] (sp_in C [f]) := by
  refine F.ok sc (fun vs H Q E h => ?_) (fun cdv A outer s H vs Q E hr h => ?_)
  · obtain ⟨a, ys, rfl, hl, _⟩ := h
    exact congrArg (· + 1) hl
  · obtain ⟨a, ys, rfl, hl, ha, k⟩ := h
    obtain ⟨B, mc, hm, cr, fc⟩ := Bi.ex
    match ys, hl with
    | [y], _ =>
      rw [hb]
      refine ⟨_, pss_cons (ps_expr (pe_bi (iB := iB) hgl hm cr fc (pa_cons (pe_var (i := 0) rfl v0) (pa_cons pe_str pa_nil)) (hc := hc _ _ _) (hcx := Bi.hd) (hdb := hdb))) (pss_one (ps_os (iB := iB) (iI := iI) (pe_var (i := 0) rfl v0) (pe_var (i := 1) rfl v1 d1 c1))), ?_⟩
      refine ⟨_, rfl, a, C, [.str txt], rfl, (by show 1 ≤ 1000; decide), T, ha, ?_⟩
      exact ⟨_, rfl, _, rfl, a, C, rfl, T, n1, .inl ⟨ha, fun dx n ne => k dx _ n ne upd_same (by rw [upd_ne ne, upd_same] <;> rfl) fun b h1 h2 => by rw [upd_ne h1, upd_ne h2]⟩⟩
theorem ok_in2 (F : Fun K "__init__" q st fI fd) (Bi : BaseI K mg Bx iI) (T : OeX K C iB iI) (n1 : PySem.W.findIn K (.ref C) f = some none) (n2 : PySem.W.findIn K (.ref C) g = some none) (sc : FnScope ["self", f, g] ["self", f, g] (defScope st)) (hgl : (defScope st).names.lookup Bx = some .globalImplicit) (hdb : (Bx == ("__debug__" : Str)) = false)
    (v0 : Vis (defScope st) "self") (v1 : Vis (defScope st) f) (d1 : (f == ("__debug__" : Str)) = false) (c1 : (f == ("__classdict__" : Str)) = false) (v2 : Vis (defScope st) g) (d2 : (g == ("__debug__" : Str)) = false) (c2 : (g == ("__classdict__" : Str)) = false)
    (pl : Addr → Addr → Value → Sem Bool) (hc : iTakes q (defScope st) Bx txt p1 p2 p3 p4 p5 pl) (hb : defBody st = [iHead Bx txt p1 p2 p3 p4 p5 p6, iSet f q1 q2 q3 q4, iSet g r1 r2 r3 r4]) : FnOk P w K mg base CX0 1 fI fd ["self", f, g] (sp_in C [f, g]) := by
  refine F.ok sc (fun vs H Q E h => ?_) (fun cdv A outer s H vs Q E hr h => ?_)
  · obtain ⟨a, ys, rfl, hl, _⟩ := h
    exact congrArg (· + 1) hl
  · obtain ⟨a, ys, rfl, hl, ha, k⟩ := h
    obtain ⟨B, mc, hm, cr, fc⟩ := Bi.ex
    match ys, hl with
    | [y, z], _ =>
      rw [hb]
      refine ⟨_, pss_cons (ps_expr (pe_bi (iB := iB) hgl hm cr fc (pa_cons (pe_var (i := 0) rfl v0) (pa_cons pe_str pa_nil)) (hc := hc _ _ _) (hcx := Bi.hd) (hdb := hdb)))
        (pss_cons (ps_os (iB := iB) (iI := iI) (pe_var (i := 0) rfl v0) (pe_var (i := 1) rfl v1 d1 c1)) (pss_one (ps_os (iB := iB) (iI := iI) (pe_var (i := 0) rfl v0) (pe_var (i := 2) rfl v2 d2 c2)))), ?_⟩
      refine ⟨_, rfl, a, C, [.str txt], rfl, (by show 1 ≤ 1000; decide), T, ha, ?_⟩
      refine ⟨_, rfl, _, rfl, a, C, rfl, T, n1, .inl ⟨ha, fun dx n ne => ?_⟩⟩
      refine ⟨_, rfl, _, rfl, a, C, rfl, T, n2, .inr ⟨dx, _, upd_same, (by rw [upd_ne ne, upd_same]), (by show 1 ≤ 900; decide), ?_⟩⟩
      exact k dx _ n ne (by rw [upd_ne (Ne.symm ne), upd_same]) upd_same fun b h1 h2 => by rw [upd_ne h2, upd_ne h1, upd_ne h2]
theorem ok_in3 (F : Fun K "__init__" q st fI fd) (Bi : BaseI K mg Bx iI) (T : OeX K C iB iI) (n1 : PySem.W.findIn K (.ref C) f = some none) (n2 : PySem.W.findIn K (.ref C) g = some none) (n3 : PySem.W.findIn K (.ref C) h = some none) (sc : FnScope ["self", f, g, h] ["self", f, g, h] (defScope st)) (hgl : (defScope st).names.lookup Bx = some .globalImplicit) (hdb : (Bx == ("__debug__" : Str)) = false)
    (v0 : Vis (defScope st) "self") (v1 : Vis (defScope st) f) (d1 : (f == ("__debug__" : Str)) = false) (c1 : (f == ("__classdict__" : Str)) = false) (v2 : Vis (defScope st) g) (d2 : (g == ("__debug__" : Str)) = false) (c2 : (g == ("__classdict__" : Str)) = false) (v3 : Vis (defScope st) h) (d3 : (h == ("__debug__" : Str)) = false) (c3 : (h == ("__classdict__" : Str)) = false)
    (pl : Addr → Addr → Value → Sem Bool) (hc : iTakes q (defScope st) Bx txt p1 p2 p3 p4 p5 pl) (hb : defBody st = [iHead Bx txt p1 p2 p3 p4 p5 p6, iSet f q1 q2 q3 q4, iSet g r1 r2 r3 r4, iSet h s1 s2 s3 s4]) : FnOk P w K mg base CX0 1 fI fd ["self", f, g, h] (sp_in C [f, g, h]) := by
  refine F.ok sc (fun vs H Q E h => ?_) (fun cdv A outer s H vs Q E hr h => ?_)
  · obtain ⟨a, ys, rfl, hl, _⟩ := h
    exact congrArg (· + 1) hl
  · obtain ⟨a, ys, rfl, hl, ha, k⟩ := h
    obtain ⟨B, mc, hm, cr, fc⟩ := Bi.ex
    match ys, hl with
    | [y, z, x], _ =>
      rw [hb]
      refine ⟨_, pss_cons (ps_expr (pe_bi (iB := iB) hgl hm cr fc (pa_cons (pe_var (i := 0) rfl v0) (pa_cons pe_str pa_nil)) (hc := hc _ _ _) (hcx := Bi.hd) (hdb := hdb)))
        (pss_cons (ps_os (iB := iB) (iI := iI) (pe_var (i := 0) rfl v0) (pe_var (i := 1) rfl v1 d1 c1)) (pss_cons (ps_os (iB := iB) (iI := iI) (pe_var (i := 0) rfl v0) (pe_var (i := 2) rfl v2 d2 c2)) (pss_one (ps_os (iB := iB) (iI := iI) (pe_var (i := 0) rfl v0) (pe_var (i := 3) rfl v3 d3 c3))))), ?_⟩
      refine ⟨_, rfl, a, C, [.str txt], rfl, (by show 1 ≤ 1000; decide), T, ha, ?_⟩
      refine ⟨_, rfl, _, rfl, a, C, rfl, T, n1, .inl ⟨ha, fun dx n ne => ?_⟩⟩
      refine ⟨_, rfl, _, rfl, a, C, rfl, T, n2, .inr ⟨dx, _, upd_same, (by rw [upd_ne ne, upd_same]), (by show 1 ≤ 900; decide), ?_⟩⟩
      refine ⟨_, rfl, _, rfl, a, C, rfl, T, n3, .inr ⟨dx, _, (by rw [upd_ne (Ne.symm ne), upd_same]), upd_same, (by show 2 ≤ 900; decide), ?_⟩⟩
      exact k dx _ n ne (by rw [upd_ne (Ne.symm ne), upd_ne (Ne.symm ne), upd_same]) upd_same fun b h1 h2 => by rw [upd_ne h2, upd_ne h2, upd_ne h1, upd_ne h2]
end
/-! ### the making, told cleanly -/
/-- an exception class with its __init__, as the top has written it -/
structure ExT (P : Program) (w : World) (K : PySem.W.Frag) (mg : Str → Option Value) (base : Heap) (x : Str) (C : Addr) (fs : List Str) : Prop where
  m : mg x = some (.ref C)
  xf : XfC K C
  no : ∀ f ∈ fs, PySem.W.findIn K (.ref C) f = some none
  ex : ∃ (fI : Addr) (fd : FuncData) (iB iI : String), OeX K C iB iI ∧ PySem.W.findIn K (.ref C) "__init__" = some (some (.ref fI)) ∧ PySem.W.typeIn K (.ref fI) = some (.type "function") ∧ FnOk P w K mg base CX0 1 fI fd ("self" :: fs) (sp_in C fs) ∧ Binds K fd ("self" :: fs) [] ∧
    KBn K fd ("self" :: fs) 1 fs.reverse (fun us ws => us ++ ws.reverse) (fun vs zs => vs ++ zs.reverse)
/-- raise C(e, ..) -/
def tRz (C : Addr) (fs : List Str) (ta : TA) : L2.St → Hp → XK → Prop := fun σ H Q => ta σ H fun vs H1 => vs.length = fs.length ∧ ∀ d, H1 d = none → Q (.ref C) (some d) (upd H1 d (.xd (fs.zip vs).reverse))
/-- raise C(k = e, ..), the keywords from the last to the first -/
def tRzK (C : Addr) (fs : List Str) (tk : TA) : L2.St → Hp → XK → Prop := fun σ H Q => tk σ H fun zs H1 => zs.length = fs.length ∧ ∀ d, H1 d = none → Q (.ref C) (some d) (upd H1 d (.xd (fs.zip zs.reverse).reverse))
theorem made_end {H1 H2 : Hp} {a C dx : Addr} {l : List (Str × V)} {Q : XK} (ha : H1 a = none) (nd : upd H1 a (exo a C none) dx = none) (ne : dx ≠ a) (e1 : H2 a = some (exo a C (some dx))) (e2 : H2 dx = some (exd dx l)) (e3 : ∀ b, b ≠ a → b ≠ dx → H2 b = upd H1 a (exo a C none) b)
    (q : Q (.ref C) (some dx) (upd H1 dx (.xd l))) : ∃ (d : Addr) (fs : List (Str × V)), H2 a = some (exo a C (some d)) ∧ H2 d = some (exd d fs) ∧ H1 d = none ∧ Q (.ref C) (some d) (upd (del H2 a) d (.xd fs)) := by
  have n1 : H1 dx = none := by rwa [upd_ne ne] at nd
  refine ⟨dx, l, e1, e2, n1, ?_⟩
  have e : upd (del H2 a) dx (.xd l) = upd H1 dx (.xd l) := by
    funext b
    by_cases hb : b = dx
    · rw [hb, upd_same, upd_same]
    · rw [upd_ne hb, upd_ne hb]
      by_cases hc : b = a
      · rw [hc, del_same, ha]
      · rw [del_ne hc, e3 b hc hb, upd_ne hc]
  rw [e]
  exact q
/-- a reading that asks less -/
def tWeak (t : TA) : TA := fun σ H Q => ∃ Q0, t σ H Q0 ∧ ∀ vs H1, Q0 vs H1 → Q vs H1
theorem pa_weak {X : Cx} {es : List Expr} {t : TA} (h : PA X es t) : PA X es (tWeak t) := ⟨fun pos pins s σ H Q I ⟨Q0, h0, hq⟩ => thn (h.run pos pins s σ H Q0 I h0) fun us s1 ⟨vs, H1, I1, r, q⟩ => ⟨vs, H1, I1, r, hq vs H1 q⟩⟩
theorem pk_weak {X : Cx} {kws : List Keyword} {t : TA} (h : PK X kws t) : PK X kws (tWeak t) := ⟨fun pos pins s σ H Q I ⟨Q0, h0, hq⟩ => thn (h.run pos pins s σ H Q0 I h0) fun us s1 ⟨vs, H1, I1, r, q⟩ => ⟨vs, H1, I1, r, hq vs H1 q⟩⟩
section
variable {X : Cx} {x : Str} {C : Addr} {fs : List Str} {e : Expr} {es : List Expr} {ta tk : TA} {kws : List Keyword} {p pos pos2 : Pos} {W : WX}
theorem pmk_rz (T : ExT X.prog X.w X.K X.mg X.base x C fs) (hr : Room 2 X.A) (hg : Gl X x) (hn : fs.length ≤ 1000) (ha : PA X (e :: es) ta) (hdb : (x == ("__debug__" : Str)) = false := by decide)
    (he : starEach (e :: es) X.env = (false, eval e X.env) :: starEach es X.env := by rfl) (hpl : (backTo pos (starEach es X.env)).any (·.1) = false := by rfl) :
    PMk X (.Call (.Name x p) (e :: es) [] pos) (tRz C fs ta) := by
  obtain ⟨fI, fd, iB, iI, oe, iC, tI, F, bd, _⟩ := T.ex
  have z := pmk_e (pos := pos) (p := p) oe iC tI F hr bd .nil pass0 hg T.m (pa_weak ha) hdb he hpl
  intro pins s σ H Q I h
  refine z pins s σ H Q I ⟨_, h, ?_⟩
  intro vs H1 ⟨hl, k⟩
  refine ⟨by omega, fun a ha0 => ⟨a, vs, by rw [List.append_nil], hl, upd_same, fun dx H' n ne e1 e2 e3 => ⟨rfl, made_end ha0 n ne e1 e2 e3 (k dx (by rwa [upd_ne ne] at n))⟩⟩⟩
theorem pmk_rzK (T : ExT X.prog X.w X.K X.mg X.base x C fs) (hr : Room 2 X.A) (hg : Gl X x) (hkw : PK X kws tk) (hdb : (x == ("__debug__" : Str)) = false := by decide)
    (hall : (backToKw pos (keywordEach kws X.env)).all (·.1.isSome) = true := by rfl) (hks : (backToKw pos (keywordEach kws X.env)).filterMap (·.1) = fs.reverse := by rfl)
    (hpl : ((backTo pos (starEach [] X.env)).any (·.1) || (backToKw pos (keywordEach kws X.env)).any (·.1.isNone)) = false := by rfl) :
    PMk X (.Call (.Name x p) [] kws pos) (tRzK C fs tk) := by
  obtain ⟨fI, fd, iB, iI, oe, iC, tI, F, _, kb⟩ := T.ex
  have z := pmk_k (pos := pos) (p := p) oe iC tI F hr kb pass0 hg T.m (pk_weak hkw) hall hks hdb hpl
  intro pins s σ H Q I h
  refine z pins s σ H Q I ⟨_, h, ?_⟩
  intro zs H1 ⟨hl, k⟩
  refine ⟨by rw [List.length_reverse]; exact hl, fun a ha0 => ⟨a, zs.reverse, rfl, by rw [List.length_reverse]; exact hl, upd_same, fun dx H' n ne e1 e2 e3 => ⟨rfl, made_end ha0 n ne e1 e2 e3 (k dx (by rwa [upd_ne ne] at n))⟩⟩⟩
end
end Mv
/-! Several except clauses, each with or without a name. -/
namespace Mv
open PySem PySem.Spec PyProof.Rows L2
inductive HdA (X : Cx) : List ExceptHandler → List (Value × (Addr → Value → Option Addr → TS)) → Prop
  | nil : HdA X [] []
  | cons {x : Str} {c : Value} {ts : Addr → Value → Option Addr → TS} {b₀ : Stmt} {suite : List Stmt} {np pos' : Pos} {hds : List ExceptHandler} {l : List (Value × (Addr → Value → Option Addr → TS))} (hc : Names X x c)
      (hsu : ∀ (a : Addr) (oe : Obj) (cls : Value) (d : Option Addr) (pn : List (Addr × Obj)), Zc cls d oe → (∃ vs, oe.data = .fields vs) → PSs (X.suite a ((a, oe) :: pn)) (b₀ :: suite) (ts a cls d)) (r : HdA X hds l) :
      HdA X (.ExceptHandler (some (.Name x np)) none (b₀ :: suite) pos' :: hds) ((c, ts) :: l)
  | as {x n : Str} {i : Nat} {c : Value} {ts : Addr → Value → Option Addr → TS} {b₀ : Stmt} {suite : List Stmt} {np pos' : Pos} {hds : List ExceptHandler} {l : List (Value × (Addr → Value → Option Addr → TS))} (hN : X.N.Nodup) (hi : X.N[i]? = some n) (hln : X.env.kindOf n = some .local) (hc : Names X x c)
      (hsu : ∀ (a : Addr) (oe : Obj) (cls : Value) (d : Option Addr) (pn : List (Addr × Obj)), Zc cls d oe → (∃ vs, oe.data = .fields vs) → PSs (X.suite a ((a, oe) :: pn)) (b₀ :: suite) (ts a cls d)) (r : HdA X hds l) :
      HdA X (.ExceptHandler (some (.Name x np)) (some n) (b₀ :: suite) pos' :: hds) ((c, fun a cls d D σ H => ts a cls d { nx := fun σ' H' => D.nx (σ'.set i none) H', rt := D.rt, bk := fun σ' H' => D.bk (σ'.set i none) H', ct := fun σ' H' => D.ct (σ'.set i none) H' } (σ.set i (some (.ref a))) H) :: l)
section
variable {X : Cx} {body : List Stmt} {h₀ : ExceptHandler} {hds : List ExceptHandler} {l : List (Value × (Addr → Value → Option Addr → TS))} {pos : Pos} {tb : WX → TS} {Wout : WX}
theorem ps_try_as2 (hs : X.stack = X.env :: X.outer) (hf : X.env.frame = some X.env.locals) (tk : Takes X Wout)
    (hb : ∀ (W : WX) (pn : List (Addr × Obj)) (xe : Value → Shared → Prop), Takes (X.tr pn xe) W → PassesOwn (model X.prog X.w) X.A X.env xe → PSs (X.tr pn xe) body (tb W))
    (hh : HdA X (h₀ :: hds) l) : PS X (.Try body (h₀ :: hds) [] [] pos) (fun D σ H => tb (wMany X.K Wout D l) D σ H) := by
  refine ⟨fun pins s σ H D I h => ?_⟩
  have ok := I.ok
  have hfr : X.A.frames = some (X.env :: X.outer) := by rw [ok.frames, hs]
  refine wpAny_Try_except ?_
  refine wpAny_mono ((hb (wMany X.K Wout D l) (X.pn ++ pins) (fun e s₁ => wpAny (model X.prog X.w) X.A (noteFrame e X.env) (fun _ s₂ => wpAny (model X.prog X.w) X.A (setFlight e none) (fun _ s₃ =>
    wpAny (model X.prog X.w) X.A (handleBy e X.env (h₀ :: hds)) (SP X pins D) X.xe s₃) X.xe s₂) X.xe s₁) (fun u s' xx => ?_) PassesOwn.looking).run [] s σ H D (I.toTry _) h) (fun f s1 hsp => ?_) (fun e s1 he => he)
  · -- the catch
    obtain ⟨a, B, sI, pins', σ', H', cls, d, rfl, J', nb, up, sky, na, os, ag, w⟩ := xx
    have J : Inv X pins σ' H' sI := J'.ofTry ok
    have sky' : Sky B (X.env :: X.outer) a (Zc cls d) X.env.locals s'.heap := by rw [← hs]; exact sky
    show wpAny (model X.prog X.w) X.A (noteFrame (.ref a) X.env) _ _ _
    refine Sky.land Zc.steady hfr hf sky' fun h3 fl3 up3 => ?_
    have J3 : Inv X pins σ' H' { s' with heap := h3 } := J.landed nb fl3.1 (up.trans up3) os ag
    obtain ⟨oe3, vs3, he3, hz3, hd3⟩ := fl3.there
    have notFr : ∀ {h : Heap} {o : Obj} {vs : Array Value}, h.FunFrames B (X.env :: X.outer) → h.get? a = some o → o.data = .fields vs → a ∉ frs (X.env :: X.outer) := fun {h o vs} ff e dd hm => by
      obtain ⟨_, o', e', hnf⟩ := ff.mem hm
      rw [e] at e'; cases e'
      exact hnf _ dd
    have nfr := notFr fl3.2.2.1 he3 hd3
    have nL : a ≠ X.env.locals := fun z => nfr (List.mem_filterMap.mpr ⟨X.env, List.mem_cons_self, by rw [hf, z]⟩)
    have nF : a ∉ X.fs := fun hm => by
      obtain ⟨e, he, q⟩ := List.mem_filterMap.mp hm
      exact nfr (List.mem_filterMap.mpr ⟨e, List.mem_cons_of_mem _ he, q⟩)
    have S3 := J3.suite he3 hd3 na nL nF
    have go : ∀ {hds' : List ExceptHandler} {l' : List (Value × (Addr → Value → Option Addr → TS))}, HdA X hds' l' → wMany X.K Wout D l' cls d σ' H' →
        wpAny (model X.prog X.w) X.A (handleBy (.ref a) X.env hds') (SP X pins D) X.xe { s' with heap := h3 } := by
      intro hds' l' hk
      induction hk with
      | nil =>
        intro w
        refine wpAny_handleBy_nil ?_
        obtain ⟨k1, k2, k3, oe, vs, T, oT, ts', he, hz, hd, h1, hr⟩ := id fl3
        unfold PySem.passOn
        refine wpAny_bind (wpAny_field he hd h1 ?_)
        rw [if_neg (show ¬ ((Value.ref T == Value.none) = true) from by simp)]
        have fin : wpAny (model X.prog X.w) X.A (setFlight (.ref a) X.env.frame) (fun _ s4 => wpAny (model X.prog X.w) X.A (throw (.ref a) : Sem Flow) (SP X pins D) X.xe s4) X.xe { s' with heap := h3 } := by
          rw [hf]
          refine HandSPX.setFlight_upZ fl3 fun h4 hh4 up4 => wpAny_throw (tk _ _ ?_)
          exact ⟨a, B, sI, pins, σ', H', cls, d, rfl, J, nb, (up.trans up3).trans up4, .inr (.inr (by rw [hs]; exact hh4)), na, os, ag, w⟩
        first
          | exact wpAny_bind (wpAny_pure (wpAny_bind fin))
          | exact wpAny_bind fin
      | @cons x c ts b₀ suite np pos' hds2 l2 hc hsu r ih =>
        intro w
        obtain ⟨b, hb1, hyes, hno⟩ := w
        refine wpAny_handleBy_cons (codeAny_handlers_test ?_) (by intro q; cases q)
        have LT : PySem.W.Looks (model X.prog X.w) h3 (typeOf (.ref a)) cls := fun A Q E s k q => wpAny_typeOf_ref (k _ _ he3) (by rw [hz3.1]; exact q)
        have LM := PySem.W.exm_one (M := model X.prog X.w) (J3.kIn) LT hb1
        have test : ∀ {Q : Value → Shared → Prop} {E : Value → Shared → Prop}, Q c { s' with heap := h3 } → wpAny (model X.prog X.w) (X.A.mark (some (.ref a))) (eval (.Name x np) X.env) Q E { s' with heap := h3 } := fun {Q E} q => by
          obtain ⟨hg, hdbg, hm | ⟨hm, hv, hnn⟩⟩ := hc
          · exact ld_glob (X := X.suite a ((a, oe3) :: (X.pn ++ pins))) S3 hg hm q hdbg
          · exact ld_blt (X := X.suite a ((a, oe3) :: (X.pn ++ pins))) S3 hg hm hv q hnn hdbg
        refine test (LM.here ?_)
        cases b with
        | true =>
          refine codeAny_handlers_suite ?_
          refine HandSPX.lands_againZ fl3 fun h4 fl4 up4 => ?_
          have J4 : Inv X pins σ' H' { s' with heap := h4 } := J.landed nb fl4.1 ((up.trans up3).trans up4) os ag
          obtain ⟨oe4, vs4, he4, hz4, hd4⟩ := fl4.there
          have S4 := J4.suite he4 hd4 na nL nF
          refine wpAny_mono ((hsu a oe4 cls d (X.pn ++ pins) hz4 ⟨_, hd4⟩).run [] _ _ H' _ S4 (hyes rfl a na)) (fun f s6 hsp => ?_) (fun _ _ z => False.elim z)
          cases f with
          | next =>
            obtain ⟨σ6, H6, S6, q6⟩ := hsp
            exact ⟨_, _, S6.unsuite ok, q6⟩
          | brk =>
            obtain ⟨σ6, H6, S6, q6⟩ := hsp
            exact ⟨_, _, S6.unsuite ok, q6⟩
          | cont =>
            obtain ⟨σ6, H6, S6, q6⟩ := hsp
            exact ⟨_, _, S6.unsuite ok, q6⟩
          | ret u =>
            obtain ⟨v6, σ6, H6, S6, r6, q6⟩ := hsp
            exact ⟨_, _, _, S6.unsuite ok, r6, q6⟩
        | false =>
          show wpAny _ X.A (handleBy (.ref a) X.env hds2) _ _ _
          exact ih (hno rfl)
      | @as x n i c ts b₀ suite np pos' hds2 l2 hN hi hln hc hsu r ih =>
        intro w
        obtain ⟨b, hb1, hyes, hno⟩ := w
        refine wpAny_handleBy_cons (codeAny_handlers_test ?_) (by intro q; cases q)
        have LT : PySem.W.Looks (model X.prog X.w) h3 (typeOf (.ref a)) cls := fun A Q E s k q => wpAny_typeOf_ref (k _ _ he3) (by rw [hz3.1]; exact q)
        have LM := PySem.W.exm_one (M := model X.prog X.w) (J3.kIn) LT hb1
        have test : ∀ {Q : Value → Shared → Prop} {E : Value → Shared → Prop}, Q c { s' with heap := h3 } → wpAny (model X.prog X.w) (X.A.mark (some (.ref a))) (eval (.Name x np) X.env) Q E { s' with heap := h3 } := fun {Q E} q => by
          obtain ⟨hg, hdbg, hm | ⟨hm, hv, hnn⟩⟩ := hc
          · exact ld_glob (X := X.suite a ((a, oe3) :: (X.pn ++ pins))) S3 hg hm q hdbg
          · exact ld_blt (X := X.suite a ((a, oe3) :: (X.pn ++ pins))) S3 hg hm hv q hnn hdbg
        refine test (LM.here ?_)
        cases b with
        | true =>
          refine codeAny_handlers_suite_as ?_
          refine HandSPX.lands_againZ fl3 fun h4 fl4 up4 => ?_
          have J4 : Inv X pins σ' H' { s' with heap := h4 } := J.landed nb fl4.1 ((up.trans up3).trans up4) os ag
          obtain ⟨oe4, vs4, he4, hz4, hd4⟩ := fl4.there
          have S4 := J4.suite he4 hd4 na nL nF
          refine store_ok (X := X.suite a ((a, oe4) :: (X.pn ++ pins))) (v := .ref a) S4 hN hi (show Loc X.env.scope n from .inl hln) rfl (fun s5 S5 => ?_) (.inr hln)
          refine wpAny_mono ((hsu a oe4 cls d (X.pn ++ pins) hz4 ⟨_, hd4⟩).run [] s5 _ H' _ S5 (hyes rfl a na)) (fun f s6 hsp => ?_) (fun _ _ z => False.elim z)
          have end_ : ∀ {σ6 : L2.St} {H6 : Hp} {Q : Shared → Prop}, Inv (X.suite a ((a, oe4) :: (X.pn ++ pins))) [] σ6 H6 s6 → (∀ s7, Inv X pins (σ6.set i none) H6 s7 → Q s7) →
              wpAny (model X.prog X.w) X.A (do bindName X.env n .none; unbindBehindTheSuite X.env n pos') (fun _ s7 => Q s7) X.xe s6 := fun {σ6 H6 Q} S6 hq => gone_ok (S6.unsuite ok) hN hi hln hq
          cases f with
          | next =>
            obtain ⟨σ6, H6, S6, q6⟩ := hsp
            exact end_ S6 fun s7 J7 => ⟨_, _, J7, q6⟩
          | brk =>
            obtain ⟨σ6, H6, S6, q6⟩ := hsp
            exact end_ S6 fun s7 J7 => ⟨_, _, J7, q6⟩
          | cont =>
            obtain ⟨σ6, H6, S6, q6⟩ := hsp
            exact end_ S6 fun s7 J7 => ⟨_, _, J7, q6⟩
          | ret u =>
            obtain ⟨v6, σ6, H6, S6, r6, q6⟩ := hsp
            exact end_ S6 fun s7 J7 => ⟨_, _, _, J7, r6, q6⟩
        | false =>
          show wpAny _ X.A (handleBy (.ref a) X.env hds2) _ _ _
          exact ih (hno rfl)
    exact go hh w
  · cases f with
    | next =>
      obtain ⟨σ', H', J', q⟩ := hsp
      exact wpAny_execs_nil ⟨σ', H', J'.ofTry ok, q⟩
    | brk =>
      obtain ⟨σ', H', J', q⟩ := hsp
      exact ⟨σ', H', J'.ofTry ok, q⟩
    | cont =>
      obtain ⟨σ', H', J', q⟩ := hsp
      exact ⟨σ', H', J'.ofTry ok, q⟩
    | ret u =>
      obtain ⟨v, σ', H', J', r, q⟩ := hsp
      exact ⟨v, σ', H', J'.ofTry ok, r, q⟩
end
end Mv
/-! What a suite asks of the exception that it holds: its fields, its kind. -/
namespace Mv
open PySem PySem.Spec PyProof.Rows L2
/-- e.f, e the exception at a (its class cls, its dict d) -/
def tXg (K : PySem.W.Frag) (a : Addr) (cls : Value) (d : Option Addr) (n : Str) (te : TE) : TE := fun σ H Q => te σ H fun x H1 => ∃ (C dd : Addr) (fs : List (Str × V)) (v : V), x = .ref a ∧ cls = .ref C ∧ XfC K C ∧ PySem.W.findIn K (.ref C) n = some none ∧ d = some dd ∧ H1 dd = some (.xd fs) ∧ fs.lookup n = some v ∧ Q v H1
section
variable {X : Cx} {a : Addr} {oe : Obj} {cls : Value} {d : Option Addr} {pn : List (Addr × Obj)} {e : Expr} {te : TE} {pos : Pos} {n : Str}
theorem pe_xg (hz : Zc cls d oe) (hf : ∃ vs, oe.data = .fields vs) (he : PE (X.suite a ((a, oe) :: pn)) e te) (hb : attributeBase e n X.env (eval e X.env) = eval e X.env := by rfl) :
    PE (X.suite a ((a, oe) :: pn)) (.Attribute e n pos) (tXg X.K a cls d n te) := by
  refine ⟨fun pins s σ H Q I h => ?_⟩
  refine attr_of hb (thn (he.run pins s σ H _ I h) fun u s1 hh => ?_)
  obtain ⟨x, H1, I1, rx, C, dd, fs, v, ex, ec, T, hno, ed, ea, l, q⟩ := hh
  subst ex
  obtain rfl : u = Value.ref a := rx
  subst ec
  subst ed
  obtain ⟨ha, _⟩ := I1.pin (a, oe) (List.mem_append_left _ List.mem_cons_self)
  obtain ⟨vs, hd⟩ := hf
  have hx : ObjOk X.prog X.w H1 s1.heap dd (.xd fs) := I1.hok dd _ ea
  obtain ⟨mA, hns, hr⟩ := hx
  obtain ⟨od, ho, hl⟩ := lookIn_ns hns
  obtain ⟨u, hu, ru⟩ := RelO.some_of (v := v) (o := mA n) (by rw [← l]; exact hr n)
  have J : PySem.W.InstAt s1.heap a oe C (some od) := ⟨ha, hz.1, by unfold PySem.W.notCls; rw [hd] <;> rfl, by rw [hz.2]; exact ho⟩
  exact HandSPX.exc_get I1.kIn J T.ga T.gg T.exC (PySem.W.findObj_own T.hdC hno rfl (by rw [hl, hu])) (handed_of ru) ⟨v, H1, I1.tok _, ru, q⟩
/-- isinstance(e, c), e the exception that the suite holds -/
def rIsX (K : PySem.W.Frag) (a : Addr) (cls : Value) (d : Option Addr) : List V → Hp → VK → Prop := fun xs H Q => ∃ (D dd : Addr) (fs : List (Str × V)) (c : V) (cv : Value) (b : Bool), xs = [.ref a, c] ∧ cls = .ref D ∧ d = some dd ∧ ExcC K D ∧ H dd = some (.xd fs) ∧ (∀ u, RelV c u → u = cv) ∧ PySem.W.kitOne K (.ref D) cv = some b ∧ Q (.bl b) H
theorem call_isX (hz : Zc cls d oe) (hf : ∃ vs, oe.data = .fields vs) : CallR (X.suite a ((a, oe) :: pn)) (.builtin "isinstance") (rIsX X.K a cls d) := by
  intro pins s σ H xs us Q I r h
  obtain ⟨D, dd, fs, c, cv, b, rfl, ec, ed, C, hD, hcv, e, q⟩ := h
  subst ec
  subst ed
  cases r with
  | cons rx rr =>
    cases rr with
    | cons rt rr =>
      cases rr
      cases rx
      have ec := hcv _ rt
      subst ec
      obtain ⟨hget, _⟩ := I.pin (a, oe) (List.mem_append.mpr (.inl List.mem_cons_self))
      obtain ⟨vs, hv⟩ := hf
      have hx : ObjOk X.prog X.w H s.heap dd (.xd fs) := I.hok dd _ hD
      obtain ⟨mA, hns, hr⟩ := hx
      obtain ⟨od, ho, hl⟩ := lookIn_ns hns
      have J : PySem.W.InstAt s.heap a oe D (some od) := ⟨hget, hz.1, by unfold PySem.W.notCls; rw [hv] <;> rfl, by rw [hz.2]; exact ho⟩
      have hcl : (PySem.W.clsIn X.K D).isSome = true := by
        have z := C.hd
        unfold PySem.W.hasDictIn at z
        cases q : PySem.W.clsIn X.K D with
        | none => rw [q] at z; cases z
        | some _ => rfl
      exact PySem.W.kia_one (PySem.W.kitx_exc (od := some od) hcl C.hg C.hk C.hs C.ha C.hn C.ht C.hm) I.kIn J e (fun z => nomatch z) fun tk => ⟨.bl b, H, I.kept (t' := tk) fun _ _ z => z, rfl, q⟩
end
end Mv
/-! Texts of data, of dicts and of instances of own classes. -/
namespace Mv
open PySem PySem.Spec PyProof.Rows L2
section
variable {X : Cx} {e : Expr} {te : TE} {pos : Pos}
/-- {e!r}, e nested data -/
def tFmtD (K : PySem.W.Frag) (te : TE) : TE := fun σ H Q => te σ H fun x H1 => ∃ (a : Addr) (d : PyData), x = .ref a ∧ Dp K H1 (.ref a) d ∧ d.showable = true ∧ d.hasDict = false ∧ d.depth ≤ 60 ∧ d.shown.length ≤ sizeLine ∧ Q (.str d.shown) H1
theorem pe_fmtD (hg : X.A.guards = some []) (hu : X.A.units + 64 < cLine) (he : PE X e te) : PE X (.FormattedValue e 114 none pos) (tFmtD X.K te) := by
  refine ⟨fun pins s σ H Q I h => ?_⟩
  refine wpAny_FormattedValue_repr (thn (he.run pins s σ H _ I h) fun v s1 hv => ?_)
  obtain ⟨x, H1, I1, r1, a, d, rfl, hd, hs, hn, hz, hl, q⟩ := hv
  obtain rfl : v = Value.ref a := r1
  obtain ⟨as, rd⟩ := Dp.reads I1 d _ _ hd rfl
  exact pyReprObj_of_reads rd hs (fun z => by rw [hn] at z; cases z) hg (by omega) (fun b o e => e) (fun h' u tk k => wpAny_formatField_str ⟨.str d.shown, H1, I1.kept (t' := tk) k, ⟨_, rfl⟩, q⟩ ⟨.str d.shown, H1, I1.kept (t' := tk + 1) k, ⟨_, rfl⟩, q⟩ hl) hl
/-- repr(o), o an instance of the class at C whose own __repr__ keeps sp -/
def rReprO (C : Addr) (sp : Sp) (E : XK) : List V → Hp → VK → Prop := fun xs H Q => ∃ (a dx : Addr) (fs : List (Str × V)), xs = [.ref a] ∧ H a = some (.ins C dx fs) ∧ sp [.ref a] H (fun v H1 => ∃ y, v = .str y ∧ Q (.str y) H1) E
theorem call_reprO {CX : CXT} {k : Nat} {f C : Addr} {fd : FuncData} {sp : Sp} {E : XK} (m : Meth X.K C "__repr__" f) (Fg : FnG X.prog X.w X.K X.mg X.base CX k f fd ["self"] sp) (hgd : X.A.guards = some []) (hr : Room (k + 1) X.A) (hb : Binds X.K fd ["self"] []) (hx : Passes CX X E) :
    CallR X (.builtin "repr") (rReprO C sp E) := by
  intro pins s σ H xs us Q I r h
  obtain ⟨a, dx, fs, rfl, ea, q⟩ := h
  cases r with
  | cons ra rt =>
    cases rt
    cases ra
    obtain ⟨mA, O, rl, _, _, _⟩ := ins_get I.hok ea
    obtain ⟨od, J, _⟩ := O.look
    refine Calls.call_function_entry F.kind_repr F.plain_repr F.entry_repr (F.args_repr1 _) ?_
    unfold Builtin.«repr»
    refine wpAny_bind (m := oneArg "repr" _) (wpAny_pure ?_)
    refine wpAny_bind (m := cRoomFor _ _) (wpAny_cRoomFor (by show X.A.units + 1 < cLine; have := hr.un; omega) ?_)
    refine wpAny_bind (m := specialOf (.ref a) (Str.ofString "__repr__")) (wpAny_bind (J.type.here ((PySem.W.looks_findIn I.kIn m.at_).here ?_)))
    refine wpAny_bind (m := callSpecialIfBound? (.ref a) (Str.ofString "__repr__")) (PySem.W.ifBound_K I.kIn J m.at_ m.fn ?_)
    have hl : ([Value.ref a] : List Value).length = (["self"] : List Str).length := rfl
    refine wpAny_call (codeAny_mono (Fg.run X.A.in1 X.stack s H ⟨[.ref a], []⟩ [.ref a] [.ref a] _ E hgd hr.in1 I.env0.in1 (hb s [.ref a] I.kIn hl) (.cons rfl .nil) q) fun r s' hq => ?_)
    cases r with
    | error er => exact hx pins σ H s er s' I hq
    | ok fl =>
      cases fl with
      | ret u =>
        obtain ⟨v, H1, J1, rv, y, ev, q2⟩ := I.after hq
        subst ev
        obtain ⟨tk, rfl⟩ := rv
        refine wpAny_bind (wpAny_isInstance (T := "str") (b := true) rfl isSubtype_str_str ?_)
        exact wpAny_pure ⟨_, rfl, V.str y, H1, J1, ⟨tk, rfl⟩, q2⟩
      | next => exact False.elim hq
      | brk => exact False.elim hq
      | cont => exact False.elim hq
/-- repr(d), d a dict with keys that are ints and texts, its values data without dicts -/
def kD : Key → PyData
  | .inl i => .int i
  | .inr x => .str x
def rReprK (K : PySem.W.Frag) : List V → Hp → VK → Prop := fun xs H Q => ∃ (a : Addr) (kvs : List (Key × V)) (ds : List PyData), xs = [.ref a] ∧ H a = some (.dK kvs) ∧ DpAll K H (kvs.map (·.2)) ds ∧ PyData.hasDictAll ds = false ∧
  (PyData.dict ((kvs.map fun p => kD p.1).zip ds)).showable = true ∧ (PyData.dict ((kvs.map fun p => kD p.1).zip ds)).depth ≤ 60 ∧ (PyData.dict ((kvs.map fun p => kD p.1).zip ds)).shown.length ≤ sizeLine ∧ Q (.str (PyData.dict ((kvs.map fun p => kD p.1).zip ds)).shown) H
theorem reads_keys {P : Program} {w : World} {h : Heap} {es : List DictEntry} {vs : List (Key × Value)} (p : Pairs (mixKind P w) es vs) : ReadsAll h (es.map (·.key)) (vs.map fun q => kD q.1) [] := by
  induction p with
  | nil => exact .nil
  | @cons e kv es kvs h1 h2 t ih =>
    have hk : Reads h e.key (kD kv.1) [] := by
      rcases keyIs_shape h1 with ⟨i, t, e1, e2⟩ | ⟨x, t, e1, e2⟩
      · rw [e1, e2]
        exact .int i t
      · rw [e1, e2]
        exact .str x t
    exact ReadsAll.cons (as := []) (bs := []) hk ih
theorem pairs_vals {P : Program} {w : World} {es : List DictEntry} {vs : List (Key × Value)} (p : Pairs (mixKind P w) es vs) : es.map (·.val) = vs.map (·.2) := by
  induction p with
  | nil => rfl
  | cons h1 h2 t ih => rw [List.map_cons, List.map_cons, h2, ih]
theorem kv_keys {kvs : List (Key × V)} {vs : List (Key × Value)} (h : KV kvs vs) : (kvs.map fun p => kD p.1) = vs.map fun q => kD q.1 := by
  unfold KV at h
  induction h with
  | nil => rfl
  | cons a b ih => rw [List.map_cons, List.map_cons, ih, a.1]
theorem kv_vals {kvs : List (Key × V)} {vs : List (Key × Value)} (h : KV kvs vs) : Vals (kvs.map (·.2)) (vs.map (·.2)) := by
  unfold KV at h
  induction h with
  | nil => exact .nil
  | cons a b ih => exact .cons a.2 ih
theorem noDict_keys : ∀ l : List (Key × V), PyData.hasDictAll (l.map fun p => kD p.1) = false
  | [] => rfl
  | ⟨.inl i, v⟩ :: l => by
    show (_ || _) = false
    rw [noDict_keys l] <;> rfl
  | ⟨.inr i, v⟩ :: l => by
    show (_ || _) = false
    rw [noDict_keys l] <;> rfl
theorem zip_fst {α β : Type} : ∀ (l : List α) (m : List β), l.length = m.length → (l.zip m).map (·.1) = l
  | [], _, _ => rfl
  | a :: l, [], h => nomatch h
  | a :: l, b :: m, h => by rw [List.zip_cons_cons, List.map_cons, zip_fst l m (Nat.succ.inj h)]
theorem zip_snd {α β : Type} : ∀ (l : List α) (m : List β), l.length = m.length → (l.zip m).map (·.2) = m
  | [], [], _ => rfl
  | [], b :: m, h => nomatch h
  | a :: l, [], h => nomatch h
  | a :: l, b :: m, h => by rw [List.zip_cons_cons, List.map_cons, zip_snd l m (Nat.succ.inj h)]
theorem dpAll_length {K : PySem.W.Frag} {H : Hp} : ∀ {vs : List V} {ds : List PyData}, DpAll K H vs ds → vs.length = ds.length
  | _, _, .nil => rfl
  | _, _, .cons _ t => congrArg (· + 1) (dpAll_length t)
theorem call_reprK (hg : X.A.guards = some []) (hu : X.A.units + 64 < cLine) : CallR X (.builtin "repr") (rReprK X.K) := by
  intro pins s σ H xs us Q I r h
  obtain ⟨a, kvs, ds, rfl, ea, hd, hnd, hs, hz, hl, q⟩ := h
  cases r with
  | cons ra rt =>
    cases rt
    cases ra
    obtain ⟨_, hsys, vs, kv, o, es, ep, ho, ex, hdat, hks, hp, hnp⟩ := (show ObjOk X.prog X.w H s.heap a (.dK kvs) from I.hok a _ ea)
    have hlen : (kvs.map fun p => kD p.1).length = ds.length := by
      rw [List.length_map]
      have z := dpAll_length hd
      rw [List.length_map] at z
      exact z
    obtain ⟨bs, hv⟩ := Dp.readsAll I ds _ _ hd (kv_vals kv)
    rw [← pairs_vals hp] at hv
    have hk := reads_keys (h := s.heap) hp
    rw [← kv_keys kv] at hk
    have hcls : o.cls = .type "dict" := ex.1
    generalize hkvs : (kvs.map fun p => kD p.1).zip ds = kvd at hs hz hl q
    have k1 : kvd.map (·.1) = kvs.map fun p => kD p.1 := by rw [← hkvs, zip_fst _ _ hlen]
    have k2 : kvd.map (·.2) = ds := by rw [← hkvs, zip_snd _ _ hlen]
    have h4 : ReadsAll s.heap (es.toList.map (·.key)) (kvd.map (·.1)) [] := by rw [k1]; exact hk
    have h5 : ReadsAll s.heap (es.toList.map (·.val)) (kvd.map (·.2)) bs := by rw [k2]; exact hv
    have n1 : PyData.hasDictAll (kvd.map (·.1)) = false := by rw [k1]; exact noDict_keys kvs
    have n2 : PyData.hasDictAll (kvd.map (·.2)) = false := by rw [k2]; exact hnd
    have hz' : (dictText (PyData.shownKv kvd)).length ≤ sizeLine := by simpa only [PyData.shown] using hl
    obtain ⟨hs1, hs2⟩ := PyData.showableKv_split kvd (by simpa [PyData.showable] using hs)
    obtain ⟨b1, hb1, c1⟩ := ReprAllK.of_readsAll (prog := X.prog) (w := X.w) h4 hs1 (fun z => by rw [n1] at z; cases z) (fun t ht => let ⟨p, hp, hl⟩ := PyData.shownKv_key_le kvd t ht; Nat.le_trans hl (Nat.le_trans (dictText_mem_le hp) hz'))
    obtain ⟨b2, hb2, c2⟩ := ReprAllK.of_readsAll (prog := X.prog) (w := X.w) h5 hs2 (fun z => by rw [n2] at z; cases z) (fun t ht => let ⟨p, hp, hl⟩ := PyData.shownKv_val_le kvd t ht; Nat.le_trans hl (Nat.le_trans (dictText_mem_le hp) hz'))
    have hb : ReadAtMost s.heap (PyData.depthKv kvd) (b1 ++ b2) := (hb1.mono (PyData.depthAll_keys_le kvd)).append (hb2.mono (PyData.depthAll_vals_le kvd))
    have hna : a ∉ b1 ++ b2 := not_mem_of_deeper (.dict ho hcls hdat h4 h5) (by simp only [PyData.depth]; omega) hb
    have hT : s.TypeIs (.ref a) "dict" := ⟨o, ho, hcls⟩
    refine call_repr_slot (by omega) hT F.slot_dict_repr (call_dict_reprK ho hcls hdat hsys hna (ReprEntriesK.of_two es.toList _ _
      (c1.more_le (fun b hb => List.mem_append_left _ hb) (PyData.depthAll_keys_le kvd)) (c2.more_le (fun b hb => List.mem_append_right _ hb) (PyData.depthAll_vals_le kvd))) hg (fun b _ => Clear.nil b) ?_ (fun b o e => e) (fun h' u tk k => ⟨_, _, rfl, V.str (PyData.dict kvd).shown, H, I.kept k, ⟨u, ?_⟩, q⟩) (by rw [← PyData.shownKv_eq]; exact hz'))
    · show X.A.units + 1 + (PyData.depthKv kvd + 1) < cLine
      simp only [PyData.depth] at hz
      omega
    · simp only [PyData.shown, PyData.shownKv_eq]
end
end Mv
/-! Exception classes as the top has written them: what follows of each. -/
namespace Mv
open PySem PySem.Spec PyProof.Rows L2
/-- a base class without an __init__ of its own -/
structure BsF (K : PySem.W.Frag) (mg : Str → Option Value) (x : Str) (S : Addr) (tail : List Value) (iI : String) : Prop where
  m : mg x = some (.ref S)
  lk : ∃ nm q N bs sn sub ab col dd k0 k1 k2 k3 k5 nI, K.lookup S = some (excClassObj nm q S N bs tail true sn sub ab col dd k0 k1 k2 k3 k5 nI)
  rd : PySem.W.readsIn K S (.type "type") = true
  ga : PySem.W.specialIn K (.ref S) "__getattribute__" = some (some (.builtin "type.__getattribute__"))
  fc : PySem.W.findCls K (.ref S) (.type "type") "__init__" = some (.val (.builtin iI))
/-- an exception class with an __init__ that keeps its arguments -/
structure ExF (K : PySem.W.Frag) (mg : Str → Option Value) (x q : Str) (st : Stmt) (C fI : Addr) (fd : FuncData) (fs : List Str) (mro : List Value) (nI : String) : Prop where
  m : mg x = some (.ref C)
  lk : ∃ nm q N bs sn sub ab col dd k0 k1 k2 k3 k5, K.lookup C = some (excClassObj nm q C N bs mro true sn sub ab col dd k0 k1 k2 k3 k5 nI)
  sa : PySem.W.findIn K (.ref C) "__setattr__" = some (some (.builtin "object.__setattr__"))
  ga : PySem.W.findIn K (.ref C) "__getattribute__" = some (some (.builtin "BaseException.__getattribute__"))
  gg : PySem.W.findIn K (.ref C) "__getattr__" = some none
  iC : PySem.W.findIn K (.ref C) "__init__" = some (some (.ref fI))
  tI : PySem.W.typeIn K (.ref fI) = some (.type "function")
  kC : PySem.W.keepIn K (.ref C) = true
  no : ∀ f ∈ fs, PySem.W.findIn K (.ref C) f = some none
  ha : PySem.W.findIn K (.ref C) "__class__" = some (some (.builtin "object.__class__"))
  fn : Fun K "__init__" q st fI fd
  bd : Binds K fd ("self" :: fs) []
  kb : KBn K fd ("self" :: fs) 1 fs.reverse (fun us ws => us ++ ws.reverse) (fun vs zs => vs ++ zs.reverse)
section
variable {K : PySem.W.Frag} {mg : Str → Option Value} {x q : Str} {st : Stmt} {C fI S : Addr} {fd : FuncData} {fs : List Str} {mro tail : List Value} {nB nI iB iI : String}
theorem cls_of {nm q : Str} {N : Addr} {bs bm : List Value} {sn : List Str} {sub : List Value} {ab : Bool} {col : Option Bool} {dd : Option Addr} {k0 k1 k2 k3 k5 : Option Value} (hC : K.lookup C = some (excClassObj nm q C N bs bm true sn sub ab col dd k0 k1 k2 k3 k5 nI)) :
    PySem.W.clsIn K C = some { name := nm, bases := bs, mro := .ref C :: bm, ns := N, qualname := q, hasDict := true, slotNames := sn, subclasses := sub, abstract := ab, collection := col, hasDel := false } := by unfold PySem.W.clsIn; rw [hC] <;> rfl
theorem sub_of {nm q : Str} {N : Addr} {bs bm : List Value} {sn : List Str} {sub : List Value} {ab : Bool} {col : Option Bool} {dd : Option Addr} {k0 k1 k2 k3 k5 : Option Value} (hC : K.lookup C = some (excClassObj nm q C N bs bm true sn sub ab col dd k0 k1 k2 k3 k5 nI)) (v : Value) :
    PySem.W.subIn K (.ref C) v = some ((Value.ref C :: bm).contains v) := by
  show PySem.W.mroIn K C v = _
  unfold PySem.W.mroIn
  rw [cls_of hC] <;> rfl
theorem typ_of {nm q : Str} {N : Addr} {bs bm : List Value} {sn : List Str} {sub : List Value} {ab : Bool} {col : Option Bool} {dd : Option Addr} {k0 k1 k2 k3 k5 : Option Value} (hC : K.lookup C = some (excClassObj nm q C N bs bm true sn sub ab col dd k0 k1 k2 k3 k5 nI)) :
    PySem.W.typeIn K (.ref C) = some (.type "type") := by
  show (K.lookup C).map (·.cls) = _
  rw [hC] <;> rfl
theorem exm_of' {nm q : Str} {N : Addr} {bs bm : List Value} {sn : List Str} {sub : List Value} {ab : Bool} {col : Option Bool} {dd : Option Addr} {k0 k1 k2 k3 k5 : Option Value} (hC : K.lookup C = some (excClassObj nm q C N bs bm true sn sub ab col dd k0 k1 k2 k3 k5 nI)) (hb : bm.contains (.type "BaseException") = true) (cls : Value) :
    PySem.W.exmOne K cls (.ref C) = PySem.W.subIn K cls (.ref C) := by
  have e1 : (PySem.W.subIn K (.ref C) (.type "BaseException") == some true) = true := by rw [sub_of hC, List.contains_cons, hb, Bool.or_true] <;> rfl
  have e2 : ((PySem.W.clsIn K C).isSome && PySem.W.typeIn K (.ref C) == some (.type "type")) = true := by rw [cls_of hC, typ_of hC] <;> rfl
  show (if (PySem.W.subIn K (.ref C) (.type "BaseException") == some true) = true then (if ((PySem.W.clsIn K C).isSome && PySem.W.typeIn K (.ref C) == some (.type "type")) = true then PySem.W.subIn K cls (.ref C) else none) else none) = _
  rw [if_pos e1, if_pos e2]
theorem ExF.sub (F : ExF K mg x q st C fI fd fs mro nI) (v : Value) : PySem.W.subIn K (.ref C) v = some ((Value.ref C :: mro).contains v) := by
  obtain ⟨_, _, _, _, _, _, _, _, _, _, _, _, _, _, hC⟩ := F.lk
  exact sub_of hC v
theorem ExF.exm (F : ExF K mg x q st C fI fd fs mro nI) (hb : mro.contains (.type "BaseException") = true) (cls : Value) : PySem.W.exmOne K cls (.ref C) = PySem.W.subIn K cls (.ref C) := by
  obtain ⟨_, _, _, _, _, _, _, _, _, _, _, _, _, _, hC⟩ := F.lk
  exact exm_of' hC hb cls
theorem BsF.exm (F : BsF K mg x S tail iI) (hb : tail.contains (.type "BaseException") = true) (cls : Value) : PySem.W.exmOne K cls (.ref S) = PySem.W.subIn K cls (.ref S) := by
  obtain ⟨_, _, _, _, _, _, _, _, _, _, _, _, _, _, _, hC⟩ := F.lk
  exact exm_of' hC hb cls
theorem ExF.oe (F : ExF K mg x q st C fI fd fs mro nI) (B : ExBs mro nB nI iB iI) (hb : mro.contains (.type "BaseException") = true) : OeX K C iB iI := by
  obtain ⟨nm, q, N, bs, sn, sub, ab, col, dd, k0, k1, k2, k3, k5, hC⟩ := F.lk
  exact ⟨⟨nm, q, N, bs, mro, sn, sub, ab, col, dd, k0, k1, k2, k3, k5, nB, nI, hC, B⟩, F.sa, by rw [sub_of hC, List.contains_cons, hb, Bool.or_true], typ_of hC, F.kC⟩
theorem ExF.xf (F : ExF K mg x q st C fI fd fs mro nI) (hb : mro.contains (.type "BaseException") = true) : XfC K C := by
  obtain ⟨nm, q, N, bs, sn, sub, ab, col, dd, k0, k1, k2, k3, k5, hC⟩ := F.lk
  exact ⟨F.ga, F.gg, by rw [sub_of hC, List.contains_cons, hb, Bool.or_true], by unfold PySem.W.hasDictIn; rw [cls_of hC] <;> rfl⟩
theorem ExF.exc (F : ExF K mg x q st C fI fd fs mro nI) (hb : mro.contains (.type "BaseException") = true) (ho : mro.contains (.type "object") = true) (hn : PySem.W.specialIn K (.builtin "object.__class__") "__get__" = some (some (.builtin "getset_descriptor.__get__"))) (ht : PySem.W.takesIn K (.builtin "object.__class__") = some true) : ExcC K C := by
  obtain ⟨nm, q, N, bs, sn, sub, ab, col, dd, k0, k1, k2, k3, k5, hC⟩ := F.lk
  exact ⟨F.ga, F.gg, by rw [sub_of hC, List.contains_cons, hb, Bool.or_true], by unfold PySem.W.hasDictIn; rw [cls_of hC] <;> rfl, F.ha, hn, ht, by
    have z := sub_of hC (.type "object")
    rw [List.contains_cons, ho, Bool.or_true] at z
    exact z⟩
theorem BsF.bi (F : BsF K mg x S tail iI) (hd : PySem.W.handedIn (.builtin iI) = true) : BaseI K mg x iI := ⟨⟨S, .type "type", F.m, ⟨F.rd, F.ga⟩, F.fc⟩, hd⟩
theorem ExF.t {P : Program} {w : World} {base : Heap} (F : ExF K mg x q st C fI fd fs mro nI) (B : ExBs mro nB nI iB iI) (hb : mro.contains (.type "BaseException") = true) (F1 : FnOk P w K mg base CX0 1 fI fd ("self" :: fs) (sp_in C fs)) : ExT P w K mg base x C fs :=
  ⟨F.m, F.xf hb, F.no, fI, fd, iB, iI, F.oe B hb, F.iC, F.tI, F1, F.bd, F.kb⟩
theorem kit_of (F : ExF K mg x q st C fI fd fs mro nI) (T : String) (hk : PySem.W.kitMeta T = true) : PySem.W.kitOne K (.ref C) (.type T) = some (mro.contains (.type T)) := by
  have e : (Value.ref C == Value.type T) = false := rfl
  show (if (Value.ref C == Value.type T) = true then some true else (if PySem.W.kitMeta T = true then PySem.W.subIn K (.ref C) (.type T) else none)) = _
  rw [e, if_neg Bool.false_ne_true, if_pos hk, F.sub, List.contains_cons] <;> rfl
end
end Mv
/-! The text by places. -/
namespace Mv
open PySem PySem.Spec PyProof.Rows L2
theorem hu65_of {A : Around} {k : Nat} (hr : Room k A) : A.units + 65 < cLine := by have := hr.un; omega
theorem callR_or {X : Cx} {f : Value} {r1 r2 : List V → Hp → VK → Prop} (h1 : CallR X f r1) (h2 : CallR X f r2) : CallR X f (fun xs H Q => r1 xs H Q ∨ r2 xs H Q) := fun pins s σ H xs us Q I r h => h.elim (h1 pins s σ H xs us Q I r) (h2 pins s σ H xs us Q I r)
theorem hb_veT {c : Addr} : (Value.ref c :: veT).contains (.type "BaseException") = true := by rw [List.contains_cons, show veT.contains (.type "BaseException") = true by decide +kernel, Bool.or_true]
theorem hb_keT {c : Addr} : (Value.ref c :: keT).contains (.type "BaseException") = true := by rw [List.contains_cons, show keT.contains (.type "BaseException") = true by decide +kernel, Bool.or_true]
theorem hb_leT {c : Addr} : (Value.ref c :: leT).contains (.type "BaseException") = true := by rw [List.contains_cons, show leT.contains (.type "BaseException") = true by decide +kernel, Bool.or_true]
theorem boot_ValueError : bootBuiltins "ValueError" = some (.type "ValueError") := by decide +kernel
theorem boot_KeyError : bootBuiltins "KeyError" = some (.type "KeyError") := by decide +kernel
theorem boot_LookupError : bootBuiltins "LookupError" = some (.type "LookupError") := by decide +kernel
def top (i : Nat) : Stmt := PySem.Challenge.pw_orderwide_k00_faults.main.body.getD i (.Pass ⟨0, 0, 0, 0⟩)
abbrev s_is_name : Stmt := top 29
abbrev s_is_list : Stmt := top 30
abbrev s_checked_columns : Stmt := top 33
abbrev s_need_column : Stmt := top 37
abbrev s_checked_pair : Stmt := top 38
abbrev s__law_cell : Stmt := top 41
abbrev s__law_box : Stmt := top 42
abbrev s__law_take : Stmt := top 43
abbrev s__law_mixed : Stmt := top 44
abbrev s__law_same : Stmt := top 45
abbrev s__law_words : Stmt := top 46
abbrev s__law_raise : Stmt := top 47
abbrev s__law_raise_more : Stmt := top 48
abbrev s__law_caught : Stmt := top 49
abbrev s__law_caught_back : Stmt := top 50
abbrev s__law_base : Stmt := top 51
abbrev s__law_values : Stmt := top 52
abbrev s_law : Stmt := top 53
abbrev s_Order_init : Stmt := inClass (top 34) 0
abbrev s_Order_repr : Stmt := inClass (top 34) 7
abbrev s_Dependencies_init : Stmt := inClass (top 39) 0
abbrev s_Dependencies_repr : Stmt := inClass (top 39) 15
abbrev s_InvalidPairs : Stmt := inClass (top 10) 0
abbrev s_InvalidPair : Stmt := inClass (top 11) 0
abbrev s_InvalidDependencies : Stmt := inClass (top 12) 0
abbrev s_InvalidWide : Stmt := inClass (top 13) 0
abbrev s_InvalidRequest : Stmt := inClass (top 14) 0
abbrev s_InvalidRequests : Stmt := inClass (top 15) 0
abbrev s_DuplicateRequest : Stmt := inClass (top 16) 0
abbrev s_InvalidKept : Stmt := inClass (top 17) 0
abbrev s_InvalidJoin : Stmt := inClass (top 18) 0
abbrev s_InvalidJoins : Stmt := inClass (top 19) 0
abbrev s_InvalidTables : Stmt := inClass (top 20) 0
abbrev s_Ring : Stmt := inClass (top 21) 0
abbrev s_UnknownPair : Stmt := inClass (top 22) 0
abbrev s_NotJoined : Stmt := inClass (top 23) 0
abbrev s_Broken : Stmt := inClass (top 24) 0
abbrev s_PairKept : Stmt := inClass (top 25) 0
abbrev N_is_name : List Str := ["value", "letter"]
theorem sc_is_name : FnScope N_is_name ["value"] (defScope s_is_name) := ⟨rfl, rfl, rfl, by decide +kernel, rfl, by decide +kernel, by decide +kernel⟩
abbrev N_is_list : List Str := ["value"]
theorem sc_is_list : FnScope N_is_list ["value"] (defScope s_is_list) := ⟨rfl, rfl, rfl, by decide +kernel, rfl, by decide +kernel, by decide +kernel⟩
abbrev N_checked_columns : List Str := ["columns", "found", "name"]
theorem sc_checked_columns : FnScope N_checked_columns ["columns"] (defScope s_checked_columns) := ⟨rfl, rfl, rfl, by decide +kernel, rfl, by decide +kernel, by decide +kernel⟩
abbrev N_need_column : List Str := ["known", "name", "earlier"]
theorem sc_need_column : FnScope N_need_column ["known", "name", "earlier"] (defScope s_need_column) := ⟨rfl, rfl, rfl, by decide +kernel, rfl, by decide +kernel, by decide +kernel⟩
abbrev N_checked_pair : List Str := ["known", "value", "left", "right", "at", "name"]
theorem sc_checked_pair : FnScope N_checked_pair ["known", "value"] (defScope s_checked_pair) := ⟨rfl, rfl, rfl, by decide +kernel, rfl, by decide +kernel, by decide +kernel⟩
abbrev N__law_cell : List Str := ["script", "k"]
theorem sc__law_cell : FnScope N__law_cell ["script", "k"] (defScope s__law_cell) := ⟨rfl, rfl, rfl, by decide +kernel, rfl, by decide +kernel, by decide +kernel⟩
abbrev N__law_box : List Str := ["great"]
theorem sc__law_box : FnScope N__law_box ["great"] (defScope s__law_box) := ⟨rfl, rfl, rfl, by decide +kernel, rfl, by decide +kernel, by decide +kernel⟩
abbrev N__law_take : List Str := ["box", "many", "digit", "mixed"]
theorem sc__law_take : FnScope N__law_take ["box", "many"] (defScope s__law_take) := ⟨rfl, rfl, rfl, by decide +kernel, rfl, by decide +kernel, by decide +kernel⟩
abbrev N__law_mixed : List Str := ["box", "items", "left", "found", "k"]
theorem sc__law_mixed : FnScope N__law_mixed ["box", "items"] (defScope s__law_mixed) := ⟨rfl, rfl, rfl, by decide +kernel, rfl, by decide +kernel, by decide +kernel⟩
abbrev N__law_same : List Str := ["given", "due", "k"]
theorem sc__law_same : FnScope N__law_same ["given", "due"] (defScope s__law_same) := ⟨rfl, rfl, rfl, by decide +kernel, rfl, by decide +kernel, by decide +kernel⟩
abbrev N__law_words : List Str := ["found"]
theorem sc__law_words : FnScope N__law_words [] (defScope s__law_words) := ⟨rfl, rfl, rfl, by decide +kernel, rfl, by decide +kernel, by decide +kernel⟩
abbrev N__law_raise : List Str := ["word", "values", "by_name"]
theorem sc__law_raise : FnScope N__law_raise ["word", "values", "by_name"] (defScope s__law_raise) := ⟨rfl, rfl, rfl, by decide +kernel, rfl, by decide +kernel, by decide +kernel⟩
abbrev N__law_raise_more : List Str := ["word", "values", "by_name"]
theorem sc__law_raise_more : FnScope N__law_raise_more ["word", "values", "by_name"] (defScope s__law_raise_more) := ⟨rfl, rfl, rfl, by decide +kernel, rfl, by decide +kernel, by decide +kernel⟩
abbrev N__law_caught : List Str := ["word", "values", "by_name", "e"]
theorem sc__law_caught : FnScope N__law_caught ["word", "values", "by_name"] (defScope s__law_caught) := ⟨rfl, rfl, rfl, by decide +kernel, rfl, by decide +kernel, by decide +kernel⟩
abbrev N__law_caught_back : List Str := ["word", "values", "by_name", "e"]
theorem sc__law_caught_back : FnScope N__law_caught_back ["word", "values", "by_name"] (defScope s__law_caught_back) := ⟨rfl, rfl, rfl, by decide +kernel, rfl, by decide +kernel, by decide +kernel⟩
abbrev N__law_base : List Str := ["word", "values", "by_name", "e"]
theorem sc__law_base : FnScope N__law_base ["word", "values", "by_name"] (defScope s__law_base) := ⟨rfl, rfl, rfl, by decide +kernel, rfl, by decide +kernel, by decide +kernel⟩
abbrev N__law_values : List Str := ["box"]
theorem sc__law_values : FnScope N__law_values ["box"] (defScope s__law_values) := ⟨rfl, rfl, rfl, by decide +kernel, rfl, by decide +kernel, by decide +kernel⟩
abbrev N_law : List Str := ["script", "k", "box", "word", "base", "count", "values", "by_name", "told", "at", "one"]
theorem sc_law : FnScope N_law ["script"] (defScope s_law) := ⟨rfl, rfl, rfl, by decide +kernel, rfl, by decide +kernel, by decide +kernel⟩
abbrev N_Order_init : List Str := ["self", "columns"]
theorem sc_Order_init : FnScope N_Order_init ["self", "columns"] (defScope s_Order_init) := ⟨rfl, rfl, rfl, by decide +kernel, rfl, by decide +kernel, by decide +kernel⟩
abbrev N_Order_repr : List Str := ["self"]
theorem sc_Order_repr : FnScope N_Order_repr ["self"] (defScope s_Order_repr) := ⟨rfl, rfl, rfl, by decide +kernel, rfl, by decide +kernel, by decide +kernel⟩
abbrev N_Dependencies_init : List Str := ["self", "columns", "pairs", "found", "value", "pair"]
theorem sc_Dependencies_init : FnScope N_Dependencies_init ["self", "columns", "pairs"] (defScope s_Dependencies_init) := ⟨rfl, rfl, rfl, by decide +kernel, rfl, by decide +kernel, by decide +kernel⟩
abbrev N_Dependencies_repr : List Str := ["self"]
theorem sc_Dependencies_repr : FnScope N_Dependencies_repr ["self"] (defScope s_Dependencies_repr) := ⟨rfl, rfl, rfl, by decide +kernel, rfl, by decide +kernel, by decide +kernel⟩
/-- a def of the text as it lies -/
structure FD (K : PySem.W.Frag) (mg : Str → Option Value) (x : Str) (st : Stmt) (f : Addr) (fd : FuncData) (ps : List Str) : Prop where
  fn : Fun K x x st f fd
  m : mg x = some (.ref f)
  kp : PySem.W.keepIn K (.ref f) = true
  b : Binds K fd ps []
/-- a method, its defaults at dV -/
structure MD (K : PySem.W.Frag) (x q : Str) (st : Stmt) (f : Addr) (fd : FuncData) (ps : List Str) : Prop where
  fn : ∃ (oc : Value) (od : Option Addr) (dV kV doc pm : Value) (an : Option Addr) (cdv ct : Value) (osl : Array (Option Value)), fd = PySem.W.fnOf x q (defArgs st) (defBody st) (defScope st) dV kV doc pm an cdv ct ∧ K.lookup f = some ⟨oc, od, .func fd, osl⟩ ∧ PySem.W.codeIn K cdv q = true
  b : Binds K fd ps []
structure All (K : PySem.W.Frag) (mg : Str → Option Value) (a : Nat → Addr) (d : Nat → FuncData) (tk : Nat → Tok) (c ci : Nat → Addr) (di : Nat → FuncData) : Prop where
  n_bool : mg "bool" = none
  n_int : mg "int" = none
  n_str : mg "str" = none
  n_list : mg "list" = none
  n_tuple : mg "tuple" = none
  n_len : mg "len" = none
  n_isinstance : mg "isinstance" = none
  n_all : mg "all" = none
  n_sorted : mg "sorted" = none
  n_enumerate : mg "enumerate" = none
  n_max : mg "max" = none
  n_min : mg "min" = none
  n_range : mg "range" = none
  n_sum : mg "sum" = none
  n_repr : mg "repr" = none
  n_abs : mg "abs" = none
  n_ValueError : mg "ValueError" = none
  n_KeyError : mg "KeyError" = none
  n_LookupError : mg "LookupError" = none
  c_LETTERS : mg "LETTERS" = some (.str "abcdefghijklmnopqrstuvwxyz" (tk 0))
  c_LONGEST_NAME : mg "LONGEST_NAME" = some (.int 8 (tk 1))
  c_MOST_COLUMNS : mg "MOST_COLUMNS" = some (.int 5 (tk 2))
  c_MOST_PAIRS : mg "MOST_PAIRS" = some (.int 10 (tk 3))
  F_is_name : FD K mg "is_name" s_is_name (a 0) (d 0) ["value"]
  F_is_list : FD K mg "is_list" s_is_list (a 1) (d 1) ["value"]
  F_checked_columns : FD K mg "checked_columns" s_checked_columns (a 2) (d 2) ["columns"]
  F_need_column : FD K mg "need_column" s_need_column (a 3) (d 3) ["known", "name", "earlier"]
  F_checked_pair : FD K mg "checked_pair" s_checked_pair (a 4) (d 4) ["known", "value"]
  F__law_cell : FD K mg "_law_cell" s__law_cell (a 5) (d 5) ["script", "k"]
  F__law_box : FD K mg "_law_box" s__law_box (a 6) (d 6) ["great"]
  F__law_take : FD K mg "_law_take" s__law_take (a 7) (d 7) ["box", "many"]
  F__law_mixed : FD K mg "_law_mixed" s__law_mixed (a 8) (d 8) ["box", "items"]
  F__law_same : FD K mg "_law_same" s__law_same (a 9) (d 9) ["given", "due"]
  F__law_words : FD K mg "_law_words" s__law_words (a 10) (d 10) []
  F__law_raise : FD K mg "_law_raise" s__law_raise (a 11) (d 11) ["word", "values", "by_name"]
  F__law_raise_more : FD K mg "_law_raise_more" s__law_raise_more (a 12) (d 12) ["word", "values", "by_name"]
  F__law_caught : FD K mg "_law_caught" s__law_caught (a 13) (d 13) ["word", "values", "by_name"]
  F__law_caught_back : FD K mg "_law_caught_back" s__law_caught_back (a 14) (d 14) ["word", "values", "by_name"]
  F__law_base : FD K mg "_law_base" s__law_base (a 15) (d 15) ["word", "values", "by_name"]
  F__law_values : FD K mg "_law_values" s__law_values (a 16) (d 16) ["box"]
  F_law : FD K mg "law" s_law (a 17) (d 17) ["script"]
  F_Order_init : MD K "__init__" "Order.__init__" s_Order_init (a 18) (d 18) ["self", "columns"]
  F_Order_repr : MD K "__repr__" "Order.__repr__" s_Order_repr (a 19) (d 19) ["self"]
  F_Dependencies_init : MD K "__init__" "Dependencies.__init__" s_Dependencies_init (a 20) (d 20) ["self", "columns", "pairs"]
  F_Dependencies_repr : MD K "__repr__" "Dependencies.__repr__" s_Dependencies_repr (a 21) (d 21) ["self"]
  B_SearchError : BsF K mg "SearchError" (c 16) veT "ValueError.__init__"
  B_MissingError : BsF K mg "MissingError" (c 17) keT "KeyError.__init__"
  B_StateError : BsF K mg "StateError" (c 18) leT "LookupError.__init__"
  X_InvalidPairs : ExF K mg "InvalidPairs" "InvalidPairs.__init__" s_InvalidPairs (c 0) (ci 0) (di 0) ["value"] (.ref (c 16) :: veT) "ValueError.__new__"
  X_InvalidPair : ExF K mg "InvalidPair" "InvalidPair.__init__" s_InvalidPair (c 1) (ci 1) (di 1) ["value"] (.ref (c 16) :: veT) "ValueError.__new__"
  X_InvalidDependencies : ExF K mg "InvalidDependencies" "InvalidDependencies.__init__" s_InvalidDependencies (c 2) (ci 2) (di 2) ["value"] (.ref (c 16) :: veT) "ValueError.__new__"
  X_InvalidWide : ExF K mg "InvalidWide" "InvalidWide.__init__" s_InvalidWide (c 3) (ci 3) (di 3) ["value"] (.ref (c 16) :: veT) "ValueError.__new__"
  X_InvalidRequest : ExF K mg "InvalidRequest" "InvalidRequest.__init__" s_InvalidRequest (c 4) (ci 4) (di 4) ["value"] (.ref (c 16) :: veT) "ValueError.__new__"
  X_InvalidRequests : ExF K mg "InvalidRequests" "InvalidRequests.__init__" s_InvalidRequests (c 5) (ci 5) (di 5) ["value"] (.ref (c 16) :: veT) "ValueError.__new__"
  X_DuplicateRequest : ExF K mg "DuplicateRequest" "DuplicateRequest.__init__" s_DuplicateRequest (c 6) (ci 6) (di 6) ["request"] (.ref (c 16) :: veT) "ValueError.__new__"
  X_InvalidKept : ExF K mg "InvalidKept" "InvalidKept.__init__" s_InvalidKept (c 7) (ci 7) (di 7) ["value"] (.ref (c 16) :: veT) "ValueError.__new__"
  X_InvalidJoin : ExF K mg "InvalidJoin" "InvalidJoin.__init__" s_InvalidJoin (c 8) (ci 8) (di 8) ["value"] (.ref (c 16) :: veT) "ValueError.__new__"
  X_InvalidJoins : ExF K mg "InvalidJoins" "InvalidJoins.__init__" s_InvalidJoins (c 9) (ci 9) (di 9) ["value"] (.ref (c 16) :: veT) "ValueError.__new__"
  X_InvalidTables : ExF K mg "InvalidTables" "InvalidTables.__init__" s_InvalidTables (c 10) (ci 10) (di 10) ["value"] (.ref (c 16) :: veT) "ValueError.__new__"
  X_Ring : ExF K mg "Ring" "Ring.__init__" s_Ring (c 11) (ci 11) (di 11) ["index"] (.ref (c 16) :: veT) "ValueError.__new__"
  X_UnknownPair : ExF K mg "UnknownPair" "UnknownPair.__init__" s_UnknownPair (c 12) (ci 12) (di 12) ["pair"] (.ref (c 17) :: keT) "LookupError.__new__"
  X_NotJoined : ExF K mg "NotJoined" "NotJoined.__init__" s_NotJoined (c 13) (ci 13) (di 13) ["one", "other"] (.ref (c 17) :: keT) "LookupError.__new__"
  X_Broken : ExF K mg "Broken" "Broken.__init__" s_Broken (c 14) (ci 14) (di 14) ["pair", "one", "other"] (.ref (c 18) :: leT) "LookupError.__new__"
  X_PairKept : ExF K mg "PairKept" "PairKept.__init__" s_PairKept (c 15) (ci 15) (di 15) ["pair"] (.ref (c 18) :: leT) "LookupError.__new__"
  inj : ∀ i j, i < 19 → j < 19 → c i = c j → i = j
  hn : PySem.W.specialIn K (.builtin "object.__class__") "__get__" = some (some (.builtin "getset_descriptor.__get__"))
  ht : PySem.W.takesIn K (.builtin "object.__class__") = some true
  m_Order : mg "Order" = some (.ref (c 19))
  C_Order : Cls K (c 19)
  M_Order : Mk K (c 19) (a 18)
  R_Order : Meth K (c 19) "__repr__" (a 19)
  A_Order_own_columns : NoAttr K (c 19) "own_columns"
  H_Order : PySem.W.findIn K (.ref (c 19)) "__class__" = some (some (.builtin "object.__class__"))
  O_Order : PySem.W.mroIn K (c 19) (.type "object") = some true
  S_Order_bool : PySem.W.subIn K (.ref (c 19)) (.type "bool") = some false
  S_Order_int : PySem.W.subIn K (.ref (c 19)) (.type "int") = some false
  S_Order_str : PySem.W.subIn K (.ref (c 19)) (.type "str") = some false
  S_Order_list : PySem.W.subIn K (.ref (c 19)) (.type "list") = some false
  S_Order_tuple : PySem.W.subIn K (.ref (c 19)) (.type "tuple") = some false
  m_Dependencies : mg "Dependencies" = some (.ref (c 20))
  C_Dependencies : Cls K (c 20)
  M_Dependencies : Mk K (c 20) (a 20)
  R_Dependencies : Meth K (c 20) "__repr__" (a 21)
  A_Dependencies_own_columns : NoAttr K (c 20) "own_columns"
  A_Dependencies_own_pairs : NoAttr K (c 20) "own_pairs"
  H_Dependencies : PySem.W.findIn K (.ref (c 20)) "__class__" = some (some (.builtin "object.__class__"))
  O_Dependencies : PySem.W.mroIn K (c 20) (.type "object") = some true
  S_Dependencies_bool : PySem.W.subIn K (.ref (c 20)) (.type "bool") = some false
  S_Dependencies_int : PySem.W.subIn K (.ref (c 20)) (.type "int") = some false
  S_Dependencies_str : PySem.W.subIn K (.ref (c 20)) (.type "str") = some false
  S_Dependencies_list : PySem.W.subIn K (.ref (c 20)) (.type "list") = some false
  S_Dependencies_tuple : PySem.W.subIn K (.ref (c 20)) (.type "tuple") = some false
theorem MD.ok {P : Program} {w : World} {K : PySem.W.Frag} {mg : Str → Option Value} {base : Heap} {x q : Str} {st : Stmt} {f : Addr} {fd : FuncData} {N ps : List Str} {k : Nat} {sp : Sp} (F : MD K x q st f fd ps) (S : FnScope N ps (defScope st)) (len : ∀ vs H Q E, sp vs H Q E → vs.length = ps.length)
    (hbody : ∀ (cdv : Value) (A : Around) (outer : List Env) (s : Shared) (H : Hp) (vs : List V) (Q : VK) (E : XK), Room k (A.deeper (envOfC q (defScope st) s.heap.objs.size f cdv)) → sp vs H Q E →
      ∃ t, PSs (cxOf CX0 P w K mg base N q (defScope st) f cdv A outer s H E).nox (defBody st) t ∧ t { nx := fun _ H' => Q .non H', rt := Q } (start N vs) H) : FnOk P w K mg base CX0 (k + 1) f fd ps sp := by
  obtain ⟨oc, od, dV, kV, doc, pm, an, cdv, ct, osl, rfl, lk, hcd⟩ := F.fn
  refine fn_of lk hcd S len fun A outer s H vs Q E hr hsp => ?_
  obtain ⟨t, ht, hq⟩ := hbody cdv A outer s H vs Q E hr hsp
  exact ⟨t, ht.nox, hq⟩
theorem MD.okG {P : Program} {w : World} {K : PySem.W.Frag} {mg : Str → Option Value} {base : Heap} {x q : Str} {st : Stmt} {f : Addr} {fd : FuncData} {N ps : List Str} {k : Nat} {sp : Sp} (F : MD K x q st f fd ps) (S : FnScope N ps (defScope st)) (len : ∀ vs H Q E, sp vs H Q E → vs.length = ps.length)
    (hbody : ∀ (cdv : Value) (A : Around) (outer : List Env) (s : Shared) (H : Hp) (vs : List V) (Q : VK) (E : XK), (A.deeper (envOfC q (defScope st) s.heap.objs.size f cdv)).guards = some [] → Room k (A.deeper (envOfC q (defScope st) s.heap.objs.size f cdv)) → sp vs H Q E →
      ∃ t, PSs (cxOf CX0 P w K mg base N q (defScope st) f cdv A outer s H E).nox (defBody st) t ∧ t { nx := fun _ H' => Q .non H', rt := Q } (start N vs) H) : FnG P w K mg base CX0 (k + 1) f fd ps sp := by
  obtain ⟨oc, od, dV, kV, doc, pm, an, cdv, ct, osl, rfl, lk, hcd⟩ := F.fn
  refine fn_ofG lk hcd S len fun A outer s H vs Q E hgd hr hsp => ?_
  obtain ⟨t, ht, hq⟩ := hbody cdv A outer s H vs Q E hgd hr hsp
  exact ⟨t, ht.nox, hq⟩
section
variable {P : Program} {w : World} {K : PySem.W.Frag} {mg : Str → Option Value} {base : Heap} {a : Nat → Addr} {d : Nat → FuncData} {tk : Nat → Tok} {c ci : Nat → Addr} {di : Nat → FuncData}
theorem bi_SearchError (T : All K mg a d tk c ci di) : BaseI K mg "SearchError" "ValueError.__init__" := T.B_SearchError.bi (by decide +kernel)
theorem bi_MissingError (T : All K mg a d tk c ci di) : BaseI K mg "MissingError" "KeyError.__init__" := T.B_MissingError.bi (by decide +kernel)
theorem bi_StateError (T : All K mg a d tk c ci di) : BaseI K mg "StateError" "LookupError.__init__" := T.B_StateError.bi (by decide +kernel)
theorem exT_InvalidPairs (T : All K mg a d tk c ci di) : ExT P w K mg base "InvalidPairs" (c 0) ["value"] :=
  T.X_InvalidPairs.t (exB_ve.ref) hb_veT (ok_in1 T.X_InvalidPairs.fn (bi_SearchError T) (T.X_InvalidPairs.oe (exB_ve.ref) hb_veT) (T.X_InvalidPairs.no "value" (by decide)) ⟨rfl, rfl, rfl, by decide +kernel, rfl, by decide +kernel, by decide +kernel⟩ rfl (by decide) (Or.inl rfl) (Or.inl rfl) (by decide) (by decide) _ (fun _ _ _ => rfl) rfl)
theorem exT_InvalidPair (T : All K mg a d tk c ci di) : ExT P w K mg base "InvalidPair" (c 1) ["value"] :=
  T.X_InvalidPair.t (exB_ve.ref) hb_veT (ok_in1 T.X_InvalidPair.fn (bi_SearchError T) (T.X_InvalidPair.oe (exB_ve.ref) hb_veT) (T.X_InvalidPair.no "value" (by decide)) ⟨rfl, rfl, rfl, by decide +kernel, rfl, by decide +kernel, by decide +kernel⟩ rfl (by decide) (Or.inl rfl) (Or.inl rfl) (by decide) (by decide) _ (fun _ _ _ => rfl) rfl)
theorem exT_InvalidDependencies (T : All K mg a d tk c ci di) : ExT P w K mg base "InvalidDependencies" (c 2) ["value"] :=
  T.X_InvalidDependencies.t (exB_ve.ref) hb_veT (ok_in1 T.X_InvalidDependencies.fn (bi_SearchError T) (T.X_InvalidDependencies.oe (exB_ve.ref) hb_veT) (T.X_InvalidDependencies.no "value" (by decide)) ⟨rfl, rfl, rfl, by decide +kernel, rfl, by decide +kernel, by decide +kernel⟩ rfl (by decide) (Or.inl rfl) (Or.inl rfl) (by decide) (by decide) _ (fun _ _ _ => rfl) rfl)
theorem exT_InvalidWide (T : All K mg a d tk c ci di) : ExT P w K mg base "InvalidWide" (c 3) ["value"] :=
  T.X_InvalidWide.t (exB_ve.ref) hb_veT (ok_in1 T.X_InvalidWide.fn (bi_SearchError T) (T.X_InvalidWide.oe (exB_ve.ref) hb_veT) (T.X_InvalidWide.no "value" (by decide)) ⟨rfl, rfl, rfl, by decide +kernel, rfl, by decide +kernel, by decide +kernel⟩ rfl (by decide) (Or.inl rfl) (Or.inl rfl) (by decide) (by decide) _ (fun _ _ _ => rfl) rfl)
theorem exT_InvalidRequest (T : All K mg a d tk c ci di) : ExT P w K mg base "InvalidRequest" (c 4) ["value"] :=
  T.X_InvalidRequest.t (exB_ve.ref) hb_veT (ok_in1 T.X_InvalidRequest.fn (bi_SearchError T) (T.X_InvalidRequest.oe (exB_ve.ref) hb_veT) (T.X_InvalidRequest.no "value" (by decide)) ⟨rfl, rfl, rfl, by decide +kernel, rfl, by decide +kernel, by decide +kernel⟩ rfl (by decide) (Or.inl rfl) (Or.inl rfl) (by decide) (by decide) _ (fun _ _ _ => rfl) rfl)
theorem exT_InvalidRequests (T : All K mg a d tk c ci di) : ExT P w K mg base "InvalidRequests" (c 5) ["value"] :=
  T.X_InvalidRequests.t (exB_ve.ref) hb_veT (ok_in1 T.X_InvalidRequests.fn (bi_SearchError T) (T.X_InvalidRequests.oe (exB_ve.ref) hb_veT) (T.X_InvalidRequests.no "value" (by decide)) ⟨rfl, rfl, rfl, by decide +kernel, rfl, by decide +kernel, by decide +kernel⟩ rfl (by decide) (Or.inl rfl) (Or.inl rfl) (by decide) (by decide) _ (fun _ _ _ => rfl) rfl)
theorem exT_DuplicateRequest (T : All K mg a d tk c ci di) : ExT P w K mg base "DuplicateRequest" (c 6) ["request"] :=
  T.X_DuplicateRequest.t (exB_ve.ref) hb_veT (ok_in1 T.X_DuplicateRequest.fn (bi_SearchError T) (T.X_DuplicateRequest.oe (exB_ve.ref) hb_veT) (T.X_DuplicateRequest.no "request" (by decide)) ⟨rfl, rfl, rfl, by decide +kernel, rfl, by decide +kernel, by decide +kernel⟩ rfl (by decide) (Or.inl rfl) (Or.inl rfl) (by decide) (by decide) _ (fun _ _ _ => rfl) rfl)
theorem exT_InvalidKept (T : All K mg a d tk c ci di) : ExT P w K mg base "InvalidKept" (c 7) ["value"] :=
  T.X_InvalidKept.t (exB_ve.ref) hb_veT (ok_in1 T.X_InvalidKept.fn (bi_SearchError T) (T.X_InvalidKept.oe (exB_ve.ref) hb_veT) (T.X_InvalidKept.no "value" (by decide)) ⟨rfl, rfl, rfl, by decide +kernel, rfl, by decide +kernel, by decide +kernel⟩ rfl (by decide) (Or.inl rfl) (Or.inl rfl) (by decide) (by decide) _ (fun _ _ _ => rfl) rfl)
theorem exT_InvalidJoin (T : All K mg a d tk c ci di) : ExT P w K mg base "InvalidJoin" (c 8) ["value"] :=
  T.X_InvalidJoin.t (exB_ve.ref) hb_veT (ok_in1 T.X_InvalidJoin.fn (bi_SearchError T) (T.X_InvalidJoin.oe (exB_ve.ref) hb_veT) (T.X_InvalidJoin.no "value" (by decide)) ⟨rfl, rfl, rfl, by decide +kernel, rfl, by decide +kernel, by decide +kernel⟩ rfl (by decide) (Or.inl rfl) (Or.inl rfl) (by decide) (by decide) _ (fun _ _ _ => rfl) rfl)
theorem exT_InvalidJoins (T : All K mg a d tk c ci di) : ExT P w K mg base "InvalidJoins" (c 9) ["value"] :=
  T.X_InvalidJoins.t (exB_ve.ref) hb_veT (ok_in1 T.X_InvalidJoins.fn (bi_SearchError T) (T.X_InvalidJoins.oe (exB_ve.ref) hb_veT) (T.X_InvalidJoins.no "value" (by decide)) ⟨rfl, rfl, rfl, by decide +kernel, rfl, by decide +kernel, by decide +kernel⟩ rfl (by decide) (Or.inl rfl) (Or.inl rfl) (by decide) (by decide) _ (fun _ _ _ => rfl) rfl)
theorem exT_InvalidTables (T : All K mg a d tk c ci di) : ExT P w K mg base "InvalidTables" (c 10) ["value"] :=
  T.X_InvalidTables.t (exB_ve.ref) hb_veT (ok_in1 T.X_InvalidTables.fn (bi_SearchError T) (T.X_InvalidTables.oe (exB_ve.ref) hb_veT) (T.X_InvalidTables.no "value" (by decide)) ⟨rfl, rfl, rfl, by decide +kernel, rfl, by decide +kernel, by decide +kernel⟩ rfl (by decide) (Or.inl rfl) (Or.inl rfl) (by decide) (by decide) _ (fun _ _ _ => rfl) rfl)
theorem exT_Ring (T : All K mg a d tk c ci di) : ExT P w K mg base "Ring" (c 11) ["index"] :=
  T.X_Ring.t (exB_ve.ref) hb_veT (ok_in1 T.X_Ring.fn (bi_SearchError T) (T.X_Ring.oe (exB_ve.ref) hb_veT) (T.X_Ring.no "index" (by decide)) ⟨rfl, rfl, rfl, by decide +kernel, rfl, by decide +kernel, by decide +kernel⟩ rfl (by decide) (Or.inl rfl) (Or.inl rfl) (by decide) (by decide) _ (fun _ _ _ => rfl) rfl)
theorem exT_UnknownPair (T : All K mg a d tk c ci di) : ExT P w K mg base "UnknownPair" (c 12) ["pair"] :=
  T.X_UnknownPair.t (exB_ke.ref) hb_keT (ok_in1 T.X_UnknownPair.fn (bi_MissingError T) (T.X_UnknownPair.oe (exB_ke.ref) hb_keT) (T.X_UnknownPair.no "pair" (by decide)) ⟨rfl, rfl, rfl, by decide +kernel, rfl, by decide +kernel, by decide +kernel⟩ rfl (by decide) (Or.inl rfl) (Or.inl rfl) (by decide) (by decide) _ (fun _ _ _ => rfl) rfl)
theorem exT_NotJoined (T : All K mg a d tk c ci di) : ExT P w K mg base "NotJoined" (c 13) ["one", "other"] :=
  T.X_NotJoined.t (exB_ke.ref) hb_keT (ok_in2 T.X_NotJoined.fn (bi_MissingError T) (T.X_NotJoined.oe (exB_ke.ref) hb_keT) (T.X_NotJoined.no "one" (by decide)) (T.X_NotJoined.no "other" (by decide)) ⟨rfl, rfl, rfl, by decide +kernel, rfl, by decide +kernel, by decide +kernel⟩ rfl (by decide) (Or.inl rfl) (Or.inl rfl) (by decide) (by decide) (Or.inl rfl) (by decide) (by decide) _ (fun _ _ _ => rfl) rfl)
theorem exT_Broken (T : All K mg a d tk c ci di) : ExT P w K mg base "Broken" (c 14) ["pair", "one", "other"] :=
  T.X_Broken.t (exB_le.ref) hb_leT (ok_in3 T.X_Broken.fn (bi_StateError T) (T.X_Broken.oe (exB_le.ref) hb_leT) (T.X_Broken.no "pair" (by decide)) (T.X_Broken.no "one" (by decide)) (T.X_Broken.no "other" (by decide)) ⟨rfl, rfl, rfl, by decide +kernel, rfl, by decide +kernel, by decide +kernel⟩ rfl (by decide) (Or.inl rfl) (Or.inl rfl) (by decide) (by decide) (Or.inl rfl) (by decide) (by decide) (Or.inl rfl) (by decide) (by decide) _ (fun _ _ _ => rfl) rfl)
theorem exT_PairKept (T : All K mg a d tk c ci di) : ExT P w K mg base "PairKept" (c 15) ["pair"] :=
  T.X_PairKept.t (exB_le.ref) hb_leT (ok_in1 T.X_PairKept.fn (bi_StateError T) (T.X_PairKept.oe (exB_le.ref) hb_leT) (T.X_PairKept.no "pair" (by decide)) ⟨rfl, rfl, rfl, by decide +kernel, rfl, by decide +kernel, by decide +kernel⟩ rfl (by decide) (Or.inl rfl) (Or.inl rfl) (by decide) (by decide) _ (fun _ _ _ => rfl) rfl)
end
end Mv
/-! What the readings give, the heap growing. -/
namespace Mv
open PySem PySem.Spec PyProof.Rows L2 Evl
/-- a list or a tuple -/
def Seq (H : Hp) (a : Addr) (xs : List V) : Prop := H a = some (.lst xs) ∨ H a = some (.tup xs)
theorem Seq.ex {H H' : Hp} {a : Addr} {xs : List V} (h : Seq H a xs) (e : Ex H H') : Seq H' a xs := h.elim (fun z => .inl (e _ _ z)) fun z => .inr (e _ _ z)
theorem Seq.sq {K : PySem.W.Frag} {H : Hp} {a : Addr} {xs : List V} (h : Seq H a xs) : SqL K H a xs ∨ SqT K H a xs := h.elim (fun z => .inl (sq_of z)) fun z => .inr (st_of z)
def EvF (te : TE) (σ : L2.St) (H : Hp) (P : Addr → Hp → Prop) : Prop := ∀ H1, Ex H H1 → ∀ Q : VK, (∀ p H2, H1 p = none → Ex H1 H2 → P p H2 → Q (.ref p) H2) → te σ H1 Q
def EvP (te : TE) (σ : L2.St) (H : Hp) (P : V → Hp → Prop) : Prop := ∀ H1, Ex H H1 → ∀ Q : VK, (∀ v H2, Ex H1 H2 → P v H2 → Q v H2) → te σ H1 Q
section
variable {K : PySem.W.Frag} {σ : L2.St} {H H' : Hp} {ta tb tc te tl tx : TE} {t u : TT} {x y z v : V} {r : R2}
theorem EvF.mono {P : Addr → Hp → Prop} (e : Ex H H') (h : EvF te σ H P) : EvF te σ H' P := fun H1 a Q q => h H1 (e.trans a) Q q
theorem EvP.mono {P : V → Hp → Prop} (e : Ex H H') (h : EvP te σ H P) : EvP te σ H' P := fun H1 a Q q => h H1 (e.trans a) Q q
theorem Ev.p (h : Ev te σ H v) : EvP te σ H (fun w _ => w = v) := fun H1 e Q q => h H1 e Q fun H2 e2 => q v H2 e2 rfl
theorem EvL.f {xs : List V} (h : EvL te σ H xs) : EvF te σ H (fun p H2 => H2 p = some (.lst xs)) := fun H1 e Q q => h H1 e Q q
theorem EvF.p {P : Addr → Hp → Prop} (h : EvF te σ H P) : EvP te σ H (fun w H2 => ∃ p, w = .ref p ∧ P p H2) := fun H1 e Q q => h H1 e Q fun p H2 _ e2 hp => q _ H2 e2 ⟨p, rfl, hp⟩
theorem et_yes : EvT tYes σ H true := fun H1 _ _ q => q H1 (Ex.refl H1)
/-! isinstance -/
theorem rc_isi {n : String} {ty : Value} {b : Bool} (hx : ∀ H1, Ex H H1 → TyX K H1 x ty) (hk : PySem.W.kitOne K ty (.type n) = some b) : RC (rIsi K) [x, .ty n] H (.bl b) :=
  fun H1 e _ q => ⟨x, .ty n, ty, .type n, b, rfl, .ty n, hx H1 e, hk, q H1 (Ex.refl H1)⟩
theorem ev_isi {n : String} {ty : Value} {b : Bool} (h : Ev ta σ H x) (hx : ∀ H1, Ex H H1 → TyX K H1 x ty) (hk : PySem.W.kitOne K ty (.type n) = some b) : Ev (tCB (rIsi K) (tCons ta (tCons (tC (.ty n)) tNil))) σ H (.bl b) :=
  ev_cb (ea_cons h (ea_cons ev_c ea_nil)) (rc_isi hx hk)
theorem ev_isiT {n m : String} {ty : Value} {b : Bool} (h : Ev ta σ H x) (hx : ∀ H1, Ex H H1 → TyX K H1 x ty) (hk : PySem.W.kitAny K ty [.type n, .type m] = some b) : Ev (tCB (rIsiT K) (tCons ta (tCons (tTup (tCons (tC (.ty n)) (tCons (tC (.ty m)) tNil))) tNil))) σ H (.bl b) :=
  fun H1 e Q q => h H1 e _ fun H2 e2 => ⟨sz_of (show 2 ≤ 100000 by decide), fun p hp => ⟨x, p, [.ty n, .ty m], ty, [.type n, .type m], b, rfl, upd_same, .cons (.ty n) (.cons (.ty m) .nil), hx _ ((e.trans e2).trans (Ex.new hp)), hk, q _ (e2.trans (Ex.new hp))⟩⟩
theorem ty_int {i : Int} : ∀ H1, Ex H H1 → TyX K H1 (.int i) (.type "int") := fun _ _ => .base (.int i)
theorem ty_lst {a : Addr} {xs : List V} (h : H a = some (.lst xs)) : ∀ H1, Ex H H1 → TyX K H1 (.ref a) (.type "list") := fun _ e => .base (.lst (e _ _ h))
theorem ty_tup {a : Addr} {xs : List V} (h : H a = some (.tup xs)) : ∀ H1, Ex H H1 → TyX K H1 (.ref a) (.type "tuple") := fun _ e => .base (.tup (e _ _ h))
/-! chains -/
theorem ev_chain {g g' : Int → Int → Bool} {i j k : Int} (ha : Ev ta σ H (.int i)) (hb : Ev tb σ H (.int j)) (hc : Ev tc σ H (.int k)) : Ev (tChain (rI0 fun i j => .bl (g i j)) (rI0 fun i j => .bl (g' i j)) ta tb tc) σ H (.bl (g i j && g' j k)) :=
  fun H1 e Q q => ha H1 e _ fun H2 e2 => hb H2 (e.trans e2) _ fun H3 e3 => ⟨i, j, rfl, rfl, g i j, rfl, by
    cases hg : g i j with
    | false =>
      rw [hg] at q
      exact q H3 (e2.trans e3)
    | true =>
      rw [hg] at q
      show tc σ H3 _
      exact hc H3 ((e.trans e2).trans e3) _ fun H4 e4 => ⟨j, k, rfl, rfl, q H4 ((e2.trans e3).trans e4)⟩⟩
theorem et_chain {g g' : Int → Int → Bool} {i j k : Int} (ha : Ev ta σ H (.int i)) (hb : Ev tb σ H (.int j)) (hc : Ev tc σ H (.int k)) : EvT (tTest (tChain (rI0 fun i j => .bl (g i j)) (rI0 fun i j => .bl (g' i j)) ta tb tc)) σ H (g i j && g' j k) := et_test (ev_chain ha hb hc)
theorem et_I0 {g : Int → Int → Bool} {i j : Int} (ha : Ev ta σ H (.int i)) (hb : Ev tb σ H (.int j)) : EvT (tTest (tOp (rI0 fun i j => .bl (g i j)) ta tb)) σ H (g i j) := et_test (ev_op ha hb rv_I0)
theorem ev_I0 {g : Int → Int → V} {i j : Int} (ha : Ev ta σ H (.int i)) (hb : Ev tb σ H (.int j)) : Ev (tOp (rI0 g) ta tb) σ H (g i j) := ev_op ha hb rv_I0
theorem ev_I {C : Int → Int → Prop} {g : Int → Int → V} {i j : Int} (ha : Ev ta σ H (.int i)) (hb : Ev tb σ H (.int j)) (hc : C i j) : Ev (tOp (rI C g) ta tb) σ H (g i j) := ev_op ha hb (rv_I hc)
/-! lengths -/
theorem ev_lenS {p : Addr} {xs : List V} (ha : Ev ta σ H (.ref p)) (h : Seq H p xs) : Ev (tCB (rLenS K) (tCons ta tNil)) σ H (.int (xs.length : Int)) := fun H1 e Q q =>
  ha H1 e _ fun H2 e2 => ⟨p, xs, rfl, (h.ex (e.trans e2)).sq, q H2 e2⟩
/-! all -/
theorem ev_allN {bs : List Bool} (h : EvL te σ H (bs.map V.bl)) : Ev (tCB (rAll K) (tCons te tNil)) σ H (.bl (bs.all id)) := fun H1 e Q q =>
  h H1 e _ fun p H2 _ e2 hp => ⟨p, bs, rfl, sq_of hp, q H2 e2⟩
/-! comprehensions over a list or a tuple -/
theorem given_take (xs : List V) (f : V → Bool) (g : V → V) : ∀ n, n ≤ xs.length → given n (fun i => f (xs.getD i .non)) (fun i => g (xs.getD i .non)) = ((xs.take n).filter f).map g
  | 0, _ => rfl
  | n + 1, h => by
    have hn : n < xs.length := h
    have ex : xs.getD n .non = xs[n] := by rw [List.getD_eq_getElem?_getD, List.getElem?_eq_getElem hn] <;> rfl
    have et : xs.take (n + 1) = xs.take n ++ [xs[n]] := by rw [List.take_succ, List.getElem?_eq_getElem hn] <;> rfl
    have ih := given_take xs f g n (Nat.le_of_lt hn)
    cases hf : f xs[n] with
    | true =>
      rw [given_yes (f := fun i => f (xs.getD i .non)) (by show f (xs.getD n .non) = true; rw [ex]; exact hf), ih, et, List.filter_append, List.map_append]
      show _ ++ [g (xs.getD n .non)] = _
      rw [ex]
      simp [hf]
    | false =>
      rw [given_no (f := fun i => f (xs.getD i .non)) (by show f (xs.getD n .non) = false; rw [ex]; exact hf), ih, et, List.filter_append, List.map_append]
      simp [hf]
theorem given_eq (xs : List V) (f : V → Bool) (g : V → V) : given xs.length (fun i => f (xs.getD i .non)) (fun i => g (xs.getD i .non)) = (xs.filter f).map g := by
  rw [given_take xs f g xs.length (Nat.le_refl _), List.take_length]
theorem el_lcS {a : Addr} {xs : List V} {j : Nat} {vs : List Nat} (f : V → Bool) (g : V → V) (h : Ev tl σ H (.ref a)) (hx : Seq H a xs) (hz : xs.length ≤ 40000) (hw : ∀ x, wipe ((wipe σ vs).set j (some x)) vs = wipe σ vs)
    (ht : ∀ (x : V) H1, Ex H H1 → x ∈ xs → EvT t ((wipe σ vs).set j (some x)) H1 (f x)) (he : ∀ (x : V) H1, Ex H H1 → x ∈ xs → f x = true → Ev te ((wipe σ vs).set j (some x)) H1 (g x)) :
    EvL (tLc (iSeq K tl) (gName j) t te vs) σ H ((xs.filter f).map g) := by
  rw [← given_eq]
  have hm : ∀ i x, xs[i]? = some x → xs.getD i .non = x := fun i x e => by rw [List.getD_eq_getElem?_getD, e] <;> rfl
  intro H0 e Q q
  rcases hx with hx | hx
  · refine .inl ?_
    exact el_lcL (K := K) (xs := xs) (fun i => f (xs.getD i .non)) (fun i => g (xs.getD i .non)) h (sq_of hx) hz hw (fun i x H1 e1 hi => by rw [hm i x hi]; exact ht x H1 e1 (List.mem_of_getElem? hi))
      (fun i x H1 e1 hi hf => by rw [hm i x hi] at hf ⊢; exact he x H1 e1 (List.mem_of_getElem? hi) hf) H0 e Q q
  · refine .inr ?_
    refine h H0 e _ fun H1 e1 => ⟨a, rfl, ⟨xs, ex_t (e.trans e1) (st_of hx)⟩, fun Dl hD =>
      lc_tup (xs := xs) (Cw H1 (fun i => f (xs.getD i .non)) (fun i => g (xs.getD i .non)) Dl) ⟨hD, Ex.new hD, upd_same⟩ (fun i H' _ p => ex_t ((e.trans e1).trans p.2.1) (st_of hx)) (fun i x H' hi p => ⟨hw x, cw_turn p (by have := (List.getElem?_eq_some_iff.mp hi).1; omega)
        (by rw [hm i x hi]; exact ht x H1 (e.trans e1) (List.mem_of_getElem? hi)) (fun hf => by rw [hm i x hi] at hf ⊢; exact he x H1 (e.trans e1) (List.mem_of_getElem? hi) hf)⟩)
        (fun H' p => q Dl H' (fresh_back e1 p.1) (e1.trans p.2.1) p.2.2)⟩
theorem filter_true {α : Type} (xs : List α) : xs.filter (fun _ => true) = xs := by
  rw [List.filter_eq_self]
  exact fun _ _ => rfl
theorem el_lcSm {a : Addr} {xs : List V} {j : Nat} {vs : List Nat} (g : V → V) (h : Ev tl σ H (.ref a)) (hx : Seq H a xs) (hz : xs.length ≤ 40000) (hw : ∀ x, wipe ((wipe σ vs).set j (some x)) vs = wipe σ vs)
    (he : ∀ (x : V) H1, Ex H H1 → x ∈ xs → Ev te ((wipe σ vs).set j (some x)) H1 (g x)) : EvL (tLc (iSeq K tl) (gName j) tYes te vs) σ H (xs.map g) := by
  have z := el_lcS (K := K) (t := tYes) (fun _ => true) g h hx hz hw (fun _ _ _ _ => et_yes) (fun x H1 e m _ => he x H1 e m)
  rwa [filter_true] at z
/-- over a tuple -/
theorem el_lcTm {a : Addr} {xs : List V} {j : Nat} {vs : List Nat} (g : V → V) (h : Ev tl σ H (.ref a)) (hx : H a = some (.tup xs)) (hz : xs.length ≤ 40000) (hw : ∀ x, wipe ((wipe σ vs).set j (some x)) vs = wipe σ vs)
    (he : ∀ (x : V) H1, Ex H H1 → x ∈ xs → Ev te ((wipe σ vs).set j (some x)) H1 (g x)) : EvL (tLc (iTup K tl) (gName j) tYes te vs) σ H (xs.map g) := by
  have hm : ∀ i x, xs[i]? = some x → xs.getD i .non = x := fun i x e => by rw [List.getD_eq_getElem?_getD, e] <;> rfl
  have e0 := given_eq xs (fun _ => true) g
  rw [filter_true] at e0
  rw [← e0]
  intro H0 e Q q
  refine h H0 e _ fun H1 e1 => ⟨a, rfl, ⟨xs, ex_t (e.trans e1) (st_of hx)⟩, fun Dl hD =>
      lc_tup (xs := xs) (Cw H1 (fun i => true) (fun i => g (xs.getD i .non)) Dl) ⟨hD, Ex.new hD, upd_same⟩ (fun i H' _ p => ex_t ((e.trans e1).trans p.2.1) (st_of hx)) (fun i x H' hi p => ⟨hw x, cw_turn p (by have := (List.getElem?_eq_some_iff.mp hi).1; omega)
        et_yes (fun hf => by rw [hm i x hi]; exact he x H1 (e.trans e1) (List.mem_of_getElem? hi))⟩)
        (fun H' p => q Dl H' (fresh_back e1 p.1) (e1.trans p.2.1) p.2.2)⟩
theorem map_true (xs : List V) : (xs.map fun _ => V.bl true) = (List.replicate xs.length true).map V.bl := by
  induction xs with
  | nil => rfl
  | cons x xs ih =>
    rw [List.map_cons, ih, List.length_cons, List.replicate_succ, List.map_cons]
theorem all_rep (n : Nat) : (List.replicate n true).all id = true := by
  rw [List.all_eq_true]
  intro x hx
  rw [(List.mem_replicate.mp hx).2] <;> rfl
theorem ev_allT {xs : List V} (h : EvL te σ H (xs.map fun _ => V.bl true)) : Ev (tCB (rAll K) (tCons te tNil)) σ H (.bl true) := by
  rw [map_true] at h
  have z := ev_allN (K := K) h
  rwa [all_rep] at z
end
/-! ### rows, lists of rows, lists of these -/
def IsRow (H : Hp) (x : V) (r : List Int) : Prop := ∃ b, x = .ref b ∧ H b = some (.tup (r.map V.int))
def Rws (H : Hp) (x : V) (rs : List (List Int)) : Prop := ∃ a xs, x = .ref a ∧ Seq H a xs ∧ Paired (IsRow H) xs rs
def Lss (H : Hp) (x : V) (Ls : List (List (List Int))) : Prop := ∃ a xs, x = .ref a ∧ Seq H a xs ∧ Paired (Rws H) xs Ls
theorem Paired.imp {α β : Type} {F G : α → β → Prop} (f : ∀ a b, F a b → G a b) : ∀ {xs : List α} {ys : List β}, Paired F xs ys → Paired G xs ys
  | _, _, .nil => .nil
  | _, _, .cons h t => .cons (f _ _ h) (Paired.imp f t)
theorem Paired.mem_l {α β : Type} {F : α → β → Prop} : ∀ {xs : List α} {ys : List β}, Paired F xs ys → ∀ x ∈ xs, ∃ y ∈ ys, F x y
  | _, _, .nil, _, h => absurd h (by simp)
  | _, _, .cons (b := b) h t, x, hx => by
    rcases List.mem_cons.mp hx with e | hx
    · subst e
      exact ⟨b, List.mem_cons_self, h⟩
    · obtain ⟨y, hy, hf⟩ := Paired.mem_l t x hx
      exact ⟨y, List.mem_cons_of_mem _ hy, hf⟩
theorem Paired.at_l {α β : Type} {F : α → β → Prop} : ∀ {xs : List α} {ys : List β}, Paired F xs ys → ∀ (i : Nat) (x : α), xs[i]? = some x → ∃ y, ys[i]? = some y ∧ F x y
  | _, _, .nil, i, x, h => by simp at h
  | _, _, .cons (b := b) h t, 0, x, e => by
    cases (Option.some.inj (show some _ = some x from e))
    exact ⟨b, rfl, h⟩
  | _, _, .cons h t, i + 1, x, e => Paired.at_l t i x e
theorem Paired.at_r {α β : Type} {F : α → β → Prop} {xs : List α} {ys : List β} (p : Paired F xs ys) (i : Nat) (y : β) (h : ys[i]? = some y) : ∃ x, xs[i]? = some x ∧ F x y := paired_at p i y h
section
variable {H H' : Hp} {x : V}
theorem IsRow.ex {r : List Int} (h : IsRow H x r) (e : Ex H H') : IsRow H' x r := let ⟨b, h1, h2⟩ := h; ⟨b, h1, e _ _ h2⟩
theorem Rws.ex {rs : List (List Int)} (h : Rws H x rs) (e : Ex H H') : Rws H' x rs := let ⟨a, xs, h1, h2, h3⟩ := h; ⟨a, xs, h1, h2.ex e, Paired.imp (fun _ _ z => z.ex e) h3⟩
theorem Lss.ex {Ls : List (List (List Int))} (h : Lss H x Ls) (e : Ex H H') : Lss H' x Ls := let ⟨a, xs, h1, h2, h3⟩ := h; ⟨a, xs, h1, h2.ex e, Paired.imp (fun _ _ z => z.ex e) h3⟩
end
def OkRow (w : Nat) (r : List Int) : Prop := r.length = w ∧ ∀ i ∈ r, 0 ≤ i ∧ i ≤ 999
/-- a list of rows as the program takes it -/
structure OkRows (w : Nat) (rs : List (List Int)) : Prop where
  w1 : 1 ≤ w
  w5 : w ≤ 5
  nd : rs.Nodup
  row : ∀ r ∈ rs, OkRow w r
  few : rs.length ≤ 60
end Mv
/-! sorted of a list of none or one thing; small readings. -/
namespace Mv
open PySem PySem.Spec PyProof.Rows L2 Evl
def rSorted1 (K : PySem.W.Frag) : List V → Hp → VK → Prop := fun vs H Q => ∃ (a : Addr) (xs : List V), vs = [.ref a] ∧ SqL K H a xs ∧ xs.length < 2 ∧ ∀ p, H p = none → Q (.ref p) (upd H p (.lst xs))
theorem cr_sorted1 {X : Cx} : CallR X (.builtin "sorted") (rSorted1 X.K) := by
  intro pins s σ H vs us Q I r h
  obtain ⟨a, xs, rfl, hs, h2, q⟩ := h
  obtain ⟨its, rv, hl, hz⟩ := I.list hs
  rw [Vals.ref1 r]
  have hlen : its.length < 2 := by rw [← rv.length]; exact h2
  refine SrtO.sorted_ord (ltv := fun _ _ => false) ⟨fun _ _ _ => rfl, fun _ _ _ _ _ => rfl⟩ hl.isList (by rw [← rv.length]; exact hz) (fun h2 h₁ a' _ _ => absurd h2 (by omega)) fun out h1 h2 => ?_
  have e : out = its := by
    have p := h2.perm
    match its, hlen, p with
    | [], _, p => exact List.perm_nil.mp p
    | [x], _, p => exact List.perm_singleton.mp p
    | x :: y :: l, h, _ => exact absurd h (by simp)
  subst e
  obtain ⟨ep, he'⟩ := PyProof.Rows.sortedAll_at s.heap out out.toArray
  exact ⟨.ref _, upd H (s.heap.objs.size + 1) (.lst xs), I.laid (t' := s.toks) (fun _ _ => PyProof.Rows.sortedAll_old) (Nat.le_succ _) ⟨hz, out, ep, rv, he'⟩, rfl, q _ (I.hok.fresh (Nat.le_succ _))⟩
/-- all but p stays -/
def ExB (p : Addr) (H H' : Hp) : Prop := ∀ a o, a ≠ p → H a = some o → H' a = some o
theorem Ex.b {p : Addr} {H H' : Hp} (e : Ex H H') : ExB p H H' := fun a o _ h => e a o h
theorem ExB.trans {p : Addr} {H H1 H2 : Hp} (a : ExB p H H1) (b : ExB p H1 H2) : ExB p H H2 := fun x o n h => b x o n (a x o n h)
theorem ExB.mut {p q : Addr} {H H' : Hp} {o : HO} (e : ExB p H H') (h : H q = none) : ExB p H (upd H' q o) := fun a u n ha => by
  rw [upd_ne (ne_of_none ha h)]
  exact e a u n ha
theorem ExB.own {p : Addr} {H H' : Hp} {o : HO} (e : ExB p H H') : ExB p H (upd H' p o) := fun a u n ha => by
  rw [upd_ne n]
  exact e a u n ha
theorem ExB.back {p q : Addr} {H H' : Hp} (e : ExB p H H') (n : q ≠ p) (h : H' q = none) : H q = none := by
  cases z : H q with
  | none => rfl
  | some o =>
    rw [e q o n z] at h
    cases h
section
variable {K : PySem.W.Frag} {σ : L2.St} {H H' : Hp} {ta tb te : TE} {x y z v : V}
theorem ev_ixL {p : Addr} {xs : List V} {i : Int} (ha : Ev ta σ H (.ref p)) (hb : Ev tb σ H (.int i)) (h : SqL K H p xs) (hi : atI xs i = some v) : Ev (tOp (rIxL K) ta tb) σ H v := ev_op ha hb (rv_ixL h hi)
theorem ev_eqNilN {xs : List V} (ha : EvL ta σ H xs) : Ev (tOp (rNilEq K false) ta (tLst tNil)) σ H (.bl xs.isEmpty) := fun H1 e Q q =>
  ha H1 e _ fun p H2 _ e2 hp => ⟨Nat.zero_le _, fun l hl => ⟨p, l, xs, rfl, rfl, sq_of (Ex.new hl _ _ hp), sq_of upd_same, q _ (e2.trans (Ex.new hl))⟩⟩
/-- int(i), abs(i) -/
theorem ev_toInt {i : Int} (h : Ev te σ H (.int i)) : Ev (tCB (fun xs H Q => (∃ i, xs = [V.int i] ∧ Q (.int i) H) ∨ ∃ k, xs = [V.bl k] ∧ Q (.int (if k then 1 else 0)) H) (tCons te tNil)) σ H (.int i) := fun H1 e Q q =>
  h H1 e _ fun H2 e2 => .inl ⟨i, rfl, q H2 e2⟩
theorem ev_abs {i : Int} (h : Ev te σ H (.int i)) : Ev (tCB (fun xs H Q => ∃ i, xs = [V.int i] ∧ Q (.int (if i < 0 then -i else i)) H) (tCons te tNil)) σ H (.int (if i < 0 then -i else i)) := fun H1 e Q q =>
  h H1 e _ fun H2 e2 => ⟨i, rfl, q H2 e2⟩
end
end Mv
/-! The law's draws. -/
namespace Mv
open PySem PySem.Spec PyProof.Rows L2 Evl
/-- the law's box behind at most n draws of the second kind -/
def BoxAt (H : Hp) (p : Addr) (n : Nat) : Prop := ∃ (b0 : Int) (b1 : Bool) (b2 b3 : Int), H p = some (.lst [.int b0, .bl b1, .int b2, .int b3]) ∧ 0 ≤ b2 ∧ b2 < 2147483629 ∧ 0 ≤ b3 ∧ b3 ≤ (n : Int)
theorem BoxAt.ex {H H' : Hp} {p : Addr} {n : Nat} (h : BoxAt H p n) (e : Ex H H') : BoxAt H' p n := let ⟨b0, b1, b2, b3, h1, h2⟩ := h; ⟨b0, b1, b2, b3, e _ _ h1, h2⟩
theorem BoxAt.mono {H : Hp} {p : Addr} {n m : Nat} (h : BoxAt H p n) (l : n ≤ m) : BoxAt H p m := let ⟨b0, b1, b2, b3, h1, h2, h3, h4, h5⟩ := h; ⟨b0, b1, b2, b3, h1, h2, h3, h4, by omega⟩
theorem BoxAt.upd {H : Hp} {p q : Addr} {n : Nat} {o : HO} (h : BoxAt H p n) (ne : p ≠ q) : BoxAt (L2.upd H q o) p n := let ⟨b0, b1, b2, b3, h1, h2⟩ := h; ⟨b0, b1, b2, b3, by rw [upd_ne ne]; exact h1, h2⟩
theorem BoxAt.some {H : Hp} {p : Addr} {n : Nat} (h : BoxAt H p n) : H p ≠ none := fun z => by
  obtain ⟨_, _, _, _, h1, _⟩ := h
  rw [z] at h1
  cases h1
theorem BoxAt.ne {H : Hp} {p q : Addr} {n : Nat} (h : BoxAt H p n) (hq : H q = none) : p ≠ q := fun z => h.some (z ▸ hq)
section
variable {P : Program} {w : World} {K : PySem.W.Frag} {mg : Str → Option Value} {base : Heap} {a : Nat → Addr} {d : Nat → FuncData} {tk : Nat → Tok} {c ci : Nat → Addr} {di : Nat → FuncData}
def sp__law_cell (K : PySem.W.Frag) : Sp := fun vs H Q _ => ∃ (p : Addr) (ns : List Int) (k : Nat), vs = [.ref p, .int (k : Int)] ∧ SqL K H p (ns.map V.int) ∧ k ≤ 100 ∧ ∀ c H2, Ex H H2 → Q (.int c) H2
theorem sum_take (ns : List Int) : cutV (ns.map V.int) none (some 1) = (ns.take 1).map V.int := by
  cases ns with
  | nil => rfl
  | cons n ns => exact (List.map_take (f := V.int) (i := 1) (l := n :: ns)).symm ▸ (by rfl)
theorem ok__law_cell (T : All K mg a d tk c ci di) : FnOk P w K mg base CX0 1 (a 5) (d 5) ["script", "k"] (sp__law_cell K) := by
  refine T.F__law_cell.fn.ok sc__law_cell (fun vs H Q E h => ?_) (fun cdv A outer s H vs Q E hr h => ?_)
  · obtain ⟨p, ns, k, rfl, _⟩ := h
    rfl
  · obtain ⟨p, ns, k, rfl, hs, hk, kk⟩ := h
    have nd := sc__law_cell.nd
    refine ⟨_, (pss_one (ps_ret (pe_ifExp (pt_cmpR op_lt (pv 1) (pe_callB call_len_seq (by rfl) T.n_len PySem.boot_len (pa_cons (pv 0) pa_nil)) (nomark _)) (pe_ix ix_list (pv 0) (pv 1) (fun _ _ => rfl)) (pe_op op_add (pe_op op_mul pe_int (pv 1)) (pe_op op_mod (pe_callTy call_int1 rfl T.n_int PyProof.Rows.boot_int (pa_cons (pe_callB (cr_sum rfl) (by rfl) T.n_sum PyProof.Rows.boot_sum (pa_cons (pe_slice sl_list (pv 0) po_none (po_some pe_int)) pa_nil)) pa_nil)) pe_int))))), ?_⟩
    by_cases hlt : k < ns.length
    · obtain ⟨c, hc⟩ : ∃ c, (ns.map V.int)[k]? = some (V.int c) := ⟨ns[k], by rw [List.getElem?_map, List.getElem?_eq_getElem hlt] <;> rfl⟩
      refine s_ret (v := .int c) (ev_if (b := true) (et_is (et_I0 (ev_var rfl) (ev_len (ev_var rfl) hs)) (decide_eq_true (by rw [List.length_map]; omega))) (fun _ => ev_ixL (i := (k : Int)) (ev_var rfl) (ev_var rfl) hs (atI_nat hc)) fun h => nomatch h) fun H2 e2 => kk c H2 e2
    · refine s_ret (ev_if (b := false) (et_is (et_I0 (ev_var rfl) (ev_len (ev_var rfl) hs)) (decide_eq_false (by rw [List.length_map]; omega))) (fun h => nomatch h) fun _ => ev_I0 (ev_I ev_c (ev_var rfl) (.inl ⟨by decide, by decide⟩)) (ev_I (i := (ns.take 1).sum) (j := 1000003) (ev_toInt (fun H1 e1 Q q => ?_)) ev_c (by show (0 : Int) < 1000003; decide))) fun H2 e2 => kk _ H2 e2
      refine el_sl (ev_var rfl) eo_none (eo_some ev_c) hs H1 e1 _ fun l H2 _ e2 hl => ⟨l, ns.take 1, rfl, ?_, q H2 e2⟩
      rw [← sum_take]
      exact sq_of hl
def sp__law_box : Sp := fun vs H Q _ => ∃ c : Int, vs = [.int c] ∧ ∀ p H2, H p = none → Ex H H2 → BoxAt H2 p 0 → Q (.ref p) H2
theorem ok__law_box (T : All K mg a d tk c ci di) : FnOk P w K mg base CX0 1 (a 6) (d 6) ["great"] sp__law_box := by
  refine T.F__law_box.fn.ok sc__law_box (fun vs H Q E h => ?_) (fun cdv A outer s H vs Q E hr h => ?_)
  · obtain ⟨c, rfl, _⟩ := h
    rfl
  · obtain ⟨c, rfl, k⟩ := h
    have nd := sc__law_box.nd
    refine ⟨_, (pss_one (ps_ret (pe_lst (pa_cons (pe_callB call_abs (by rfl) T.n_abs PyProof.Rows.boot_abs (pa_cons (pv 0) pa_nil)) (pa_cons (pe_cmpR op_ge (pe_callB call_abs (by rfl) T.n_abs PyProof.Rows.boot_abs (pa_cons (pv 0) pa_nil)) (pe_op op_pow pe_int pe_int) (nomark _)) (pa_cons (pe_op op_mod (pe_callTy call_int1 rfl T.n_int PyProof.Rows.boot_int (pa_cons (pe_callB call_abs (by rfl) T.n_abs PyProof.Rows.boot_abs (pa_cons (pv 0) pa_nil)) pa_nil)) pe_int) (pa_cons pe_int pa_nil))))))), ?_⟩
    refine s_retL (el_lst (ea_cons (ev_abs (ev_var rfl)) (ea_cons (ev_I0 (ev_abs (ev_var rfl)) (ev_I (i := 10) (j := 18) ev_c ev_c ⟨by decide, by decide, by decide⟩)) (ea_cons (ev_I (j := 2147483629) (ev_toInt (ev_abs (ev_var rfl))) ev_c (by show (0 : Int) < 2147483629; decide)) (ea_cons ev_c ea_nil)))) (show 4 ≤ 100000 by decide)) fun p H1 hp e h => ?_
    exact k p H1 hp e ⟨_, _, _, _, h, Int.emod_nonneg _ (by decide), Int.emod_lt_of_pos _ (by decide), Int.le_refl _, Int.le_refl _⟩
/-! _law_take -/
def sp__law_take : Sp := fun vs H Q _ => ∃ (p : Addr) (m : Int) (n : Nat), vs = [.ref p, .int m] ∧ 1 ≤ m ∧ m ≤ 100000 ∧ BoxAt H p n ∧ n ≤ 100000 ∧ ∀ (i : Int) (H2 : Hp), 0 ≤ i → i < m → ExB p H H2 → BoxAt H2 p (n + 1) → Q (.int i) H2
theorem ok__law_take (T : All K mg a d tk c ci di) : FnOk P w K mg base CX0 1 (a 7) (d 7) ["box", "many"] sp__law_take := by
  refine T.F__law_take.fn.ok sc__law_take (fun vs H Q E h => ?_) (fun cdv A outer s H vs Q E hr h => ?_)
  · obtain ⟨p, m, n, rfl, _⟩ := h
    rfl
  · obtain ⟨p, m, n, rfl, h1, h2, ⟨b0, b1, b2, b3, hb, c1, c2, c3, c4⟩, hn, k⟩ := h
    have nd := sc__law_take.nd
    refine ⟨_, (pss_cons (ps_if (PW.pt (pw_and (pt_val (pe_ix ix_list (pv 0) pe_int (fun _ _ => rfl))) (pw_and1 (pt_cmpR op_gt (pe_ix ix_list (pv 0) pe_int (fun _ _ => rfl)) pe_int (nomark _)))))
 (pss_cons (ps_set (i := 2) nd rfl (Or.inl rfl) (pe_op op_mod (pe_callTy call_int1 rfl T.n_int PyProof.Rows.boot_int (pa_cons (pe_ix ix_list (pv 0) pe_int (fun _ _ => rfl)) pa_nil)) (pv 1)))
 (pss_cons (ps_asg (pe_op op_fdivW (pe_ix ix_list (pv 0) pe_int (fun _ _ => rfl)) (pv 1)) (pg_sub (pv 0) pe_int set_list))
 (pss_one (ps_ret (pv 2)))))
 pss_nil)
 (pss_cons (ps_asg (pe_op op_add (pe_ix ix_list (pv 0) pe_int (fun _ _ => rfl)) pe_int) (pg_sub (pv 0) pe_int set_list))
 (pss_cons (ps_set (i := 3) nd rfl (Or.inl rfl) (pe_op op_mod (pe_callTy call_int1 rfl T.n_int PyProof.Rows.boot_int (pa_cons (pe_op op_pow (pe_op op_add (pe_op op_add (pe_ix ix_list (pv 0) pe_int (fun _ _ => rfl)) (pe_op op_mul pe_int (pe_ix ix_list (pv 0) pe_int (fun _ _ => rfl)))) pe_int) pe_int) pa_nil)) pe_int))
 (pss_one (ps_ret (pe_op op_mod (pe_callTy call_int1 rfl T.n_int PyProof.Rows.boot_int (pa_cons (pe_op op_fdivW (pe_op op_mod (pe_callTy call_int1 rfl T.n_int PyProof.Rows.boot_int (pa_cons (pe_op op_pow (pe_op op_add (pe_op op_mul (pv 3) pe_int) (pe_op op_mul pe_int (pe_ix ix_list (pv 0) pe_int (fun _ _ => rfl)))) pe_int) pa_nil)) pe_int) pe_int) pa_nil)) (pv 1))))))), ?_⟩
    have g0 : ∀ {H' : Hp} {σ' : L2.St} {x z u : Int} {y : Bool}, σ'[0]? = some (some (.ref p)) → H' p = some (.lst [.int x, .bl y, .int z, .int u]) → Ev (tOp (rIxL K) (tVar 0) (tC (.int 0))) σ' H' (.int x) := fun hσ h => ev_ixL (i := 0) (ev_var hσ) ev_c (sq_of h) rfl
    have g1 : ∀ {H' : Hp} {σ' : L2.St} {x z u : Int} {y : Bool}, σ'[0]? = some (some (.ref p)) → H' p = some (.lst [.int x, .bl y, .int z, .int u]) → Ev (tOp (rIxL K) (tVar 0) (tC (.int 1))) σ' H' (.bl y) := fun hσ h => ev_ixL (i := 1) (ev_var hσ) ev_c (sq_of h) rfl
    have g2 : ∀ {H' : Hp} {σ' : L2.St} {x z u : Int} {y : Bool}, σ'[0]? = some (some (.ref p)) → H' p = some (.lst [.int x, .bl y, .int z, .int u]) → Ev (tOp (rIxL K) (tVar 0) (tC (.int 2))) σ' H' (.int z) := fun hσ h => ev_ixL (i := 2) (ev_var hσ) ev_c (sq_of h) rfl
    have g3 : ∀ {H' : Hp} {σ' : L2.St} {x z u : Int} {y : Bool}, σ'[0]? = some (some (.ref p)) → H' p = some (.lst [.int x, .bl y, .int z, .int u]) → Ev (tOp (rIxL K) (tVar 0) (tC (.int 3))) σ' H' (.int u) := fun hσ h => ev_ixL (i := 3) (ev_var hσ) ev_c (sq_of h) rfl
    refine q_when (et_and (et_B (g1 rfl hb)) fun _ => et_I0 (g0 rfl hb) ev_c) (fun _ H1 e1 => ?_) fun _ H1 e1 => ?_
    · refine q_asg (ev_I (j := m) (ev_toInt (g0 rfl (e1 _ _ hb))) (ev_var rfl) (by show (0 : Int) < m; omega)) fun H2 e2 => ?_
      have e12 := e1.trans e2
      refine q_setL (j := 0) (e12 _ _ hb) (ev_I (j := m) (g0 rfl (e12 _ _ hb)) (ev_var rfl) (wide_div (b := 40) (by omega) (by omega) (by decide) (by decide))) (ev_var rfl) ev_c (show 0 < 4 by decide) fun H3 e3 => ?_
      refine s_ret (ev_var rfl) fun H4 e4 => k _ H4 (Int.emod_nonneg _ (by omega)) (Int.emod_lt_of_pos _ (by omega)) ((Ex.b (e12.trans e3)).own.trans (Ex.b e4)) ⟨_, b1, b2, b3, e4 _ _ upd_same, c1, c2, c3, by omega⟩
    · refine q_setL (j := 3) (e1 _ _ hb) (ev_I0 (g3 rfl (e1 _ _ hb)) ev_c) (ev_var rfl) ev_c (show 3 < 4 by decide) fun H2 e2 => ?_
      have e12 := e1.trans e2
      have hb2 : upd H2 p (.lst ([V.int b0, .bl b1, .int b2, .int b3].set 3 (.int (b3 + 1)))) p = some (.lst [.int b0, .bl b1, .int b2, .int (b3 + 1)]) := upd_same
      generalize hH : upd H2 p (.lst ([V.int b0, .bl b1, .int b2, .int b3].set 3 (.int (b3 + 1)))) = H3 at hb2
      have eB : ExB p H H3 := by rw [← hH]; exact (Ex.b e12).own
      have mb : ∀ {i j : Int}, -(2 ^ 64) < i ∧ i < 2 ^ 64 → CMul i j := fun h => .inl h
      refine q_asg (ev_I (j := 2147483647) (ev_toInt (ev_I (j := 5) (ev_I0 (ev_I0 (g2 rfl hb2) (ev_I ev_c (g3 rfl hb2) (mb ⟨by decide, by decide⟩))) ev_c) ev_c ⟨by decide, by decide, ?_⟩)) ev_c (by show (0 : Int) < 2147483647; decide)) fun H4 e4 => ?_
      · have : (2 : Nat) ^ 64 = 18446744073709551616 := by decide
        rw [this]
        omega
      generalize hmx : (b2 + 15485867 * (b3 + 1) + 179425033) ^ Int.toNat 5 % 2147483647 = mx
      have q1 : 0 ≤ mx := by rw [← hmx]; exact Int.emod_nonneg _ (by decide)
      have q2 : mx < 2147483647 := by rw [← hmx]; exact Int.emod_lt_of_pos _ (by decide)
      have z64 : (2 : Int) ^ 64 = 18446744073709551616 := by decide
      refine s_ret (ev_I (j := m) (ev_toInt (ev_I (j := 64) (ev_I (j := 2147483587) (ev_toInt (ev_I (j := 3) (ev_I0 (ev_I (ev_var rfl) ev_c (mb ⟨by omega, by omega⟩)) (ev_I ev_c (g3 rfl (e4 _ _ hb2)) (mb ⟨by decide, by decide⟩))) ev_c ⟨by decide, by decide, ?_⟩)) ev_c (by show (0 : Int) < 2147483587; decide)) ev_c (wide_div (b := 40) (by decide) (by decide) (by decide) (by decide)))) (ev_var rfl) (by show (0 : Int) < m; omega)) fun H6 e6 => ?_
      · have : (2 : Nat) ^ 64 = 18446744073709551616 := by decide
        rw [this]
        omega
      exact k _ H6 (Int.emod_nonneg _ (by omega)) (Int.emod_lt_of_pos _ (by omega)) (eB.trans (Ex.b (e4.trans e6))) ⟨b0, b1, b2, b3 + 1, (e4.trans e6) _ _ hb2, c1, c2, by omega, by omega⟩
/-! _law_mixed -/
theorem seq_at {j : Int} {n : Nat} (h0 : 0 ≤ j) (h1 : j < (n : Int)) : seqIndex? j n = some j.toNat := by
  unfold seqIndex?
  have e : (if j < 0 then j + (n : Int) else j) = j := if_neg (by omega)
  simp only [e]
  rw [decide_eq_true h0, decide_eq_true h1] <;> rfl
theorem erase_perm {α : Type} : ∀ {l : List α} {i : Nat} (h : i < l.length), (l[i] :: l.eraseIdx i).Perm l
  | x :: l, 0, _ => List.Perm.refl _
  | x :: l, i + 1, h => by
    have z := erase_perm (l := l) (i := i) (Nat.lt_of_succ_lt_succ h)
    exact (List.Perm.swap _ _ _).trans (z.cons x)
def sp__law_mixed : Sp := fun vs H Q _ => ∃ (p q : Addr) (xs : List V) (n : Nat), vs = [.ref p, .ref q] ∧ H q = some (.lst xs) ∧ xs.length ≤ 60 ∧ BoxAt H p n ∧ n ≤ 90000 ∧ ∀ (r : Addr) (ys : List V) (H2 : Hp), ys.Perm xs → H r = none → H2 r = some (.lst ys) → ExB p H H2 → BoxAt H2 p (n + 60) → Q (.ref r) H2
theorem ok__law_mixed (T : All K mg a d tk c ci di) : FnOk P w K mg base CX0 2 (a 8) (d 8) ["box", "items"] sp__law_mixed := by
  refine T.F__law_mixed.fn.ok sc__law_mixed (fun vs H Q E h => ?_) (fun cdv A outer s H vs Q E hr h => ?_)
  · obtain ⟨p, q, xs, n, rfl, _⟩ := h
    rfl
  · obtain ⟨p, xb, xs, n, rfl, hx, h60, hB, hn, k⟩ := h
    have nd := sc__law_mixed.nd
    have hu0 := hr.units0
    refine ⟨_, (pss_cons (ps_par (i := 2) (j := 3) rfl nd rfl rfl (by decide) rfl rfl (pa_cons (pe_callTy call_list_of rfl T.n_list PyProof.Rows.boot_list (pa_cons (pv 1) pa_nil)) (pa_cons (pe_lst pa_nil) pa_nil)) (by rfl))
 (pss_cons (ps_for PassesOwn.never rfl (pi_range1 rfl T.n_range (pa_cons (pe_callB call_len_seq (by rfl) T.n_len PySem.boot_len (pa_cons (pv 1) pa_nil)) pa_nil)) (pg_name (i := 4) nd rfl (Or.inl rfl))
 (pss_one (ps_expr (pe_bm PySem.F.plainAttrs_list PySem.F.slot_list_append PySem.F.type_list_append mt_append (pv 3) (pa_cons (pe_bm PySem.F.plainAttrs_list PySem.F.slot_list_pop PySem.F.type_list_pop mt_popAt (pv 2) (pa_cons (pe_call (ok__law_take T) (hr.mono (by decide)) rfl T.F__law_take.m T.F__law_take.kp T.F__law_take.b .nil pass0 (pa_cons (pv 0) (pa_cons (pe_callB call_len_seq (by rfl) T.n_len PySem.boot_len (pa_cons (pv 2) pa_nil)) pa_nil))) pa_nil)) pa_nil)))))
 (pss_one (ps_ret (pv 3))))), ?_⟩
    refine ⟨_, rfl, xb, xs, rfl, .inl (sq_of hx), fun lf hlf => ⟨Nat.zero_le _, fun fd hfd => ⟨_, _, rfl, ?_⟩⟩⟩
    have eL : Ex H (upd H lf (.lst xs)) := Ex.new hlf
    have nfd : H fd = none := fresh_back eL hfd
    have nlf : lf ≠ fd := fun z => by rw [← z, upd_same] at hfd; cases hfd
    have eF : Ex (upd H lf (.lst xs)) (upd (upd H lf (.lst xs)) fd (.lst [])) := Ex.new hfd
    have e0 := eL.trans eF
    have bl : p ≠ lf := hB.ne hlf
    have bf : p ≠ fd := hB.ne nfd
    let W : Nat → L2.St → Hp → Prop := fun i σ' H' => ExB p H H' ∧ ∃ (ls fs : List V) (v : Option V), σ' = [some (.ref p), some (.ref xb), some (.ref lf), some (.ref fd), v] ∧ H' lf = some (.lst ls) ∧ H' fd = some (.lst fs) ∧ (ls ++ fs).Perm xs ∧ ls.length + i = xs.length ∧ BoxAt H' p (n + i)
    refine q_forR1 (ea_cons (ev_len (ev_var rfl) (sq_of (e0 _ _ hx))) ea_nil) ⟨by omega, by omega⟩ W (fun H1 e1 => ⟨Ex.b (e0.trans e1), xs, [], _, rfl, e1 _ _ (eF _ _ upd_same), e1 _ _ upd_same, by rw [List.append_nil], rfl, (hB.ex (e0.trans e1))⟩) ?_ ?_
    · rintro i σ' H1 hi ⟨e', ls, fs, v, rfl, hl, hf, pm, hlen, hBx⟩
      have hil : i < xs.length := by omega
      have hls : 0 < ls.length := by omega
      have lenf : fs.length ≤ 60 := by
        have b := pm.length_eq
        rw [List.length_append] at b
        omega
      refine ⟨_, rfl, .inl ⟨rfl, fs, sq_of hf⟩, _, rfl, .inl ⟨rfl, ls, sq_of hl⟩, _, rfl, _, rfl, lf, ls, rfl, .inl (sq_of hl), ?_⟩
      refine ⟨p, _, n + i, rfl, by omega, by omega, hBx, by omega, fun j H2 j0 j1 e2 hB2 => ?_⟩
      have hl2 : H2 lf = some (.lst ls) := e2 _ _ (Ne.symm bl) hl
      have hf2 : H2 fd = some (.lst fs) := e2 _ _ (Ne.symm bf) hf
      have hj : j.toNat < ls.length := by omega
      have gy := List.getElem?_eq_getElem hj
      have sj := seq_at j0 j1
      refine ⟨lf, ls, j, j.toNat, _, rfl, rfl, hl2, by omega, by omega, sj, gy, ?_⟩
      refine ⟨fd, fs, _, rfl, rfl, by rw [upd_ne (Ne.symm nlf)]; exact hf2, Nat.lt_of_le_of_lt lenf (show 60 < sizeLine by decide), ?_⟩
      refine ⟨((e'.trans e2).mut hlf).mut nfd, ls.eraseIdx j.toNat, fs ++ [ls[j.toNat]], _, rfl, by rw [upd_ne nlf, upd_same], upd_same, ?_, ?_, (hB2.upd bl).upd bf⟩
      · have z := erase_perm hj
        have z2 : (ls.eraseIdx j.toNat ++ (fs ++ [ls[j.toNat]])).Perm ((ls[j.toNat] :: ls.eraseIdx j.toNat) ++ fs) := by
          rw [← List.append_assoc]
          refine (List.perm_append_comm).trans ?_
          rw [List.cons_append]
          exact List.Perm.refl _
        exact (z2.trans (z.append_right fs)).trans pm
      · rw [List.length_eraseIdx_of_lt hj]
        omega
    · rintro σ' H1 ⟨e', ls, fs, v, rfl, hl, hf, pm, hlen, hBx⟩
      have hls : ls = [] := by
        have : ls.length = 0 := by
          have : (xs.length : Int).toNat = xs.length := by omega
          omega
        exact List.length_eq_zero_iff.mp this
      subst hls
      refine s_ret (ev_var rfl) fun H2 e2 => ?_
      exact k fd fs H2 pm nfd (e2 _ _ hf) (e'.trans (Ex.b e2)) ((hBx.ex e2).mono (by omega))
end
end Mv
/-! Names, columns, the two classes. -/
namespace Mv
open PySem PySem.Spec PyProof.Rows L2 Evl
theorem nb_t {b : Bool} (h : (!b) = true) : b = false := by cases b <;> first | rfl | cases h
theorem nb_f {b : Bool} (h : (!b) = false) : b = true := by cases b <;> first | rfl | cases h
theorem dp_strs {K : PySem.W.Frag} {H : Hp} : ∀ zs : List Str, DpAll K H (zs.map V.str) (zs.map PyData.str)
  | [] => .nil
  | z :: zs => .cons (.str z) (dp_strs zs)
/-- the letters -/
def LT : Str := "abcdefghijklmnopqrstuvwxyz"
def nameB (z : Str) : Bool := (decide (0 < z.length) && decide (z.length ≤ 8)) && z.cps.toList.all fun c => decide (c ∈ LT.cps.toList)
theorem lt_small : ∀ c ∈ LT.cps.toList, c < 0x110000 := by decide +kernel
theorem ok_of_name {z : Str} (h : nameB z = true) : PyData.strOk z = true := by
  unfold nameB at h
  rw [Bool.and_eq_true] at h
  have h2 := h.2
  rw [List.all_eq_true] at h2
  unfold PyData.strOk
  rw [← Array.all_toList, List.all_eq_true]
  intro c hc
  exact decide_eq_true (lt_small c (of_decide_eq_true (h2 c hc)))
theorem lay_strs : ∀ zs : List Str, (∀ z ∈ zs, PyData.strOk z = true) → PyData.canLayAll0 (zs.map PyData.str) = true
  | [], _ => by simp [PyData.canLayAll0]
  | z :: zs, h => by simp [PyData.canLayAll0, PyData.canLay0, lay_strs zs (fun y hy => h y (List.mem_cons_of_mem _ hy)), h z List.mem_cons_self]
theorem deep_strs : ∀ zs : List Str, PyData.depthAll (zs.map PyData.str) ≤ 1
  | [] => by simp [PyData.depthAll]
  | z :: zs => by
    have := deep_strs zs
    simp only [List.map_cons, PyData.depthAll, PyData.depth]
    omega
theorem shaped_str {z : Str} (h : PyData.strOk z = true) : SeqAt.shaped (.str z) = true := by
  unfold SeqAt.shaped
  rw [PyData.canLay0, PyData.depth, h] <;> rfl
theorem shaped_strs {zs : List Str} (h : ∀ z ∈ zs, PyData.strOk z = true) : SeqAt.shaped (.list (zs.map PyData.str)) = true := by
  unfold SeqAt.shaped
  have e1 : (PyData.list (zs.map PyData.str)).canLay0 = true := by rw [PyData.canLay0, lay_strs zs h]
  have e2 : (PyData.list (zs.map PyData.str)).depth ≤ 64 := by
    have := deep_strs zs
    simp only [PyData.depth]
    omega
  rw [e1, decide_eq_true e2] <;> rfl
theorem any_strs (zs : List Str) (z : Str) : ((zs.map PyData.str).any fun y => PyData.eqv y (.str z)) = decide (z ∈ zs) := by
  rw [List.any_map, Bool.eq_iff_iff, List.any_eq_true, decide_eq_true_eq]
  constructor
  · rintro ⟨q, hq, e⟩
    have e : (q == z) = true := by
      have e' : PyData.eqv (.str q) (.str z) = true := e
      rwa [PyData.eqv] at e'
    rw [← eq_of_beq e]
    exact hq
  · intro h
    refine ⟨z, h, ?_⟩
    show PyData.eqv (.str z) (.str z) = true
    rw [PyData.eqv]
    exact beq_self_eq_true z
section
variable {K : PySem.W.Frag} {σ : L2.St} {H H' : Hp} {ta tb te tl : TE} {x y z v : V}
theorem rv_inStrs {f : Addr} {zs : List Str} {z : Str} (hf : H f = some (.lst (zs.map V.str))) (hz : PyData.strOk z = true) (hzs : ∀ z ∈ zs, PyData.strOk z = true) : RV (rInD K) (.str z) (.ref f) H (.bl (decide (z ∈ zs))) := fun H1 e Q q => by
  refine ⟨.str z, zs.map PyData.str, .str z, .lst (sq_of (e _ _ hf)) (dp_strs zs), shaped_str hz, shaped_strs hzs, ?_⟩
  rw [any_strs]
  exact q H1 (Ex.refl H1)
theorem rv_ninStrs {f : Addr} {zs : List Str} {z : Str} (hf : H f = some (.lst (zs.map V.str))) (hz : PyData.strOk z = true) (hzs : ∀ z ∈ zs, PyData.strOk z = true) : RV (rNotInD K) (.str z) (.ref f) H (.bl (!decide (z ∈ zs))) := fun H1 e Q q => by
  refine ⟨.str z, zs.map PyData.str, .str z, .lst (sq_of (e _ _ hf)) (dp_strs zs), shaped_str hz, shaped_strs hzs, ?_⟩
  rw [any_strs]
  exact q H1 (Ex.refl H1)
theorem ev_lenT {z : Str} (h : Ev te σ H (.str z)) (hz : z.length ≤ 100000) : Ev (tCB (fun xs H Q => ∃ z, xs = [V.str z] ∧ z.length ≤ sizeLine ∧ Q (.int z.length) H) (tCons te tNil)) σ H (.int (z.length : Int)) := fun H1 e Q q =>
  h H1 e _ fun H2 e2 => ⟨z, rfl, sz_of hz, q H2 e2⟩
/-- [e for c in a text] -/
theorem el_lcC {z : Str} {j : Nat} {vs : List Nat} (g : Nat → V) (h : Ev tl σ H (.str z)) (hz : z.cps.size ≤ 40000) (hw : ∀ x, wipe ((wipe σ vs).set j (some x)) vs = wipe σ vs)
    (he : ∀ (i c : Nat) H1, Ex H H1 → z.cps[i]? = some c → Ev te ((wipe σ vs).set j (some (.str ⟨#[c]⟩))) H1 (g i)) : EvL (tLc (iStr tl) (gName j) tYes te vs) σ H (given z.cps.size (fun _ => true) g) := fun H0 e Q q =>
  h H0 e _ fun H1 e1 => ⟨z, rfl, fun Dl hD => lc_it (walk_str (z := z)) (Cw H1 (fun _ => true) g Dl) ⟨hD, Ex.new hD, upd_same⟩ (fun _ _ _ _ => trivial) (fun i x H' H'' hi p hy => by
    obtain ⟨rfl, c, hc, rfl⟩ := hy
    exact ⟨hw _, cw_turn p (by omega) et_yes fun _ => he i c H1 (e.trans e1) hc⟩) (fun H' p => q Dl H' (fresh_back e1 p.1) (e1.trans p.2.1) p.2.2)⟩
end
section
variable {P : Program} {w : World} {K : PySem.W.Frag} {mg : Str → Option Value} {base : Heap} {a : Nat → Addr} {d : Nat → FuncData} {tk : Nat → Tok} {c ci : Nat → Addr} {di : Nat → FuncData}
def sp_is_name : Sp := fun vs H Q _ => ∃ z : Str, vs = [.str z] ∧ z.length ≤ 1000 ∧ RetV (.bl (nameB z)) H Q
theorem ok_is_name (T : All K mg a d tk c ci di) : FnOk P w K mg base CX0 1 (a 0) (d 0) ["value"] sp_is_name := by
  refine T.F_is_name.fn.ok sc_is_name (fun vs H Q E h => ?_) (fun cdv A outer s H vs Q E hr h => ?_)
  · obtain ⟨z, rfl, _⟩ := h
    rfl
  · obtain ⟨z, rfl, hz, k⟩ := h
    have nd := sc_is_name.nd
    refine ⟨_, (pss_cons (ps_if (PW.pt (pw_or (pt_not (pt_val (pe_callB call_isi (by rfl) T.n_isinstance PyProof.Rows.boot_isinstance (pa_cons (pv 0) (pa_cons (pe_bltn (v := .ty "str") rfl T.n_str PyProof.Rows.boot_str rfl) pa_nil))))) (pw_or1 (pt_not (pt_chain op_lt op_le pe_int (pe_callB call_len_str (by rfl) T.n_len PySem.boot_len (pa_cons (pv 0) pa_nil)) (pe_glob (v := .int 8) rfl T.c_LONGEST_NAME ⟨_, rfl⟩))))))
 (pss_one (ps_ret pe_bl))
 pss_nil)
 (pss_one (ps_ret (pe_callB (cr_all rfl) (by rfl) T.n_all PyProof.Rows.boot_all (pa_cons (pe_lc (own := [("letter", 1)]) (g := (gName 1)) rfl nd (pi_str (pv 0)) (blkOk_by (N := N_is_name) (sc := defScope s_is_name) (by decide +kernel)) (fun _ _ _ _ _ => (pg_name (i := 1) nd rfl (Or.inl rfl))) (fun _ _ _ _ _ => pts_nil) (fun _ _ _ _ _ => (pe_cmpR op_in_sign (pv 1) (pe_glob (v := .str "abcdefghijklmnopqrstuvwxyz") rfl T.c_LETTERS ⟨_, rfl⟩) rfl))) pa_nil))))), ?_⟩
    have hS : ∀ {H1 : Hp}, Ev (tCB (rIsi K) (tCons (tVar 0) (tCons (tC (.ty "str")) tNil))) (start N_is_name [V.str z]) H1 (.bl true) := ev_isi (ty := .type "str") (ev_var rfl) (fun H2 _ => .base (.str z)) (kit_ty (by decide +kernel))
    refine q_when (et_or (et_not (et_B hS)) fun _ => et_not (et_chain (g := fun i j => decide (i < j)) (g' := fun i j => decide (i ≤ j)) ev_c (ev_lenT (ev_var rfl) (by omega)) ev_c)) (fun h H1 e1 => ?_) fun h H1 e1 => ?_
    · have h : (!(decide ((0 : Int) < (z.length : Int)) && decide ((z.length : Int) ≤ 8))) = true := h
      have e : nameB z = false := by
        unfold nameB
        have e1 : decide ((0 : Int) < (z.length : Int)) = decide (0 < z.length) := decide_eq_decide.mpr (by omega)
        have e2 : decide ((z.length : Int) ≤ 8) = decide (z.length ≤ 8) := decide_eq_decide.mpr (by omega)
        rw [← e1, ← e2, nb_t h] <;> rfl
      rw [e] at k
      exact s_ret ev_c fun H2 e2 => k H2 (e1.trans e2)
    · have h : (!(decide ((0 : Int) < (z.length : Int)) && decide ((z.length : Int) ≤ 8))) = false := h
      have e : nameB z = z.cps.toList.all fun c => decide (c ∈ LT.cps.toList) := by
        unfold nameB
        have e1 : decide ((0 : Int) < (z.length : Int)) = decide (0 < z.length) := decide_eq_decide.mpr (by omega)
        have e2 : decide ((z.length : Int) ≤ 8) = decide (z.length ≤ 8) := decide_eq_decide.mpr (by omega)
        rw [← e1, ← e2, nb_f h] <;> rfl
      rw [e] at k
      let out : List V := (z.cps.toList.map fun c => decide (c ∈ LT.cps.toList)).map V.bl
      have hlen : out.length = z.cps.size := by simp [out]
      have zz := el_lcC (te := tOp (fun x y H Q => ∃ (c : Nat) (z : Str), x = .str ⟨#[c]⟩ ∧ y = .str z ∧ Q (.bl (decide (c ∈ z.cps.toList))) H) (tVar 1) (tC (.str LT))) (tl := tVar 0) (z := z) (σ := start N_is_name [V.str z]) (H := H1) (j := 1) (vs := [1]) (fun i => out.getD i .non) (ev_var rfl) (show z.length ≤ 40000 by omega) (fun _ => rfl) (fun i c H2 e2 hc => by
        have e3 : out.getD i .non = .bl (decide (c ∈ LT.cps.toList)) := by
          show (((z.cps.toList.map fun c => decide (c ∈ LT.cps.toList)).map V.bl).getD i .non) = _
          rw [List.getD_eq_getElem?_getD, List.getElem?_map, List.getElem?_map, Array.getElem?_toList, hc] <;> rfl
        rw [e3]
        exact ev_op (ev_var rfl) ev_c fun H3 _ Q q => ⟨c, LT, rfl, rfl, q H3 (Ex.refl _)⟩)
      rw [← hlen] at zz
      have g : given out.length (fun _ => true) (fun i => out.getD i .non) = out := by
        have z0 := given_eq out (fun _ => true) id
        rw [filter_true, List.map_id] at z0
        exact z0
      rw [g] at zz
      have kk := ev_allN (K := K) zz
      rw [List.all_map] at kk
      exact s_ret kk fun H2 e2 => k H2 (e1.trans e2)
theorem spv_name {z : Str} {H : Hp} (hz : z.length ≤ 1000) (h : nameB z = true) : SpV sp_is_name [.str z] H (.bl true) := fun H1 e Q q _ => ⟨z, rfl, hz, by rw [h]; exact q⟩
/-! is_list -/
def sp_is_list (K : PySem.W.Frag) : Sp := fun vs H Q _ => ∃ (p : Addr) (xs : List V), vs = [.ref p] ∧ Seq H p xs ∧ RetV (.bl true) H Q
theorem isq_ev {σ : L2.St} {H : Hp} {ta : TE} {p : Addr} {xs : List V} (h : Ev ta σ H (.ref p)) (hs : Seq H p xs) : Ev (tCB (rIsiT K) (tCons ta (tCons (tTup (tCons (tC (.ty "list")) (tCons (tC (.ty "tuple")) tNil))) tNil))) σ H (.bl true) := by
  rcases hs with hs | hs
  · exact ev_isiT h (ty_lst hs) (kitAny_cons (b := true) (kit_ty (by decide +kernel)) (fun h => nomatch h) fun _ => rfl)
  · exact ev_isiT h (ty_tup hs) (kitAny_cons (b := false) (kit_ty (by decide +kernel)) (fun _ => kitAny_cons (b := true) (kit_ty (by decide +kernel)) (fun h => nomatch h) fun _ => rfl) fun h => nomatch h)
theorem ok_is_list (T : All K mg a d tk c ci di) : FnOk P w K mg base CX0 1 (a 1) (d 1) ["value"] (sp_is_list K) := by
  refine T.F_is_list.fn.ok sc_is_list (fun vs H Q E h => ?_) (fun cdv A outer s H vs Q E hr h => ?_)
  · obtain ⟨p, xs, rfl, _⟩ := h
    rfl
  · obtain ⟨p, xs, rfl, hs, k⟩ := h
    have nd := sc_is_list.nd
    refine ⟨_, (pss_one (ps_ret (pe_callB call_isiT (by rfl) T.n_isinstance PyProof.Rows.boot_isinstance (pa_cons (pv 0) (pa_cons (pe_tup (pa_cons (pe_bltn (v := .ty "list") rfl T.n_list PyProof.Rows.boot_list rfl) (pa_cons (pe_bltn (v := .ty "tuple") rfl T.n_tuple PyProof.Rows.boot_tuple rfl) pa_nil))) pa_nil))))), ?_⟩
    exact s_ret (isq_ev (ev_var rfl) hs) k
theorem spv_is_list {p : Addr} {xs : List V} {H : Hp} (h : Seq H p xs) : SpV (sp_is_list K) [.ref p] H (.bl true) := fun H1 e Q q _ => ⟨p, xs, rfl, h.ex e, q⟩
/-! checked_columns -/
def sp_checked_columns : Sp := fun vs H Q _ => ∃ (p : Addr) (zs : List Str), vs = [.ref p] ∧ H p = some (.lst (zs.map V.str)) ∧ 1 ≤ zs.length ∧ zs.length ≤ 5 ∧ (∀ z ∈ zs, nameB z = true ∧ z.length ≤ 1000) ∧ zs.Nodup ∧ RetL (zs.map V.str) H Q
theorem ok_checked_columns (T : All K mg a d tk c ci di) : FnOk P w K mg base CX0 2 (a 2) (d 2) ["columns"] sp_checked_columns := by
  refine T.F_checked_columns.fn.ok sc_checked_columns (fun vs H Q E h => ?_) (fun cdv A outer s H vs Q E hr h => ?_)
  · obtain ⟨p, zs, rfl, _⟩ := h
    rfl
  · obtain ⟨p, zs, rfl, hp, h1, h5, hnm, hnd, k⟩ := h
    have nd := sc_checked_columns.nd
    have hu65 := hu65_of hr
    refine ⟨_, (pss_cons (ps_if (PW.pt (pw_or (pt_not (pt_val (pe_call (ok_is_list T) (hr.mono (by decide)) rfl T.F_is_list.m T.F_is_list.kp T.F_is_list.b .nil pass0 (pa_cons (pv 0) pa_nil)))) (pw_or1 (pt_not (pt_chain op_le op_le pe_int (pe_callB call_len_seq (by rfl) T.n_len PySem.boot_len (pa_cons (pv 0) pa_nil)) (pe_glob (v := .int 5) rfl T.c_MOST_COLUMNS ⟨_, rfl⟩))))))
 (pss_one ps_dead)
 pss_nil)
 (pss_cons (ps_set (i := 1) nd rfl (Or.inl rfl) (pe_lst pa_nil))
 (pss_cons (ps_for PassesOwn.never rfl (pi_seq (pv 0)) (pg_name (i := 2) nd rfl (Or.inl rfl))
 (pss_cons (ps_if (pt_not (pt_val (pe_call (ok_is_name T) (hr.mono (by decide)) rfl T.F_is_name.m T.F_is_name.kp T.F_is_name.b .nil pass0 (pa_cons (pv 2) pa_nil))))
 (pss_one ps_dead)
 pss_nil)
 (pss_cons (ps_if (pt_cmpR (op_inD hu65) (pv 2) (pv 1) rfl)
 (pss_one ps_dead)
 pss_nil)
 (pss_one (ps_expr (pe_bm PySem.F.plainAttrs_list PySem.F.slot_list_append PySem.F.type_list_append mt_append (pv 1) (pa_cons (pv 2) pa_nil)))))))
 (pss_one (ps_ret (pv 1)))))), ?_⟩
    refine q_when (b := false) (et_is (et_or (et_not (et_B (ev_call (ea_cons (ev_var rfl) ea_nil) (spv_is_list (.inl hp))))) fun _ => et_not (et_chain (g := fun i j => decide (i ≤ j)) (g' := fun i j => decide (i ≤ j)) ev_c (ev_lenS (ev_var rfl) (.inl hp)) ev_c)) ?_) (fun h => nomatch h) fun _ H1 e1 => ?_
    · show (!true || !(decide ((1 : Int) ≤ ((zs.map V.str).length : Int)) && decide (((zs.map V.str).length : Int) ≤ 5))) = false
      rw [List.length_map, decide_eq_true (show (1 : Int) ≤ (zs.length : Int) by omega), decide_eq_true (show (zs.length : Int) ≤ 5 by omega)] <;> rfl
    · refine q_asgL (el_lst ea_nil (by decide)) fun f H2 hf e2 h2 => ?_
      have e12 := e1.trans e2
      have nf : f ≠ p := fun z => by rw [z, e1 _ _ hp] at hf; cases hf
      let Pv : Nat → L2.St → Hp → Prop := fun i σ' H' => Ex H H' ∧ H' f = some (.lst ((zs.take i).map V.str)) ∧ ∃ v, σ' = [some (.ref p), some (.ref f), v]
      have hfH : H f = none := fresh_back e1 hf
      refine .inl ⟨_, rfl, p, rfl, ⟨_, sq_of (e12 _ _ hp)⟩, for_list (K := K) (a := p) (xs := zs.map V.str) Pv ⟨e12, h2, _, rfl⟩ (fun i σ' H' _ q => sq_of (q.1 _ _ hp)) ?_ ?_⟩
      · rintro i x σ' H' hi ⟨e', hf', v, rfl⟩
        obtain ⟨z, hz, rfl⟩ : ∃ z, zs[i]? = some z ∧ x = V.str z := by
          rw [List.getElem?_map] at hi
          cases q : zs[i]? with
          | none => rw [q] at hi; cases hi
          | some z => rw [q] at hi; exact ⟨z, rfl, (Option.some.inj hi).symm⟩
        obtain ⟨hn, hl⟩ := hnm z (List.mem_of_getElem? hz)
        have hil : i < zs.length := (List.getElem?_eq_some_iff.mp hz).1
        have nin : z ∉ zs.take i := fun hm => by
          obtain ⟨j, hj, ej⟩ := List.mem_iff_getElem.mp hm
          rw [List.length_take] at hj
          rw [List.getElem_take] at ej
          have ei : zs[i] = z := (List.getElem?_eq_some_iff.mp hz).2
          have := (List.getElem_inj hnd).mp (ej.trans ei.symm)
          omega
        refine q_when (b := false) (et_not (et_B (ev_call (ea_cons (ev_var rfl) ea_nil) (spv_name hl hn)))) (fun h => nomatch h) fun _ H3 e3 => ?_
        refine q_when (b := false) (et_is (et_test (ev_op (ev_var rfl) (ev_var rfl) (rv_inStrs (e3 _ _ hf') (ok_of_name hn) fun y hy => ok_of_name (hnm y (List.mem_of_mem_take hy)).1))) (decide_eq_false nin)) (fun h => nomatch h) fun _ H4 e4 => ?_
        have e34 := e3.trans e4
        refine s_app (e34 _ _ hf') (ev_var rfl) (ev_var rfl) (by rw [List.length_map]; exact Nat.lt_of_le_of_lt (List.length_take_le _ _) (by omega)) fun H5 e5 => ?_
        refine ⟨Ex.mut (e'.trans (e34.trans e5)) hfH, ?_, _, rfl⟩
        rw [upd_same, List.take_succ, hz, List.map_append] <;> rfl
      · rintro σ' H' ⟨e', hf', v, rfl⟩
        rw [List.length_map, List.take_length] at hf'
        exact s_ret (ev_var rfl) fun H2 e2 => k f H2 hfH (e'.trans e2) (e2 _ _ hf')
/-! need_column -/
def sp_need_column : Sp := fun vs H Q _ => ∃ (p q : Addr) (zs ws : List Str) (z : Str), vs = [.ref p, .str z, .ref q] ∧ H p = some (.lst (zs.map V.str)) ∧ H q = some (.lst (ws.map V.str)) ∧ nameB z = true ∧ z.length ≤ 1000 ∧ z ∈ zs ∧ z ∉ ws ∧ (∀ z ∈ zs ++ ws, nameB z = true) ∧ RetV .non H Q
theorem ok_need_column (T : All K mg a d tk c ci di) : FnOk P w K mg base CX0 2 (a 3) (d 3) ["known", "name", "earlier"] sp_need_column := by
  refine T.F_need_column.fn.ok sc_need_column (fun vs H Q E h => ?_) (fun cdv A outer s H vs Q E hr h => ?_)
  · obtain ⟨p, q, zs, ws, z, rfl, _⟩ := h
    rfl
  · obtain ⟨p, q, zs, ws, z, rfl, hp, hq, hn, hl, hm, hw, ha, k⟩ := h
    have nd := sc_need_column.nd
    have hu65 := hu65_of hr
    refine ⟨_, (pss_cons (ps_if (pt_not (pt_val (pe_call (ok_is_name T) (hr.mono (by decide)) rfl T.F_is_name.m T.F_is_name.kp T.F_is_name.b .nil pass0 (pa_cons (pv 1) pa_nil))))
 (pss_one ps_dead)
 pss_nil)
 (pss_cons (ps_if (pt_cmpR (op_notInD hu65) (pv 1) (pv 0) rfl)
 (pss_one ps_dead)
 pss_nil)
 (pss_one (ps_if (pt_cmpR (op_inD hu65) (pv 1) (pv 2) rfl)
 (pss_one ps_dead)
 pss_nil)))), ?_⟩
    refine q_when (b := false) (et_not (et_B (ev_call (ea_cons (ev_var rfl) ea_nil) (spv_name hl hn)))) (fun h => nomatch h) fun _ H1 e1 => ?_
    refine q_when (b := false) (et_is (et_test (ev_op (ev_var rfl) (ev_var rfl) (rv_ninStrs (e1 _ _ hp) (ok_of_name hn) fun y hy => ok_of_name (ha y (List.mem_append_left _ hy))))) (by rw [decide_eq_true hm] <;> rfl)) (fun h => nomatch h) fun _ H2 e2 => ?_
    exact s_when (b := false) (et_is (et_test (ev_op (ev_var rfl) (ev_var rfl) (rv_inStrs (e2 _ _ (e1 _ _ hq)) (ok_of_name hn) fun y hy => ok_of_name (ha y (List.mem_append_right _ hy))))) (decide_eq_false hw)) (fun h => nomatch h) fun _ H3 e3 => k H3 (e1.trans (e2.trans e3))
end
end Mv
/-! Orders and dependencies: made, written out. -/
namespace Mv
open PySem PySem.Spec PyProof.Rows L2 Evl
theorem nameA : nameB "a" = true := by decide +kernel
theorem nameC : nameB "b" = true := by decide +kernel
theorem ne_ins {H : Hp} {p q C dx : Addr} {fs : List (Str × V)} {xs : List V} (h : H p = some (.ins C dx fs)) (h2 : H q = some (.lst xs)) : q ≠ p := fun z => by rw [z, h] at h2; cases h2
theorem ne_insT {H : Hp} {p q C dx : Addr} {fs : List (Str × V)} {xs : List V} (h : H p = some (.ins C dx fs)) (h2 : H q = some (.tup xs)) : q ≠ p := fun z => by rw [z, h] at h2; cases h2
section
variable {P : Program} {w : World} {K : PySem.W.Frag} {mg : Str → Option Value} {base : Heap} {a : Nat → Addr} {d : Nat → FuncData} {tk : Nat → Tok} {c ci : Nat → Addr} {di : Nat → FuncData}
/-! Order -/
def flO (l : Addr) : List (Str × V) := putF "own_columns" (.ref l) []
theorem flO_own (l : Addr) : (flO l).lookup ("own_columns" : Str) = some (.ref l) := by
  unfold flO
  rw [lookup_putF, if_pos rfl]
def sp_Order_init (C : Addr) : Sp := fun vs H Q _ => ∃ (p dx q : Addr) (zs : List Str), vs = [.ref p, .ref q] ∧ H p = some (.ins C dx []) ∧ H q = some (.lst (zs.map V.str)) ∧ 1 ≤ zs.length ∧ zs.length ≤ 5 ∧ (∀ z ∈ zs, nameB z = true ∧ z.length ≤ 1000) ∧ zs.Nodup ∧
  ∀ l H2, H l = none → ExB p H H2 → H2 p = some (.ins C dx (flO l)) → H2 l = some (.lst (zs.map V.str)) → Q .non H2
theorem ok_Order_init (T : All K mg a d tk c ci di) : FnOk P w K mg base CX0 3 (a 18) (d 18) ["self", "columns"] (sp_Order_init (c 19)) := by
  refine T.F_Order_init.ok sc_Order_init (fun vs H Q E h => ?_) (fun cdv A outer s H vs Q E hr h => ?_)
  · obtain ⟨p, dx, q, zs, rfl, _⟩ := h
    rfl
  · obtain ⟨p, dx, q, zs, rfl, hp, hq, h1, h5, hz, hnd, k⟩ := h
    have nd := sc_Order_init.nd
    refine ⟨_, (pss_one (ps_fld (pv 0) (pe_call (ok_checked_columns T) (hr.mono (by decide)) rfl T.F_checked_columns.m T.F_checked_columns.kp T.F_checked_columns.b .nil pass0 (pa_cons (pv 1) pa_nil)) rfl)), ?_⟩
    refine ⟨_, rfl, q, zs, rfl, hq, h1, h5, hz, hnd, fun l H2 hl e2 h2 => ?_⟩
    refine ⟨_, rfl, p, c 19, dx, _, rfl, e2 _ _ hp, T.C_Order, T.A_Order_own_columns, (by show 0 < 1000; decide), ?_⟩
    have npl : l ≠ p := fun z => by rw [z, hp] at hl; cases hl
    exact k l _ hl (Ex.b e2).own upd_same (by rw [upd_ne npl]; exact h2)
/-- the text of an order -/
def txO (d : PyData) : Str := (("" : Str) ++ "Order(") ++ d.shown ++ ")"
def sp_Order_repr (K : PySem.W.Frag) (C : Addr) : Sp := fun vs H Q _ => ∃ (p dx l : Addr) (d : PyData), vs = [.ref p] ∧ H p = some (.ins C dx (flO l)) ∧ Dp K H (.ref l) d ∧ d.showable = true ∧ d.hasDict = false ∧ d.depth ≤ 60 ∧ d.shown.length ≤ 10000 ∧ RetV (.str (txO d)) H Q
theorem app_len (x y : Str) : (x ++ y).length = x.length + y.length := by
  show (x.cps ++ y.cps).size = x.cps.size + y.cps.size
  exact Array.size_append
theorem ok_Order_repr (T : All K mg a d tk c ci di) : FnG P w K mg base CX0 1 (a 19) (d 19) ["self"] (sp_Order_repr K (c 19)) := by
  refine T.F_Order_repr.okG sc_Order_repr (fun vs H Q E h => ?_) (fun cdv A outer s H vs Q E hgd hr h => ?_)
  · obtain ⟨p, dx, l, dd, rfl, _⟩ := h
    rfl
  · obtain ⟨p, dx, l, dd, rfl, hp, hd, s1, s2, s3, s4, k⟩ := h
    have nd := sc_Order_repr.nd
    refine ⟨_, (pss_one (ps_ret (pe_joined (.cons pe_str (.cons (pe_fmtD hgd hr.units (pe_fld (pv 0) rfl)) (.cons pe_str .nil)))))), ?_⟩
    refine ⟨_, rfl, sz_of (by decide +kernel), _, rfl, p, c 19, dx, _, _, rfl, hp, T.C_Order, T.A_Order_own_columns, flO_own l, l, dd, rfl, hd, s1, s2, s3, sz_of (by omega), _, rfl, ?_⟩
    have e0 : (Str.empty ++ ("Order(" : Str)).length ≤ 10 := by decide +kernel
    have e1 : ((")" : Str)).length ≤ 10 := by decide +kernel
    refine ⟨sz_of (by rw [app_len]; omega), _, rfl, sz_of (by rw [app_len, app_len]; omega), ?_⟩
    exact k H (Ex.refl H)
/-! Dependencies -/
def sp_checked_pair : Sp := fun vs H Q _ => ∃ p t e : Addr, vs = [.ref p, .ref t] ∧ H p = some (.lst [.str "a"]) ∧ H t = some (.tup [.ref e, .str "a"]) ∧ H e = some (.lst []) ∧ ∀ u v H2, H u = none → H v = none → Ex H H2 → H2 u = some (.tup [.ref v, .str "a"]) → H2 v = some (.lst []) → Q (.ref u) H2
theorem ok_checked_pair (T : All K mg a d tk c ci di) : FnOk P w K mg base CX0 3 (a 4) (d 4) ["known", "value"] sp_checked_pair := by
  refine T.F_checked_pair.fn.ok sc_checked_pair (fun vs H Q E h => ?_) (fun cdv A outer s H vs Q E hr h => ?_)
  · obtain ⟨p, t, e, rfl, _⟩ := h
    rfl
  · obtain ⟨p, t, e, rfl, hp, ht, he, k⟩ := h
    have nd := sc_checked_pair.nd
    refine ⟨_, (pss_cons (ps_if (PW.pt (pw_or (pt_not (pt_val (pe_callB call_isi (by rfl) T.n_isinstance PyProof.Rows.boot_isinstance (pa_cons (pv 1) (pa_cons (pe_bltn (v := .ty "tuple") rfl T.n_tuple PyProof.Rows.boot_tuple rfl) pa_nil))))) (pw_or (pt_cmpR op_ne (pe_callB call_len_seq (by rfl) T.n_len PySem.boot_len (pa_cons (pv 1) pa_nil)) pe_int (nomark _)) (pw_or (pt_not (pt_val (pe_call (ok_is_list T) (hr.mono (by decide)) rfl T.F_is_list.m T.F_is_list.kp T.F_is_list.b .nil pass0 (pa_cons (pe_ix ix_tup (pv 1) pe_int (fun _ _ => rfl)) pa_nil)))) (pw_or1 (pt_cmpR op_gt (pe_callB call_len_seq (by rfl) T.n_len PySem.boot_len (pa_cons (pe_ix ix_tup (pv 1) pe_int (fun _ _ => rfl)) pa_nil)) (pe_glob (v := .int 5) rfl T.c_MOST_COLUMNS ⟨_, rfl⟩) (nomark _)))))))
 (pss_one ps_dead)
 pss_nil)
 (pss_cons (ps_asg (pv 1) (pg_tup rfl (pgs_cons (pg_name (i := 2) nd rfl (Or.inl rfl)) (pgs_cons (pg_name (i := 3) nd rfl (Or.inl rfl)) pgs_nil))) (hw := by rfl))
 (pss_cons (ps_for PassesOwn.never rfl (pi_enumS rfl T.n_enumerate (pa_cons (pv 2) pa_nil)) (pg_tup rfl (pgs_cons (pg_name (i := 4) nd rfl (Or.inl rfl)) (pgs_cons (pg_name (i := 5) nd rfl (Or.inl rfl)) pgs_nil)))
 (pss_one (ps_expr (pe_call (ok_need_column T) (hr.mono (by decide)) rfl T.F_need_column.m T.F_need_column.kp T.F_need_column.b .nil pass0 (pa_cons (pv 0) (pa_cons (pv 5) (pa_cons (pe_slice sl_list (pv 2) po_none (po_some (pv 4))) pa_nil)))))))
 (pss_cons (ps_expr (pe_call (ok_need_column T) (hr.mono (by decide)) rfl T.F_need_column.m T.F_need_column.kp T.F_need_column.b .nil pass0 (pa_cons (pv 0) (pa_cons (pv 3) (pa_cons (pv 2) pa_nil)))))
 (pss_one (ps_ret (pe_tup (pa_cons (pe_callB cr_sorted1 (by rfl) T.n_sorted PyProof.Rows.boot_sorted (pa_cons (pv 2) pa_nil)) (pa_cons (pv 3) pa_nil))))))))), ?_⟩
    have g0 : ∀ {H1 : Hp} {σ1 : L2.St}, σ1[1]? = some (some (.ref t)) → Ex H H1 → Ev (tOp (rIxT K) (tVar 1) (tC (.int 0))) σ1 H1 (.ref e) := fun hσ e1 => ev_op (ev_var hσ) ev_c (rv_ixT (st_of (e1 _ _ ht)) rfl)
    have hT : Ev (tCB (rIsi K) (tCons (tVar 1) (tCons (tC (.ty "tuple")) tNil))) (start N_checked_pair [V.ref p, V.ref t]) H (.bl true) := ev_isi (ev_var rfl) (ty_tup ht) (kit_ty (by decide +kernel))
    refine q_when (b := false) (et_or (a := false) (et_is (et_not (et_B hT)) rfl) fun _ => et_or (a := false) (et_is (et_test (ev_op (ev_lenS (ev_var rfl) (.inr ht)) ev_c (rv_ne rfl))) rfl) fun _ => et_or (a := false) (et_is (et_not (et_B (ev_call (ea_cons (g0 rfl (Ex.refl H)) ea_nil) (spv_is_list (.inl he))))) rfl) fun _ => et_is (et_test (ev_I0 (g := fun i j => V.bl (decide (j < i))) (j := 5) (ev_lenS (g0 rfl (Ex.refl H)) (.inl he)) ev_c)) (by decide)) (fun h => nomatch h) fun _ H1 e1 => ?_
    refine ⟨_, rfl, t, _, rfl, st_of (e1 _ _ ht), rfl, ?_⟩
    refine ⟨_, _, rfl, _, _, rfl, rfl, .inl ⟨_, rfl, e, [], rfl, sq_of (e1 _ _ he), for_it (walk_enum (K := K) (a := e) (xs := [])) (fun i σ' H' => Ex H H' ∧ σ' = [some (.ref p), some (.ref t), some (.ref e), some (.str "a"), none, none]) ⟨e1, rfl⟩ (fun i σ' H' _ q => sq_of (q.1 _ _ he)) (fun i x σ' H' H'' hi _ _ => absurd hi (Nat.not_lt_zero _)) ?_⟩⟩
    rintro σ' H2 ⟨e2, rfl⟩
    refine q_drop (v := .non) (ev_call (ea_cons (ev_var rfl) (ea_cons (ev_var rfl) (ea_cons (ev_var rfl) ea_nil))) (fun H3 e3 Q' q' _ => ⟨p, e, ["a"], [], "a", rfl, (e2.trans e3) _ _ hp, (e2.trans e3) _ _ he, nameA, by decide +kernel, List.mem_singleton.mpr rfl, (fun h => nomatch h), (fun z hz => by rw [List.mem_singleton.mp hz]; exact nameA), q'⟩)) fun H3 e3 => ?_
    have e23 := e2.trans e3
    refine ⟨_, rfl, e, [], rfl, sq_of (e23 _ _ he), (by show 0 < 2; decide), fun v hv => ⟨_, rfl, (by show 2 ≤ sizeLine; decide), fun u hu => ?_⟩⟩
    have eV : Ex H3 (upd H3 v (.lst [])) := Ex.new hv
    have eU : Ex (upd H3 v (.lst [])) (upd (upd H3 v (.lst [])) u (.tup [.ref v, .str "a"])) := Ex.new hu
    exact k u v _ (fresh_back (e23.trans eV) hu) (fresh_back e23 hv) (e23.trans (eV.trans eU)) upd_same (eU _ _ upd_same)
def flD (l m : Addr) : List (Str × V) := putF "own_pairs" (.ref m) (putF "own_columns" (.ref l) [])
theorem kOP : ¬ (("own_columns" : Str) = "own_pairs") := by decide +kernel
theorem flD_cols (l m : Addr) : (flD l m).lookup ("own_columns" : Str) = some (.ref l) := by
  unfold flD
  rw [lookup_putF, if_neg kOP, lookup_putF, if_pos rfl]
theorem flD_pairs (l m : Addr) : (flD l m).lookup ("own_pairs" : Str) = some (.ref m) := by
  unfold flD
  rw [lookup_putF, if_pos rfl]
/-- what Dependencies(["a"], [([], "a")]) leaves -/
structure DepAt (C dx : Addr) (H : Hp) (p l m u v : Addr) : Prop where
  p : H p = some (.ins C dx (flD l m))
  l : H l = some (.lst [.str "a"])
  m : H m = some (.lst [.ref u])
  u : H u = some (.tup [.ref v, .str "a"])
  v : H v = some (.lst [])
def sp_Dependencies_init (C : Addr) : Sp := fun vs H Q _ => ∃ p dx q r t e : Addr, vs = [.ref p, .ref q, .ref r] ∧ H p = some (.ins C dx []) ∧ H q = some (.lst [.str "a"]) ∧ H r = some (.lst [.ref t]) ∧ H t = some (.tup [.ref e, .str "a"]) ∧ H e = some (.lst []) ∧
  ∀ l m u v H2, ExB p H H2 → DepAt C dx H2 p l m u v → (∀ b, b = l ∨ b = m ∨ b = u ∨ b = v → H b = none) → Q .non H2
theorem ok_Dependencies_init (T : All K mg a d tk c ci di) : FnOk P w K mg base CX0 4 (a 20) (d 20) ["self", "columns", "pairs"] (sp_Dependencies_init (c 20)) := by
  refine T.F_Dependencies_init.ok sc_Dependencies_init (fun vs H Q E h => ?_) (fun cdv A outer s H vs Q E hr h => ?_)
  · obtain ⟨p, dx, q, r, t, e, rfl, _⟩ := h
    rfl
  · obtain ⟨p, dx, q, r, t, e, rfl, hp, hq, hrr, ht, he, k⟩ := h
    have nd := sc_Dependencies_init.nd
    have hu65 := hu65_of hr
    refine ⟨_, (pss_cons (ps_fld (pv 0) (pe_call (ok_checked_columns T) (hr.mono (by decide)) rfl T.F_checked_columns.m T.F_checked_columns.kp T.F_checked_columns.b .nil pass0 (pa_cons (pv 1) pa_nil)) rfl)
 (pss_cons (ps_if (PW.pt (pw_or (pt_not (pt_val (pe_call (ok_is_list T) (hr.mono (by decide)) rfl T.F_is_list.m T.F_is_list.kp T.F_is_list.b .nil pass0 (pa_cons (pv 2) pa_nil)))) (pw_or1 (pt_cmpR op_gt (pe_callB call_len_seq (by rfl) T.n_len PySem.boot_len (pa_cons (pv 2) pa_nil)) (pe_glob (v := .int 10) rfl T.c_MOST_PAIRS ⟨_, rfl⟩) (nomark _)))))
 (pss_one ps_dead)
 pss_nil)
 (pss_cons (ps_set (i := 3) nd rfl (Or.inl rfl) (pe_lst pa_nil))
 (pss_cons (ps_for PassesOwn.never rfl (pi_seq (pv 2)) (pg_name (i := 4) nd rfl (Or.inl rfl))
 (pss_cons (ps_set (i := 5) nd rfl (Or.inl rfl) (pe_call (ok_checked_pair T) (hr.mono (by decide)) rfl T.F_checked_pair.m T.F_checked_pair.kp T.F_checked_pair.b .nil pass0 (pa_cons (pe_fld (pv 0) rfl) (pa_cons (pv 4) pa_nil))))
 (pss_one (ps_if (pt_cmpR (op_notInD hu65) (pv 5) (pv 3) rfl)
 (pss_one (ps_expr (pe_bm PySem.F.plainAttrs_list PySem.F.slot_list_append PySem.F.type_list_append mt_append (pv 3) (pa_cons (pv 5) pa_nil))))
 pss_nil))))
 (pss_one (ps_fld (pv 0) (pe_callB cr_sorted1 (by rfl) T.n_sorted PyProof.Rows.boot_sorted (pa_cons (pv 3) pa_nil)) rfl)))))), ?_⟩
    have nr := ne_ins hp hrr
    have nt := ne_insT hp ht
    have ne := ne_ins hp he
    refine ⟨_, rfl, q, ["a"], rfl, hq, by decide, by decide, (fun z hz => by rw [List.mem_singleton.mp hz]; exact ⟨nameA, by decide +kernel⟩), (by simp), fun l H1 hl e1 h1 => ?_⟩
    refine ⟨_, rfl, p, c 20, dx, _, rfl, e1 _ _ hp, T.C_Dependencies, T.A_Dependencies_own_columns, (by show 0 < 1000; decide), ?_⟩
    have npl : l ≠ p := fun z => by rw [z, hp] at hl; cases hl
    generalize hG : upd H1 p (.ins (c 20) dx (putF "own_columns" (.ref l) [])) = G
    have eB : ExB p H G := by rw [← hG]; exact (Ex.b e1).own
    have gp : G p = some (.ins (c 20) dx (putF "own_columns" (.ref l) [])) := by rw [← hG, upd_same]
    have gl : G l = some (.lst [.str "a"]) := by rw [← hG, upd_ne npl]; exact h1
    have gr := eB _ _ nr hrr
    have gt := eB _ _ nt ht
    have ge := eB _ _ ne he
    dsimp only
    have hL : Ev (tCB (rLenS K) (tCons (tVar 2) tNil)) (start N_Dependencies_init [V.ref p, V.ref q, V.ref r]) G (.int ((1 : Nat) : Int)) := ev_lenS (xs := [V.ref t]) (ev_var rfl) (.inl gr)
    refine q_when (b := false) (et_or (a := false) (et_is (et_not (et_B (ev_call (ea_cons (ev_var (i := 2) rfl) ea_nil) (spv_is_list (.inl gr))))) rfl) fun _ => et_is (et_test (ev_I0 (g := fun i j => V.bl (decide (j < i))) (j := 10) hL ev_c)) (by decide)) (fun h => nomatch h) fun _ H2 e2 => ?_
    refine q_asgL (el_lst ea_nil (by decide)) fun f H3 hf e3 h3 => ?_
    have e23 := e2.trans e3
    have hfG : G f = none := fresh_back e2 hf
    let Pv : Nat → L2.St → Hp → Prop := fun i σ' H' => Ex G H' ∧ (i = 0 → H' f = some (.lst []) ∧ ∃ v1 v2, σ' = [some (.ref p), some (.ref q), some (.ref r), some (.ref f), v1, v2]) ∧ (i = 1 → ∃ u v v1 v2, σ' = [some (.ref p), some (.ref q), some (.ref r), some (.ref f), v1, v2] ∧ H' f = some (.lst [.ref u]) ∧ H' u = some (.tup [.ref v, .str "a"]) ∧ H' v = some (.lst []) ∧ G u = none ∧ G v = none)
    refine .inl ⟨_, rfl, r, rfl, ⟨_, sq_of (e23 _ _ gr)⟩, for_list (K := K) (a := r) (xs := [.ref t]) Pv ⟨e23, (fun _ => ⟨h3, _, _, rfl⟩), fun h => nomatch h⟩ (fun i σ' H' _ q => sq_of (q.1 _ _ gr)) ?_ ?_⟩
    · rintro i x σ' H4 hi ⟨e4, h0, _⟩
      have i0 : i = 0 := by
        have := (List.getElem?_eq_some_iff.mp hi).1
        simp only [List.length_singleton] at this
        omega
      subst i0
      obtain ⟨hf4, v1, v2, rfl⟩ := h0 rfl
      cases (Option.some.inj (show some (V.ref t) = some x from hi))
      refine ⟨_, rfl, p, c 20, dx, _, _, rfl, e4 _ _ gp, T.C_Dependencies, T.A_Dependencies_own_columns, (by rw [lookup_putF, if_pos rfl]), _, rfl, l, t, e, rfl, e4 _ _ gl, e4 _ _ gt, e4 _ _ ge, fun u v H5 hu hv e5 hu5 hv5 => ?_⟩
      have nuf : u ≠ f := fun z => by rw [z, hf4] at hu; cases hu
      have nvf : v ≠ f := fun z => by rw [z, hf4] at hv; cases hv
      have gu := fresh_back e4 hu
      have gv := fresh_back e4 hv
      refine s_when (b := true) (et_test (ev_op (ev_var rfl) (ev_var rfl) fun H6 e6 Q' q' => ⟨.tuple [.list [], .str "a"], [], .tup (st_of (e6 _ _ hu5)) (.cons (.lst (sq_of (e6 _ _ hv5)) .nil) (.cons (.str _) .nil)), .lst (sq_of (e6 _ _ (e5 _ _ hf4))) .nil, by decide +kernel, by decide +kernel, q' H6 (Ex.refl _)⟩)) (fun _ H6 e6 => ?_) fun h => nomatch h
      have e56 := e5.trans e6
      refine s_app (e56 _ _ hf4) (ev_var rfl) (ev_var rfl) (by decide) fun H7 e7 => ?_
      refine ⟨Ex.mut (e4.trans (e56.trans e7)) hfG, (fun h => nomatch h), fun _ => ⟨u, v, _, _, rfl, upd_same, ?_, ?_, gu, gv⟩⟩
      · rw [upd_ne nuf]
        exact e7 _ _ (e6 _ _ hu5)
      · rw [upd_ne nvf]
        exact e7 _ _ (e6 _ _ hv5)
    · rintro σ' H4 ⟨e4, _, h1⟩
      obtain ⟨u, v, v1, v2, rfl, hf4, hu4, hv4, gu, gv⟩ := h1 rfl
      have hp4 := e4 _ _ gp
      refine ⟨_, rfl, f, _, rfl, sq_of hf4, (by show 1 < 2; decide), fun m hm => ?_⟩
      have nmp : m ≠ p := fun z => by rw [z, hp4] at hm; cases hm
      refine ⟨_, rfl, p, c 20, dx, _, rfl, by rw [upd_ne (Ne.symm nmp)]; exact hp4, T.C_Dependencies, T.A_Dependencies_own_pairs, (by show 1 < 1000; decide), ?_⟩
      have eN : Ex H4 (upd H4 m (.lst [.ref u])) := Ex.new hm
      have eB4 : ExB p H H4 := eB.trans (Ex.b e4)
      have npu : u ≠ p := fun z => by rw [z, gp] at gu; cases gu
      have npv : v ≠ p := fun z => by rw [z, gp] at gv; cases gv
      refine k l m u v _ (eB4.trans (Ex.b eN)).own ⟨upd_same, ?_, ?_, ?_, ?_⟩ ?_
      · rw [upd_ne npl]
        exact eN _ _ (e4 _ _ gl)
      · rw [upd_ne nmp, upd_same]
      · rw [upd_ne npu]
        exact eN _ _ hu4
      · rw [upd_ne npv]
        exact eN _ _ hv4
      · rintro b (rfl | rfl | rfl | rfl)
        · exact hl
        · exact eB4.back nmp hm
        · exact eB.back npu gu
        · exact eB.back npv gv
/-- the text of a Dependencies object -/
def txD (x y : PyData) : Str := (((("" : Str) ++ "Dependencies(") ++ x.shown) ++ ", ") ++ y.shown ++ ")"
def sp_Dependencies_repr (K : PySem.W.Frag) (C : Addr) : Sp := fun vs H Q _ => ∃ (p dx l m : Addr) (x y : PyData), vs = [.ref p] ∧ H p = some (.ins C dx (flD l m)) ∧ Dp K H (.ref l) x ∧ x.showable = true ∧ x.hasDict = false ∧ x.depth ≤ 60 ∧ x.shown.length ≤ 10000 ∧
  Dp K H (.ref m) y ∧ y.showable = true ∧ y.hasDict = false ∧ y.depth ≤ 60 ∧ y.shown.length ≤ 10000 ∧ RetV (.str (txD x y)) H Q
theorem ok_Dependencies_repr (T : All K mg a d tk c ci di) : FnG P w K mg base CX0 1 (a 21) (d 21) ["self"] (sp_Dependencies_repr K (c 20)) := by
  refine T.F_Dependencies_repr.okG sc_Dependencies_repr (fun vs H Q E h => ?_) (fun cdv A outer s H vs Q E hgd hr h => ?_)
  · obtain ⟨p, dx, l, m, x, y, rfl, _⟩ := h
    rfl
  · obtain ⟨p, dx, l, m, x, y, rfl, hp, hd, s1, s2, s3, s4, hd', t1, t2, t3, t4, k⟩ := h
    have nd := sc_Dependencies_repr.nd
    refine ⟨_, (pss_one (ps_ret (pe_joined (.cons pe_str (.cons (pe_fmtD hgd hr.units (pe_fld (pv 0) rfl)) (.cons pe_str (.cons (pe_fmtD hgd hr.units (pe_fld (pv 0) rfl)) (.cons pe_str .nil)))))))), ?_⟩
    have e0 : (Str.empty ++ ("Dependencies(" : Str)).length ≤ 20 := by decide +kernel
    have e1 : ((")" : Str)).length ≤ 10 := by decide +kernel
    have e2 : ((", " : Str)).length ≤ 10 := by decide +kernel
    refine ⟨_, rfl, sz_of (by decide +kernel), _, rfl, p, c 20, dx, _, _, rfl, hp, T.C_Dependencies, T.A_Dependencies_own_columns, flD_cols l m, l, x, rfl, hd, s1, s2, s3, sz_of (by omega), _, rfl, ?_⟩
    refine ⟨sz_of (by rw [app_len]; omega), _, rfl, sz_of (by rw [app_len, app_len]; omega), ?_⟩
    refine ⟨_, rfl, p, c 20, dx, _, _, rfl, hp, T.C_Dependencies, T.A_Dependencies_own_pairs, flD_pairs l m, m, y, rfl, hd', t1, t2, t3, sz_of (by omega), _, rfl, ?_⟩
    refine ⟨sz_of (by rw [app_len, app_len, app_len]; omega), _, rfl, sz_of (by rw [app_len, app_len, app_len, app_len]; omega), ?_⟩
    exact k H (Ex.refl H)
end
end Mv
/-! Every exception, raised. -/
namespace Mv
open PySem PySem.Spec PyProof.Rows L2 Evl
def nms : List Str := ["InvalidPairs", "InvalidPair", "InvalidDependencies", "InvalidWide", "InvalidRequest", "InvalidRequests", "DuplicateRequest", "InvalidKept", "InvalidJoin", "InvalidJoins", "InvalidTables", "Ring", "UnknownPair", "NotJoined", "Broken", "PairKept"]
def nm (i : Nat) : Str := nms.getD i ""
def fls (i : Nat) : List Str := ([["value"], ["value"], ["value"], ["value"], ["value"], ["value"], ["request"], ["value"], ["value"], ["value"], ["value"], ["index"], ["pair"], ["one", "other"], ["pair", "one", "other"], ["pair"]] : List (List Str)).getD i []
theorem nm_inj : ∀ i : Fin 16, ∀ j : Fin 16, nm i.1 = nm j.1 → i = j := by decide +kernel
theorem nm_at {i j : Nat} (hi : i < 16) (hj : j < 16) (h : nm i = nm j) : i = j := congrArg Fin.val (nm_inj ⟨i, hi⟩ ⟨j, hj⟩ h)
theorem nm_dec {i j : Nat} (hi : i < 16) (hj : j < 16) : decide (V.str (nm i) = V.str (nm j)) = decide (i = j) := decide_eq_decide.mpr ⟨fun h => nm_at hi hj (by injection h), fun h => by rw [h]⟩
theorem at0 {x : V} {r : List V} : atI (x :: r) 0 = some x := atI_nat (j := 0) rfl
theorem at1 {x y : V} {r : List V} : atI (x :: y :: r) 1 = some y := atI_nat (j := 1) rfl
theorem at2 {x y z : V} {r : List V} : atI (x :: y :: z :: r) 2 = some z := atI_nat (j := 2) rfl
theorem len1 {α : Type} {xs : List α} (h : 1 ≤ xs.length) : ∃ x r, xs = x :: r := by
  match xs, h with
  | x :: r, _ => exact ⟨x, r, rfl⟩
theorem len2 {α : Type} {xs : List α} (h : 2 ≤ xs.length) : ∃ x y r, xs = x :: y :: r := by
  match xs, h with
  | x :: y :: r, _ => exact ⟨x, y, r, rfl⟩
theorem len3 {α : Type} {xs : List α} (h : 3 ≤ xs.length) : ∃ x y z r, xs = x :: y :: z :: r := by
  match xs, h with
  | x :: y :: z :: r, _ => exact ⟨x, y, z, r, rfl⟩
/-- raised: the class of the word, its dict new -/
def Rsd (c : Nat → Addr) (i : Nat) (xs : List V) (H : Hp) (E : XK) : Prop := ∀ dx H', H dx = none → Ex H H' → H' dx = some (.xd ((fls i).zip xs).reverse) → E (.ref (c i)) (some dx) H'
def sp__law_raise (c : Nat → Addr) (S : Nat → Prop) : Sp := fun vs H _ E => ∃ (i : Nat) (v : Addr) (xs : List V) (b : Bool), vs = [.str (nm i), .ref v, .bl b] ∧ i < 16 ∧ S i ∧ H v = some (.lst xs) ∧ (fls i).length ≤ xs.length ∧ Rsd c i xs H E
section
variable {P : Program} {w : World} {K : PySem.W.Frag} {mg : Str → Option Value} {base : Heap} {a : Nat → Addr} {d : Nat → FuncData} {tk : Nat → Tok} {c ci : Nat → Addr} {di : Nat → FuncData}

def Smore : Nat → Prop := fun i => i = 9 ∨ i = 10 ∨ i = 6 ∨ i = 11 ∨ i = 12 ∨ i = 13 ∨ i = 14 ∨ i = 15
theorem ok__law_raise_more (T : All K mg a d tk c ci di) : FnOk P w K mg base (L2.CX P w) 3 (a 12) (d 12) ["word", "values", "by_name"] (sp__law_raise c Smore) := by
  refine T.F__law_raise_more.fn.okX sc__law_raise_more (fun vs H Q E h => ?_) (fun cdv A outer s H vs Q E hr h => ?_)
  · obtain ⟨i, v, xs, b, rfl, _⟩ := h
    rfl
  · obtain ⟨i, v, xs, b, rfl, hi, hS, hv, hlen, k⟩ := h
    have nd := sc__law_raise_more.nd
    refine ⟨_, (pss_cons (ps_if (PW.pt (pw_and (pt_cmpR op_eq (pv 0) pe_str (nomark _)) (pw_and1 (pt_val (pv 2)))))
 (pss_one (ps_raise rfl (takes_of rfl rfl rfl rfl) (pmk_rzK (exT_InvalidJoins T) (hr.mono (by decide)) rfl (pk_cons (pe_ix ix_list (pv 1) pe_int (fun _ _ => rfl)) pk_nil))))
 pss_nil)
 (pss_cons (ps_if (pt_cmpR op_eq (pv 0) pe_str (nomark _))
 (pss_one (ps_raise rfl (takes_of rfl rfl rfl rfl) (pmk_rz (exT_InvalidJoins T) (hr.mono (by decide)) rfl (by decide) (pa_cons (pe_ix ix_list (pv 1) pe_int (fun _ _ => rfl)) pa_nil))))
 pss_nil)
 (pss_cons (ps_if (PW.pt (pw_and (pt_cmpR op_eq (pv 0) pe_str (nomark _)) (pw_and1 (pt_val (pv 2)))))
 (pss_one (ps_raise rfl (takes_of rfl rfl rfl rfl) (pmk_rzK (exT_InvalidTables T) (hr.mono (by decide)) rfl (pk_cons (pe_ix ix_list (pv 1) pe_int (fun _ _ => rfl)) pk_nil))))
 pss_nil)
 (pss_cons (ps_if (pt_cmpR op_eq (pv 0) pe_str (nomark _))
 (pss_one (ps_raise rfl (takes_of rfl rfl rfl rfl) (pmk_rz (exT_InvalidTables T) (hr.mono (by decide)) rfl (by decide) (pa_cons (pe_ix ix_list (pv 1) pe_int (fun _ _ => rfl)) pa_nil))))
 pss_nil)
 (pss_cons (ps_if (PW.pt (pw_and (pt_cmpR op_eq (pv 0) pe_str (nomark _)) (pw_and1 (pt_val (pv 2)))))
 (pss_one (ps_raise rfl (takes_of rfl rfl rfl rfl) (pmk_rzK (exT_DuplicateRequest T) (hr.mono (by decide)) rfl (pk_cons (pe_ix ix_list (pv 1) pe_int (fun _ _ => rfl)) pk_nil))))
 pss_nil)
 (pss_cons (ps_if (pt_cmpR op_eq (pv 0) pe_str (nomark _))
 (pss_one (ps_raise rfl (takes_of rfl rfl rfl rfl) (pmk_rz (exT_DuplicateRequest T) (hr.mono (by decide)) rfl (by decide) (pa_cons (pe_ix ix_list (pv 1) pe_int (fun _ _ => rfl)) pa_nil))))
 pss_nil)
 (pss_cons (ps_if (PW.pt (pw_and (pt_cmpR op_eq (pv 0) pe_str (nomark _)) (pw_and1 (pt_val (pv 2)))))
 (pss_one (ps_raise rfl (takes_of rfl rfl rfl rfl) (pmk_rzK (exT_Ring T) (hr.mono (by decide)) rfl (pk_cons (pe_ix ix_list (pv 1) pe_int (fun _ _ => rfl)) pk_nil))))
 pss_nil)
 (pss_cons (ps_if (pt_cmpR op_eq (pv 0) pe_str (nomark _))
 (pss_one (ps_raise rfl (takes_of rfl rfl rfl rfl) (pmk_rz (exT_Ring T) (hr.mono (by decide)) rfl (by decide) (pa_cons (pe_ix ix_list (pv 1) pe_int (fun _ _ => rfl)) pa_nil))))
 pss_nil)
 (pss_cons (ps_if (PW.pt (pw_and (pt_cmpR op_eq (pv 0) pe_str (nomark _)) (pw_and1 (pt_val (pv 2)))))
 (pss_one (ps_raise rfl (takes_of rfl rfl rfl rfl) (pmk_rzK (exT_UnknownPair T) (hr.mono (by decide)) rfl (pk_cons (pe_ix ix_list (pv 1) pe_int (fun _ _ => rfl)) pk_nil))))
 pss_nil)
 (pss_cons (ps_if (pt_cmpR op_eq (pv 0) pe_str (nomark _))
 (pss_one (ps_raise rfl (takes_of rfl rfl rfl rfl) (pmk_rz (exT_UnknownPair T) (hr.mono (by decide)) rfl (by decide) (pa_cons (pe_ix ix_list (pv 1) pe_int (fun _ _ => rfl)) pa_nil))))
 pss_nil)
 (pss_cons (ps_if (PW.pt (pw_and (pt_cmpR op_eq (pv 0) pe_str (nomark _)) (pw_and1 (pt_val (pv 2)))))
 (pss_one (ps_raise rfl (takes_of rfl rfl rfl rfl) (pmk_rzK (exT_NotJoined T) (hr.mono (by decide)) rfl (pk_cons (pe_ix ix_list (pv 1) pe_int (fun _ _ => rfl)) (pk_cons (pe_ix ix_list (pv 1) pe_int (fun _ _ => rfl)) pk_nil)))))
 pss_nil)
 (pss_cons (ps_if (pt_cmpR op_eq (pv 0) pe_str (nomark _))
 (pss_one (ps_raise rfl (takes_of rfl rfl rfl rfl) (pmk_rz (exT_NotJoined T) (hr.mono (by decide)) rfl (by decide) (pa_cons (pe_ix ix_list (pv 1) pe_int (fun _ _ => rfl)) (pa_cons (pe_ix ix_list (pv 1) pe_int (fun _ _ => rfl)) pa_nil)))))
 pss_nil)
 (pss_cons (ps_if (PW.pt (pw_and (pt_cmpR op_eq (pv 0) pe_str (nomark _)) (pw_and1 (pt_val (pv 2)))))
 (pss_one (ps_raise rfl (takes_of rfl rfl rfl rfl) (pmk_rzK (exT_Broken T) (hr.mono (by decide)) rfl (pk_cons (pe_ix ix_list (pv 1) pe_int (fun _ _ => rfl)) (pk_cons (pe_ix ix_list (pv 1) pe_int (fun _ _ => rfl)) (pk_cons (pe_ix ix_list (pv 1) pe_int (fun _ _ => rfl)) pk_nil))))))
 pss_nil)
 (pss_cons (ps_if (pt_cmpR op_eq (pv 0) pe_str (nomark _))
 (pss_one (ps_raise rfl (takes_of rfl rfl rfl rfl) (pmk_rz (exT_Broken T) (hr.mono (by decide)) rfl (by decide) (pa_cons (pe_ix ix_list (pv 1) pe_int (fun _ _ => rfl)) (pa_cons (pe_ix ix_list (pv 1) pe_int (fun _ _ => rfl)) (pa_cons (pe_ix ix_list (pv 1) pe_int (fun _ _ => rfl)) pa_nil))))))
 pss_nil)
 (pss_cons (ps_if (PW.pt (pw_and (pt_cmpR op_eq (pv 0) pe_str (nomark _)) (pw_and1 (pt_val (pv 2)))))
 (pss_one (ps_raise rfl (takes_of rfl rfl rfl rfl) (pmk_rzK (exT_PairKept T) (hr.mono (by decide)) rfl (pk_cons (pe_ix ix_list (pv 1) pe_int (fun _ _ => rfl)) pk_nil))))
 pss_nil)
 (pss_one (ps_if (pt_cmpR op_eq (pv 0) pe_str (nomark _))
 (pss_one (ps_raise rfl (takes_of rfl rfl rfl rfl) (pmk_rz (exT_PairKept T) (hr.mono (by decide)) rfl (by decide) (pa_cons (pe_ix ix_list (pv 1) pe_int (fun _ _ => rfl)) pa_nil))))
 pss_nil))))))))))))))))), ?_⟩
    have e0 : Ex H H := Ex.refl H
    refine q_when (σ := start N__law_raise_more [V.str (nm i), V.ref v, V.bl b]) (et_and (et_is (et_test (ev_op (ev_var (i := 0) rfl) ev_c (rv_eq rfl))) (nm_dec (j := 9) hi (by decide))) fun _ => et_B (ev_var (i := 2) rfl)) (fun hb G1 z1 => ?_) fun hb G1 z1 => ?_
    · have f1 := e0.trans z1
      have hk : i = 9 := of_decide_eq_true ((Bool.and_eq_true _ _).mp hb).1
      subst hk
      obtain ⟨x0, r, rfl⟩ := len1 hlen
      exact (ea_cons (ev_ixL (K := K) (i := 0) (ev_var (i := 1) rfl) ev_c (sq_of (f1 _ _ hv)) at0) ea_nil) G1 (Ex.refl _) _ fun H2 e2 => ⟨rfl, fun dx hd => k dx _ (fresh_back (f1.trans e2) hd) ((f1.trans e2).trans (Ex.new hd)) upd_same⟩
    have f1 := e0.trans z1
    refine q_when (σ := start N__law_raise_more [V.str (nm i), V.ref v, V.bl b]) (et_is (et_test (ev_op (ev_var (i := 0) rfl) ev_c (rv_eq rfl))) (nm_dec (j := 9) hi (by decide))) (fun hb G2 z2 => ?_) fun hb G2 z2 => ?_
    · have f2 := f1.trans z2
      have hk : i = 9 := of_decide_eq_true hb
      subst hk
      obtain ⟨x0, r, rfl⟩ := len1 hlen
      exact (ea_cons (ev_ixL (K := K) (i := 0) (ev_var (i := 1) rfl) ev_c (sq_of (f2 _ _ hv)) at0) ea_nil) G2 (Ex.refl _) _ fun H2 e2 => ⟨rfl, fun dx hd => k dx _ (fresh_back (f2.trans e2) hd) ((f2.trans e2).trans (Ex.new hd)) upd_same⟩
    have f2 := f1.trans z2
    have n9 : i ≠ 9 := of_decide_eq_false hb
    refine q_when (σ := start N__law_raise_more [V.str (nm i), V.ref v, V.bl b]) (et_and (et_is (et_test (ev_op (ev_var (i := 0) rfl) ev_c (rv_eq rfl))) (nm_dec (j := 10) hi (by decide))) fun _ => et_B (ev_var (i := 2) rfl)) (fun hb G3 z3 => ?_) fun hb G3 z3 => ?_
    · have f3 := f2.trans z3
      have hk : i = 10 := of_decide_eq_true ((Bool.and_eq_true _ _).mp hb).1
      subst hk
      obtain ⟨x0, r, rfl⟩ := len1 hlen
      exact (ea_cons (ev_ixL (K := K) (i := 0) (ev_var (i := 1) rfl) ev_c (sq_of (f3 _ _ hv)) at0) ea_nil) G3 (Ex.refl _) _ fun H2 e2 => ⟨rfl, fun dx hd => k dx _ (fresh_back (f3.trans e2) hd) ((f3.trans e2).trans (Ex.new hd)) upd_same⟩
    have f3 := f2.trans z3
    refine q_when (σ := start N__law_raise_more [V.str (nm i), V.ref v, V.bl b]) (et_is (et_test (ev_op (ev_var (i := 0) rfl) ev_c (rv_eq rfl))) (nm_dec (j := 10) hi (by decide))) (fun hb G4 z4 => ?_) fun hb G4 z4 => ?_
    · have f4 := f3.trans z4
      have hk : i = 10 := of_decide_eq_true hb
      subst hk
      obtain ⟨x0, r, rfl⟩ := len1 hlen
      exact (ea_cons (ev_ixL (K := K) (i := 0) (ev_var (i := 1) rfl) ev_c (sq_of (f4 _ _ hv)) at0) ea_nil) G4 (Ex.refl _) _ fun H2 e2 => ⟨rfl, fun dx hd => k dx _ (fresh_back (f4.trans e2) hd) ((f4.trans e2).trans (Ex.new hd)) upd_same⟩
    have f4 := f3.trans z4
    have n10 : i ≠ 10 := of_decide_eq_false hb
    refine q_when (σ := start N__law_raise_more [V.str (nm i), V.ref v, V.bl b]) (et_and (et_is (et_test (ev_op (ev_var (i := 0) rfl) ev_c (rv_eq rfl))) (nm_dec (j := 6) hi (by decide))) fun _ => et_B (ev_var (i := 2) rfl)) (fun hb G5 z5 => ?_) fun hb G5 z5 => ?_
    · have f5 := f4.trans z5
      have hk : i = 6 := of_decide_eq_true ((Bool.and_eq_true _ _).mp hb).1
      subst hk
      obtain ⟨x0, r, rfl⟩ := len1 hlen
      exact (ea_cons (ev_ixL (K := K) (i := 0) (ev_var (i := 1) rfl) ev_c (sq_of (f5 _ _ hv)) at0) ea_nil) G5 (Ex.refl _) _ fun H2 e2 => ⟨rfl, fun dx hd => k dx _ (fresh_back (f5.trans e2) hd) ((f5.trans e2).trans (Ex.new hd)) upd_same⟩
    have f5 := f4.trans z5
    refine q_when (σ := start N__law_raise_more [V.str (nm i), V.ref v, V.bl b]) (et_is (et_test (ev_op (ev_var (i := 0) rfl) ev_c (rv_eq rfl))) (nm_dec (j := 6) hi (by decide))) (fun hb G6 z6 => ?_) fun hb G6 z6 => ?_
    · have f6 := f5.trans z6
      have hk : i = 6 := of_decide_eq_true hb
      subst hk
      obtain ⟨x0, r, rfl⟩ := len1 hlen
      exact (ea_cons (ev_ixL (K := K) (i := 0) (ev_var (i := 1) rfl) ev_c (sq_of (f6 _ _ hv)) at0) ea_nil) G6 (Ex.refl _) _ fun H2 e2 => ⟨rfl, fun dx hd => k dx _ (fresh_back (f6.trans e2) hd) ((f6.trans e2).trans (Ex.new hd)) upd_same⟩
    have f6 := f5.trans z6
    have n6 : i ≠ 6 := of_decide_eq_false hb
    refine q_when (σ := start N__law_raise_more [V.str (nm i), V.ref v, V.bl b]) (et_and (et_is (et_test (ev_op (ev_var (i := 0) rfl) ev_c (rv_eq rfl))) (nm_dec (j := 11) hi (by decide))) fun _ => et_B (ev_var (i := 2) rfl)) (fun hb G7 z7 => ?_) fun hb G7 z7 => ?_
    · have f7 := f6.trans z7
      have hk : i = 11 := of_decide_eq_true ((Bool.and_eq_true _ _).mp hb).1
      subst hk
      obtain ⟨x0, r, rfl⟩ := len1 hlen
      exact (ea_cons (ev_ixL (K := K) (i := 0) (ev_var (i := 1) rfl) ev_c (sq_of (f7 _ _ hv)) at0) ea_nil) G7 (Ex.refl _) _ fun H2 e2 => ⟨rfl, fun dx hd => k dx _ (fresh_back (f7.trans e2) hd) ((f7.trans e2).trans (Ex.new hd)) upd_same⟩
    have f7 := f6.trans z7
    refine q_when (σ := start N__law_raise_more [V.str (nm i), V.ref v, V.bl b]) (et_is (et_test (ev_op (ev_var (i := 0) rfl) ev_c (rv_eq rfl))) (nm_dec (j := 11) hi (by decide))) (fun hb G8 z8 => ?_) fun hb G8 z8 => ?_
    · have f8 := f7.trans z8
      have hk : i = 11 := of_decide_eq_true hb
      subst hk
      obtain ⟨x0, r, rfl⟩ := len1 hlen
      exact (ea_cons (ev_ixL (K := K) (i := 0) (ev_var (i := 1) rfl) ev_c (sq_of (f8 _ _ hv)) at0) ea_nil) G8 (Ex.refl _) _ fun H2 e2 => ⟨rfl, fun dx hd => k dx _ (fresh_back (f8.trans e2) hd) ((f8.trans e2).trans (Ex.new hd)) upd_same⟩
    have f8 := f7.trans z8
    have n11 : i ≠ 11 := of_decide_eq_false hb
    refine q_when (σ := start N__law_raise_more [V.str (nm i), V.ref v, V.bl b]) (et_and (et_is (et_test (ev_op (ev_var (i := 0) rfl) ev_c (rv_eq rfl))) (nm_dec (j := 12) hi (by decide))) fun _ => et_B (ev_var (i := 2) rfl)) (fun hb G9 z9 => ?_) fun hb G9 z9 => ?_
    · have f9 := f8.trans z9
      have hk : i = 12 := of_decide_eq_true ((Bool.and_eq_true _ _).mp hb).1
      subst hk
      obtain ⟨x0, r, rfl⟩ := len1 hlen
      exact (ea_cons (ev_ixL (K := K) (i := 0) (ev_var (i := 1) rfl) ev_c (sq_of (f9 _ _ hv)) at0) ea_nil) G9 (Ex.refl _) _ fun H2 e2 => ⟨rfl, fun dx hd => k dx _ (fresh_back (f9.trans e2) hd) ((f9.trans e2).trans (Ex.new hd)) upd_same⟩
    have f9 := f8.trans z9
    refine q_when (σ := start N__law_raise_more [V.str (nm i), V.ref v, V.bl b]) (et_is (et_test (ev_op (ev_var (i := 0) rfl) ev_c (rv_eq rfl))) (nm_dec (j := 12) hi (by decide))) (fun hb G10 z10 => ?_) fun hb G10 z10 => ?_
    · have f10 := f9.trans z10
      have hk : i = 12 := of_decide_eq_true hb
      subst hk
      obtain ⟨x0, r, rfl⟩ := len1 hlen
      exact (ea_cons (ev_ixL (K := K) (i := 0) (ev_var (i := 1) rfl) ev_c (sq_of (f10 _ _ hv)) at0) ea_nil) G10 (Ex.refl _) _ fun H2 e2 => ⟨rfl, fun dx hd => k dx _ (fresh_back (f10.trans e2) hd) ((f10.trans e2).trans (Ex.new hd)) upd_same⟩
    have f10 := f9.trans z10
    have n12 : i ≠ 12 := of_decide_eq_false hb
    refine q_when (σ := start N__law_raise_more [V.str (nm i), V.ref v, V.bl b]) (et_and (et_is (et_test (ev_op (ev_var (i := 0) rfl) ev_c (rv_eq rfl))) (nm_dec (j := 13) hi (by decide))) fun _ => et_B (ev_var (i := 2) rfl)) (fun hb G11 z11 => ?_) fun hb G11 z11 => ?_
    · have f11 := f10.trans z11
      have hk : i = 13 := of_decide_eq_true ((Bool.and_eq_true _ _).mp hb).1
      subst hk
      obtain ⟨x0, x1, r, rfl⟩ := len2 hlen
      exact (ea_cons (ev_ixL (K := K) (i := 1) (ev_var (i := 1) rfl) ev_c (sq_of (f11 _ _ hv)) at1) (ea_cons (ev_ixL (K := K) (i := 0) (ev_var (i := 1) rfl) ev_c (sq_of (f11 _ _ hv)) at0) ea_nil)) G11 (Ex.refl _) _ fun H2 e2 => ⟨rfl, fun dx hd => k dx _ (fresh_back (f11.trans e2) hd) ((f11.trans e2).trans (Ex.new hd)) upd_same⟩
    have f11 := f10.trans z11
    refine q_when (σ := start N__law_raise_more [V.str (nm i), V.ref v, V.bl b]) (et_is (et_test (ev_op (ev_var (i := 0) rfl) ev_c (rv_eq rfl))) (nm_dec (j := 13) hi (by decide))) (fun hb G12 z12 => ?_) fun hb G12 z12 => ?_
    · have f12 := f11.trans z12
      have hk : i = 13 := of_decide_eq_true hb
      subst hk
      obtain ⟨x0, x1, r, rfl⟩ := len2 hlen
      exact (ea_cons (ev_ixL (K := K) (i := 0) (ev_var (i := 1) rfl) ev_c (sq_of (f12 _ _ hv)) at0) (ea_cons (ev_ixL (K := K) (i := 1) (ev_var (i := 1) rfl) ev_c (sq_of (f12 _ _ hv)) at1) ea_nil)) G12 (Ex.refl _) _ fun H2 e2 => ⟨rfl, fun dx hd => k dx _ (fresh_back (f12.trans e2) hd) ((f12.trans e2).trans (Ex.new hd)) upd_same⟩
    have f12 := f11.trans z12
    have n13 : i ≠ 13 := of_decide_eq_false hb
    refine q_when (σ := start N__law_raise_more [V.str (nm i), V.ref v, V.bl b]) (et_and (et_is (et_test (ev_op (ev_var (i := 0) rfl) ev_c (rv_eq rfl))) (nm_dec (j := 14) hi (by decide))) fun _ => et_B (ev_var (i := 2) rfl)) (fun hb G13 z13 => ?_) fun hb G13 z13 => ?_
    · have f13 := f12.trans z13
      have hk : i = 14 := of_decide_eq_true ((Bool.and_eq_true _ _).mp hb).1
      subst hk
      obtain ⟨x0, x1, x2, r, rfl⟩ := len3 hlen
      exact (ea_cons (ev_ixL (K := K) (i := 2) (ev_var (i := 1) rfl) ev_c (sq_of (f13 _ _ hv)) at2) (ea_cons (ev_ixL (K := K) (i := 1) (ev_var (i := 1) rfl) ev_c (sq_of (f13 _ _ hv)) at1) (ea_cons (ev_ixL (K := K) (i := 0) (ev_var (i := 1) rfl) ev_c (sq_of (f13 _ _ hv)) at0) ea_nil))) G13 (Ex.refl _) _ fun H2 e2 => ⟨rfl, fun dx hd => k dx _ (fresh_back (f13.trans e2) hd) ((f13.trans e2).trans (Ex.new hd)) upd_same⟩
    have f13 := f12.trans z13
    refine q_when (σ := start N__law_raise_more [V.str (nm i), V.ref v, V.bl b]) (et_is (et_test (ev_op (ev_var (i := 0) rfl) ev_c (rv_eq rfl))) (nm_dec (j := 14) hi (by decide))) (fun hb G14 z14 => ?_) fun hb G14 z14 => ?_
    · have f14 := f13.trans z14
      have hk : i = 14 := of_decide_eq_true hb
      subst hk
      obtain ⟨x0, x1, x2, r, rfl⟩ := len3 hlen
      exact (ea_cons (ev_ixL (K := K) (i := 0) (ev_var (i := 1) rfl) ev_c (sq_of (f14 _ _ hv)) at0) (ea_cons (ev_ixL (K := K) (i := 1) (ev_var (i := 1) rfl) ev_c (sq_of (f14 _ _ hv)) at1) (ea_cons (ev_ixL (K := K) (i := 2) (ev_var (i := 1) rfl) ev_c (sq_of (f14 _ _ hv)) at2) ea_nil))) G14 (Ex.refl _) _ fun H2 e2 => ⟨rfl, fun dx hd => k dx _ (fresh_back (f14.trans e2) hd) ((f14.trans e2).trans (Ex.new hd)) upd_same⟩
    have f14 := f13.trans z14
    have n14 : i ≠ 14 := of_decide_eq_false hb
    refine q_when (σ := start N__law_raise_more [V.str (nm i), V.ref v, V.bl b]) (et_and (et_is (et_test (ev_op (ev_var (i := 0) rfl) ev_c (rv_eq rfl))) (nm_dec (j := 15) hi (by decide))) fun _ => et_B (ev_var (i := 2) rfl)) (fun hb G15 z15 => ?_) fun hb G15 z15 => ?_
    · have f15 := f14.trans z15
      have hk : i = 15 := of_decide_eq_true ((Bool.and_eq_true _ _).mp hb).1
      subst hk
      obtain ⟨x0, r, rfl⟩ := len1 hlen
      exact (ea_cons (ev_ixL (K := K) (i := 0) (ev_var (i := 1) rfl) ev_c (sq_of (f15 _ _ hv)) at0) ea_nil) G15 (Ex.refl _) _ fun H2 e2 => ⟨rfl, fun dx hd => k dx _ (fresh_back (f15.trans e2) hd) ((f15.trans e2).trans (Ex.new hd)) upd_same⟩
    have f15 := f14.trans z15
    refine s_when (σ := start N__law_raise_more [V.str (nm i), V.ref v, V.bl b]) (et_is (et_test (ev_op (ev_var (i := 0) rfl) ev_c (rv_eq rfl))) (nm_dec (j := 15) hi (by decide))) (fun hb G16 z16 => ?_) fun hb G16 z16 => ?_
    · have f16 := f15.trans z16
      have hk : i = 15 := of_decide_eq_true hb
      subst hk
      obtain ⟨x0, r, rfl⟩ := len1 hlen
      exact (ea_cons (ev_ixL (K := K) (i := 0) (ev_var (i := 1) rfl) ev_c (sq_of (f16 _ _ hv)) at0) ea_nil) G16 (Ex.refl _) _ fun H2 e2 => ⟨rfl, fun dx hd => k dx _ (fresh_back (f16.trans e2) hd) ((f16.trans e2).trans (Ex.new hd)) upd_same⟩
    have f16 := f15.trans z16
    have n15 : i ≠ 15 := of_decide_eq_false hb
    exfalso
    have hS : i = 9 ∨ i = 10 ∨ i = 6 ∨ i = 11 ∨ i = 12 ∨ i = 13 ∨ i = 14 ∨ i = 15 := hS
    omega
theorem ok__law_raise (T : All K mg a d tk c ci di) : FnOk P w K mg base (L2.CX P w) 4 (a 11) (d 11) ["word", "values", "by_name"] (sp__law_raise c (fun _ => True)) := by
  refine T.F__law_raise.fn.okX sc__law_raise (fun vs H Q E h => ?_) (fun cdv A outer s H vs Q E hr h => ?_)
  · obtain ⟨i, v, xs, b, rfl, _⟩ := h
    rfl
  · obtain ⟨i, v, xs, b, rfl, hi, hS, hv, hlen, k⟩ := h
    have nd := sc__law_raise.nd
    refine ⟨_, (pss_cons (ps_if (PW.pt (pw_and (pt_cmpR op_eq (pv 0) pe_str (nomark _)) (pw_and1 (pt_val (pv 2)))))
 (pss_one (ps_raise rfl (takes_of rfl rfl rfl rfl) (pmk_rzK (exT_InvalidPairs T) (hr.mono (by decide)) rfl (pk_cons (pe_ix ix_list (pv 1) pe_int (fun _ _ => rfl)) pk_nil))))
 pss_nil)
 (pss_cons (ps_if (pt_cmpR op_eq (pv 0) pe_str (nomark _))
 (pss_one (ps_raise rfl (takes_of rfl rfl rfl rfl) (pmk_rz (exT_InvalidPairs T) (hr.mono (by decide)) rfl (by decide) (pa_cons (pe_ix ix_list (pv 1) pe_int (fun _ _ => rfl)) pa_nil))))
 pss_nil)
 (pss_cons (ps_if (PW.pt (pw_and (pt_cmpR op_eq (pv 0) pe_str (nomark _)) (pw_and1 (pt_val (pv 2)))))
 (pss_one (ps_raise rfl (takes_of rfl rfl rfl rfl) (pmk_rzK (exT_InvalidPair T) (hr.mono (by decide)) rfl (pk_cons (pe_ix ix_list (pv 1) pe_int (fun _ _ => rfl)) pk_nil))))
 pss_nil)
 (pss_cons (ps_if (pt_cmpR op_eq (pv 0) pe_str (nomark _))
 (pss_one (ps_raise rfl (takes_of rfl rfl rfl rfl) (pmk_rz (exT_InvalidPair T) (hr.mono (by decide)) rfl (by decide) (pa_cons (pe_ix ix_list (pv 1) pe_int (fun _ _ => rfl)) pa_nil))))
 pss_nil)
 (pss_cons (ps_if (PW.pt (pw_and (pt_cmpR op_eq (pv 0) pe_str (nomark _)) (pw_and1 (pt_val (pv 2)))))
 (pss_one (ps_raise rfl (takes_of rfl rfl rfl rfl) (pmk_rzK (exT_InvalidDependencies T) (hr.mono (by decide)) rfl (pk_cons (pe_ix ix_list (pv 1) pe_int (fun _ _ => rfl)) pk_nil))))
 pss_nil)
 (pss_cons (ps_if (pt_cmpR op_eq (pv 0) pe_str (nomark _))
 (pss_one (ps_raise rfl (takes_of rfl rfl rfl rfl) (pmk_rz (exT_InvalidDependencies T) (hr.mono (by decide)) rfl (by decide) (pa_cons (pe_ix ix_list (pv 1) pe_int (fun _ _ => rfl)) pa_nil))))
 pss_nil)
 (pss_cons (ps_if (PW.pt (pw_and (pt_cmpR op_eq (pv 0) pe_str (nomark _)) (pw_and1 (pt_val (pv 2)))))
 (pss_one (ps_raise rfl (takes_of rfl rfl rfl rfl) (pmk_rzK (exT_InvalidWide T) (hr.mono (by decide)) rfl (pk_cons (pe_ix ix_list (pv 1) pe_int (fun _ _ => rfl)) pk_nil))))
 pss_nil)
 (pss_cons (ps_if (pt_cmpR op_eq (pv 0) pe_str (nomark _))
 (pss_one (ps_raise rfl (takes_of rfl rfl rfl rfl) (pmk_rz (exT_InvalidWide T) (hr.mono (by decide)) rfl (by decide) (pa_cons (pe_ix ix_list (pv 1) pe_int (fun _ _ => rfl)) pa_nil))))
 pss_nil)
 (pss_cons (ps_if (PW.pt (pw_and (pt_cmpR op_eq (pv 0) pe_str (nomark _)) (pw_and1 (pt_val (pv 2)))))
 (pss_one (ps_raise rfl (takes_of rfl rfl rfl rfl) (pmk_rzK (exT_InvalidRequest T) (hr.mono (by decide)) rfl (pk_cons (pe_ix ix_list (pv 1) pe_int (fun _ _ => rfl)) pk_nil))))
 pss_nil)
 (pss_cons (ps_if (pt_cmpR op_eq (pv 0) pe_str (nomark _))
 (pss_one (ps_raise rfl (takes_of rfl rfl rfl rfl) (pmk_rz (exT_InvalidRequest T) (hr.mono (by decide)) rfl (by decide) (pa_cons (pe_ix ix_list (pv 1) pe_int (fun _ _ => rfl)) pa_nil))))
 pss_nil)
 (pss_cons (ps_if (PW.pt (pw_and (pt_cmpR op_eq (pv 0) pe_str (nomark _)) (pw_and1 (pt_val (pv 2)))))
 (pss_one (ps_raise rfl (takes_of rfl rfl rfl rfl) (pmk_rzK (exT_InvalidRequests T) (hr.mono (by decide)) rfl (pk_cons (pe_ix ix_list (pv 1) pe_int (fun _ _ => rfl)) pk_nil))))
 pss_nil)
 (pss_cons (ps_if (pt_cmpR op_eq (pv 0) pe_str (nomark _))
 (pss_one (ps_raise rfl (takes_of rfl rfl rfl rfl) (pmk_rz (exT_InvalidRequests T) (hr.mono (by decide)) rfl (by decide) (pa_cons (pe_ix ix_list (pv 1) pe_int (fun _ _ => rfl)) pa_nil))))
 pss_nil)
 (pss_cons (ps_if (PW.pt (pw_and (pt_cmpR op_eq (pv 0) pe_str (nomark _)) (pw_and1 (pt_val (pv 2)))))
 (pss_one (ps_raise rfl (takes_of rfl rfl rfl rfl) (pmk_rzK (exT_InvalidKept T) (hr.mono (by decide)) rfl (pk_cons (pe_ix ix_list (pv 1) pe_int (fun _ _ => rfl)) pk_nil))))
 pss_nil)
 (pss_cons (ps_if (pt_cmpR op_eq (pv 0) pe_str (nomark _))
 (pss_one (ps_raise rfl (takes_of rfl rfl rfl rfl) (pmk_rz (exT_InvalidKept T) (hr.mono (by decide)) rfl (by decide) (pa_cons (pe_ix ix_list (pv 1) pe_int (fun _ _ => rfl)) pa_nil))))
 pss_nil)
 (pss_cons (ps_if (PW.pt (pw_and (pt_cmpR op_eq (pv 0) pe_str (nomark _)) (pw_and1 (pt_val (pv 2)))))
 (pss_one (ps_raise rfl (takes_of rfl rfl rfl rfl) (pmk_rzK (exT_InvalidJoin T) (hr.mono (by decide)) rfl (pk_cons (pe_ix ix_list (pv 1) pe_int (fun _ _ => rfl)) pk_nil))))
 pss_nil)
 (pss_cons (ps_if (pt_cmpR op_eq (pv 0) pe_str (nomark _))
 (pss_one (ps_raise rfl (takes_of rfl rfl rfl rfl) (pmk_rz (exT_InvalidJoin T) (hr.mono (by decide)) rfl (by decide) (pa_cons (pe_ix ix_list (pv 1) pe_int (fun _ _ => rfl)) pa_nil))))
 pss_nil)
 (pss_one (ps_expr (pe_call (ok__law_raise_more T) (hr.mono (by decide)) rfl T.F__law_raise_more.m T.F__law_raise_more.kp T.F__law_raise_more.b .nil (passes_call (takes_of rfl rfl rfl rfl) (fun _ _ _ _ h => h)) (pa_cons (pv 0) (pa_cons (pv 1) (pa_cons (pv 2) pa_nil)))))))))))))))))))))), ?_⟩
    have e0 : Ex H H := Ex.refl H
    refine q_when (σ := start N__law_raise [V.str (nm i), V.ref v, V.bl b]) (et_and (et_is (et_test (ev_op (ev_var (i := 0) rfl) ev_c (rv_eq rfl))) (nm_dec (j := 0) hi (by decide))) fun _ => et_B (ev_var (i := 2) rfl)) (fun hb G1 z1 => ?_) fun hb G1 z1 => ?_
    · have f1 := e0.trans z1
      have hk : i = 0 := of_decide_eq_true ((Bool.and_eq_true _ _).mp hb).1
      subst hk
      obtain ⟨x0, r, rfl⟩ := len1 hlen
      exact (ea_cons (ev_ixL (K := K) (i := 0) (ev_var (i := 1) rfl) ev_c (sq_of (f1 _ _ hv)) at0) ea_nil) G1 (Ex.refl _) _ fun H2 e2 => ⟨rfl, fun dx hd => k dx _ (fresh_back (f1.trans e2) hd) ((f1.trans e2).trans (Ex.new hd)) upd_same⟩
    have f1 := e0.trans z1
    refine q_when (σ := start N__law_raise [V.str (nm i), V.ref v, V.bl b]) (et_is (et_test (ev_op (ev_var (i := 0) rfl) ev_c (rv_eq rfl))) (nm_dec (j := 0) hi (by decide))) (fun hb G2 z2 => ?_) fun hb G2 z2 => ?_
    · have f2 := f1.trans z2
      have hk : i = 0 := of_decide_eq_true hb
      subst hk
      obtain ⟨x0, r, rfl⟩ := len1 hlen
      exact (ea_cons (ev_ixL (K := K) (i := 0) (ev_var (i := 1) rfl) ev_c (sq_of (f2 _ _ hv)) at0) ea_nil) G2 (Ex.refl _) _ fun H2 e2 => ⟨rfl, fun dx hd => k dx _ (fresh_back (f2.trans e2) hd) ((f2.trans e2).trans (Ex.new hd)) upd_same⟩
    have f2 := f1.trans z2
    have n0 : i ≠ 0 := of_decide_eq_false hb
    refine q_when (σ := start N__law_raise [V.str (nm i), V.ref v, V.bl b]) (et_and (et_is (et_test (ev_op (ev_var (i := 0) rfl) ev_c (rv_eq rfl))) (nm_dec (j := 1) hi (by decide))) fun _ => et_B (ev_var (i := 2) rfl)) (fun hb G3 z3 => ?_) fun hb G3 z3 => ?_
    · have f3 := f2.trans z3
      have hk : i = 1 := of_decide_eq_true ((Bool.and_eq_true _ _).mp hb).1
      subst hk
      obtain ⟨x0, r, rfl⟩ := len1 hlen
      exact (ea_cons (ev_ixL (K := K) (i := 0) (ev_var (i := 1) rfl) ev_c (sq_of (f3 _ _ hv)) at0) ea_nil) G3 (Ex.refl _) _ fun H2 e2 => ⟨rfl, fun dx hd => k dx _ (fresh_back (f3.trans e2) hd) ((f3.trans e2).trans (Ex.new hd)) upd_same⟩
    have f3 := f2.trans z3
    refine q_when (σ := start N__law_raise [V.str (nm i), V.ref v, V.bl b]) (et_is (et_test (ev_op (ev_var (i := 0) rfl) ev_c (rv_eq rfl))) (nm_dec (j := 1) hi (by decide))) (fun hb G4 z4 => ?_) fun hb G4 z4 => ?_
    · have f4 := f3.trans z4
      have hk : i = 1 := of_decide_eq_true hb
      subst hk
      obtain ⟨x0, r, rfl⟩ := len1 hlen
      exact (ea_cons (ev_ixL (K := K) (i := 0) (ev_var (i := 1) rfl) ev_c (sq_of (f4 _ _ hv)) at0) ea_nil) G4 (Ex.refl _) _ fun H2 e2 => ⟨rfl, fun dx hd => k dx _ (fresh_back (f4.trans e2) hd) ((f4.trans e2).trans (Ex.new hd)) upd_same⟩
    have f4 := f3.trans z4
    have n1 : i ≠ 1 := of_decide_eq_false hb
    refine q_when (σ := start N__law_raise [V.str (nm i), V.ref v, V.bl b]) (et_and (et_is (et_test (ev_op (ev_var (i := 0) rfl) ev_c (rv_eq rfl))) (nm_dec (j := 2) hi (by decide))) fun _ => et_B (ev_var (i := 2) rfl)) (fun hb G5 z5 => ?_) fun hb G5 z5 => ?_
    · have f5 := f4.trans z5
      have hk : i = 2 := of_decide_eq_true ((Bool.and_eq_true _ _).mp hb).1
      subst hk
      obtain ⟨x0, r, rfl⟩ := len1 hlen
      exact (ea_cons (ev_ixL (K := K) (i := 0) (ev_var (i := 1) rfl) ev_c (sq_of (f5 _ _ hv)) at0) ea_nil) G5 (Ex.refl _) _ fun H2 e2 => ⟨rfl, fun dx hd => k dx _ (fresh_back (f5.trans e2) hd) ((f5.trans e2).trans (Ex.new hd)) upd_same⟩
    have f5 := f4.trans z5
    refine q_when (σ := start N__law_raise [V.str (nm i), V.ref v, V.bl b]) (et_is (et_test (ev_op (ev_var (i := 0) rfl) ev_c (rv_eq rfl))) (nm_dec (j := 2) hi (by decide))) (fun hb G6 z6 => ?_) fun hb G6 z6 => ?_
    · have f6 := f5.trans z6
      have hk : i = 2 := of_decide_eq_true hb
      subst hk
      obtain ⟨x0, r, rfl⟩ := len1 hlen
      exact (ea_cons (ev_ixL (K := K) (i := 0) (ev_var (i := 1) rfl) ev_c (sq_of (f6 _ _ hv)) at0) ea_nil) G6 (Ex.refl _) _ fun H2 e2 => ⟨rfl, fun dx hd => k dx _ (fresh_back (f6.trans e2) hd) ((f6.trans e2).trans (Ex.new hd)) upd_same⟩
    have f6 := f5.trans z6
    have n2 : i ≠ 2 := of_decide_eq_false hb
    refine q_when (σ := start N__law_raise [V.str (nm i), V.ref v, V.bl b]) (et_and (et_is (et_test (ev_op (ev_var (i := 0) rfl) ev_c (rv_eq rfl))) (nm_dec (j := 3) hi (by decide))) fun _ => et_B (ev_var (i := 2) rfl)) (fun hb G7 z7 => ?_) fun hb G7 z7 => ?_
    · have f7 := f6.trans z7
      have hk : i = 3 := of_decide_eq_true ((Bool.and_eq_true _ _).mp hb).1
      subst hk
      obtain ⟨x0, r, rfl⟩ := len1 hlen
      exact (ea_cons (ev_ixL (K := K) (i := 0) (ev_var (i := 1) rfl) ev_c (sq_of (f7 _ _ hv)) at0) ea_nil) G7 (Ex.refl _) _ fun H2 e2 => ⟨rfl, fun dx hd => k dx _ (fresh_back (f7.trans e2) hd) ((f7.trans e2).trans (Ex.new hd)) upd_same⟩
    have f7 := f6.trans z7
    refine q_when (σ := start N__law_raise [V.str (nm i), V.ref v, V.bl b]) (et_is (et_test (ev_op (ev_var (i := 0) rfl) ev_c (rv_eq rfl))) (nm_dec (j := 3) hi (by decide))) (fun hb G8 z8 => ?_) fun hb G8 z8 => ?_
    · have f8 := f7.trans z8
      have hk : i = 3 := of_decide_eq_true hb
      subst hk
      obtain ⟨x0, r, rfl⟩ := len1 hlen
      exact (ea_cons (ev_ixL (K := K) (i := 0) (ev_var (i := 1) rfl) ev_c (sq_of (f8 _ _ hv)) at0) ea_nil) G8 (Ex.refl _) _ fun H2 e2 => ⟨rfl, fun dx hd => k dx _ (fresh_back (f8.trans e2) hd) ((f8.trans e2).trans (Ex.new hd)) upd_same⟩
    have f8 := f7.trans z8
    have n3 : i ≠ 3 := of_decide_eq_false hb
    refine q_when (σ := start N__law_raise [V.str (nm i), V.ref v, V.bl b]) (et_and (et_is (et_test (ev_op (ev_var (i := 0) rfl) ev_c (rv_eq rfl))) (nm_dec (j := 4) hi (by decide))) fun _ => et_B (ev_var (i := 2) rfl)) (fun hb G9 z9 => ?_) fun hb G9 z9 => ?_
    · have f9 := f8.trans z9
      have hk : i = 4 := of_decide_eq_true ((Bool.and_eq_true _ _).mp hb).1
      subst hk
      obtain ⟨x0, r, rfl⟩ := len1 hlen
      exact (ea_cons (ev_ixL (K := K) (i := 0) (ev_var (i := 1) rfl) ev_c (sq_of (f9 _ _ hv)) at0) ea_nil) G9 (Ex.refl _) _ fun H2 e2 => ⟨rfl, fun dx hd => k dx _ (fresh_back (f9.trans e2) hd) ((f9.trans e2).trans (Ex.new hd)) upd_same⟩
    have f9 := f8.trans z9
    refine q_when (σ := start N__law_raise [V.str (nm i), V.ref v, V.bl b]) (et_is (et_test (ev_op (ev_var (i := 0) rfl) ev_c (rv_eq rfl))) (nm_dec (j := 4) hi (by decide))) (fun hb G10 z10 => ?_) fun hb G10 z10 => ?_
    · have f10 := f9.trans z10
      have hk : i = 4 := of_decide_eq_true hb
      subst hk
      obtain ⟨x0, r, rfl⟩ := len1 hlen
      exact (ea_cons (ev_ixL (K := K) (i := 0) (ev_var (i := 1) rfl) ev_c (sq_of (f10 _ _ hv)) at0) ea_nil) G10 (Ex.refl _) _ fun H2 e2 => ⟨rfl, fun dx hd => k dx _ (fresh_back (f10.trans e2) hd) ((f10.trans e2).trans (Ex.new hd)) upd_same⟩
    have f10 := f9.trans z10
    have n4 : i ≠ 4 := of_decide_eq_false hb
    refine q_when (σ := start N__law_raise [V.str (nm i), V.ref v, V.bl b]) (et_and (et_is (et_test (ev_op (ev_var (i := 0) rfl) ev_c (rv_eq rfl))) (nm_dec (j := 5) hi (by decide))) fun _ => et_B (ev_var (i := 2) rfl)) (fun hb G11 z11 => ?_) fun hb G11 z11 => ?_
    · have f11 := f10.trans z11
      have hk : i = 5 := of_decide_eq_true ((Bool.and_eq_true _ _).mp hb).1
      subst hk
      obtain ⟨x0, r, rfl⟩ := len1 hlen
      exact (ea_cons (ev_ixL (K := K) (i := 0) (ev_var (i := 1) rfl) ev_c (sq_of (f11 _ _ hv)) at0) ea_nil) G11 (Ex.refl _) _ fun H2 e2 => ⟨rfl, fun dx hd => k dx _ (fresh_back (f11.trans e2) hd) ((f11.trans e2).trans (Ex.new hd)) upd_same⟩
    have f11 := f10.trans z11
    refine q_when (σ := start N__law_raise [V.str (nm i), V.ref v, V.bl b]) (et_is (et_test (ev_op (ev_var (i := 0) rfl) ev_c (rv_eq rfl))) (nm_dec (j := 5) hi (by decide))) (fun hb G12 z12 => ?_) fun hb G12 z12 => ?_
    · have f12 := f11.trans z12
      have hk : i = 5 := of_decide_eq_true hb
      subst hk
      obtain ⟨x0, r, rfl⟩ := len1 hlen
      exact (ea_cons (ev_ixL (K := K) (i := 0) (ev_var (i := 1) rfl) ev_c (sq_of (f12 _ _ hv)) at0) ea_nil) G12 (Ex.refl _) _ fun H2 e2 => ⟨rfl, fun dx hd => k dx _ (fresh_back (f12.trans e2) hd) ((f12.trans e2).trans (Ex.new hd)) upd_same⟩
    have f12 := f11.trans z12
    have n5 : i ≠ 5 := of_decide_eq_false hb
    refine q_when (σ := start N__law_raise [V.str (nm i), V.ref v, V.bl b]) (et_and (et_is (et_test (ev_op (ev_var (i := 0) rfl) ev_c (rv_eq rfl))) (nm_dec (j := 7) hi (by decide))) fun _ => et_B (ev_var (i := 2) rfl)) (fun hb G13 z13 => ?_) fun hb G13 z13 => ?_
    · have f13 := f12.trans z13
      have hk : i = 7 := of_decide_eq_true ((Bool.and_eq_true _ _).mp hb).1
      subst hk
      obtain ⟨x0, r, rfl⟩ := len1 hlen
      exact (ea_cons (ev_ixL (K := K) (i := 0) (ev_var (i := 1) rfl) ev_c (sq_of (f13 _ _ hv)) at0) ea_nil) G13 (Ex.refl _) _ fun H2 e2 => ⟨rfl, fun dx hd => k dx _ (fresh_back (f13.trans e2) hd) ((f13.trans e2).trans (Ex.new hd)) upd_same⟩
    have f13 := f12.trans z13
    refine q_when (σ := start N__law_raise [V.str (nm i), V.ref v, V.bl b]) (et_is (et_test (ev_op (ev_var (i := 0) rfl) ev_c (rv_eq rfl))) (nm_dec (j := 7) hi (by decide))) (fun hb G14 z14 => ?_) fun hb G14 z14 => ?_
    · have f14 := f13.trans z14
      have hk : i = 7 := of_decide_eq_true hb
      subst hk
      obtain ⟨x0, r, rfl⟩ := len1 hlen
      exact (ea_cons (ev_ixL (K := K) (i := 0) (ev_var (i := 1) rfl) ev_c (sq_of (f14 _ _ hv)) at0) ea_nil) G14 (Ex.refl _) _ fun H2 e2 => ⟨rfl, fun dx hd => k dx _ (fresh_back (f14.trans e2) hd) ((f14.trans e2).trans (Ex.new hd)) upd_same⟩
    have f14 := f13.trans z14
    have n7 : i ≠ 7 := of_decide_eq_false hb
    refine q_when (σ := start N__law_raise [V.str (nm i), V.ref v, V.bl b]) (et_and (et_is (et_test (ev_op (ev_var (i := 0) rfl) ev_c (rv_eq rfl))) (nm_dec (j := 8) hi (by decide))) fun _ => et_B (ev_var (i := 2) rfl)) (fun hb G15 z15 => ?_) fun hb G15 z15 => ?_
    · have f15 := f14.trans z15
      have hk : i = 8 := of_decide_eq_true ((Bool.and_eq_true _ _).mp hb).1
      subst hk
      obtain ⟨x0, r, rfl⟩ := len1 hlen
      exact (ea_cons (ev_ixL (K := K) (i := 0) (ev_var (i := 1) rfl) ev_c (sq_of (f15 _ _ hv)) at0) ea_nil) G15 (Ex.refl _) _ fun H2 e2 => ⟨rfl, fun dx hd => k dx _ (fresh_back (f15.trans e2) hd) ((f15.trans e2).trans (Ex.new hd)) upd_same⟩
    have f15 := f14.trans z15
    refine q_when (σ := start N__law_raise [V.str (nm i), V.ref v, V.bl b]) (et_is (et_test (ev_op (ev_var (i := 0) rfl) ev_c (rv_eq rfl))) (nm_dec (j := 8) hi (by decide))) (fun hb G16 z16 => ?_) fun hb G16 z16 => ?_
    · have f16 := f15.trans z16
      have hk : i = 8 := of_decide_eq_true hb
      subst hk
      obtain ⟨x0, r, rfl⟩ := len1 hlen
      exact (ea_cons (ev_ixL (K := K) (i := 0) (ev_var (i := 1) rfl) ev_c (sq_of (f16 _ _ hv)) at0) ea_nil) G16 (Ex.refl _) _ fun H2 e2 => ⟨rfl, fun dx hd => k dx _ (fresh_back (f16.trans e2) hd) ((f16.trans e2).trans (Ex.new hd)) upd_same⟩
    have f16 := f15.trans z16
    have n8 : i ≠ 8 := of_decide_eq_false hb
    refine ⟨_, rfl, _, rfl, _, rfl, i, v, xs, b, rfl, hi, ?_, f16 _ _ hv, hlen, fun dx H' h1 h2 h3 => k dx H' (fresh_back f16 h1) (f16.trans h2) h3⟩
    show i = 9 ∨ i = 10 ∨ i = 6 ∨ i = 11 ∨ i = 12 ∨ i = 13 ∨ i = 14 ∨ i = 15
    omega
end
end Mv
/-! Every exception, caught. -/
namespace Mv
open PySem PySem.Spec PyProof.Rows L2 Evl
/-- the number of the base, its tail -/
def bs (i : Nat) : Nat := ([16, 16, 16, 16, 16, 16, 16, 16, 16, 16, 16, 16, 17, 17, 18, 18] : List Nat).getD i 0
def tlb : Nat → List Value
  | 16 => veT
  | 17 => keT
  | 18 => leT
  | _ => []
theorem ho_veT {c : Addr} : (Value.ref c :: veT).contains (.type "object") = true := by rw [List.contains_cons, show veT.contains (.type "object") = true by decide +kernel, Bool.or_true]
theorem ho_keT {c : Addr} : (Value.ref c :: keT).contains (.type "object") = true := by rw [List.contains_cons, show keT.contains (.type "object") = true by decide +kernel, Bool.or_true]
theorem ho_leT {c : Addr} : (Value.ref c :: leT).contains (.type "object") = true := by rw [List.contains_cons, show leT.contains (.type "object") = true by decide +kernel, Bool.or_true]
section
variable {P : Program} {w : World} {K : PySem.W.Frag} {mg : Str → Option Value} {base : Heap} {a : Nat → Addr} {d : Nat → FuncData} {tk : Nat → Tok} {c ci : Nat → Addr} {di : Nat → FuncData}

theorem sub_fact (T : All K mg a d tk c ci di) (v : Value) : ∀ i, i < 16 → PySem.W.subIn K (.ref (c i)) v = some ((Value.ref (c i) :: Value.ref (c (bs i)) :: tlb (bs i)).contains v)
  | 0, _ => T.X_InvalidPairs.sub v
  | 1, _ => T.X_InvalidPair.sub v
  | 2, _ => T.X_InvalidDependencies.sub v
  | 3, _ => T.X_InvalidWide.sub v
  | 4, _ => T.X_InvalidRequest.sub v
  | 5, _ => T.X_InvalidRequests.sub v
  | 6, _ => T.X_DuplicateRequest.sub v
  | 7, _ => T.X_InvalidKept.sub v
  | 8, _ => T.X_InvalidJoin.sub v
  | 9, _ => T.X_InvalidJoins.sub v
  | 10, _ => T.X_InvalidTables.sub v
  | 11, _ => T.X_Ring.sub v
  | 12, _ => T.X_UnknownPair.sub v
  | 13, _ => T.X_NotJoined.sub v
  | 14, _ => T.X_Broken.sub v
  | 15, _ => T.X_PairKept.sub v
  | n + 16, h => absurd h (by omega)
theorem exm_k (T : All K mg a d tk c ci di) (cls : Value) : ∀ i, i < 16 → PySem.W.exmOne K cls (.ref (c i)) = PySem.W.subIn K cls (.ref (c i))
  | 0, _ => T.X_InvalidPairs.exm hb_veT cls
  | 1, _ => T.X_InvalidPair.exm hb_veT cls
  | 2, _ => T.X_InvalidDependencies.exm hb_veT cls
  | 3, _ => T.X_InvalidWide.exm hb_veT cls
  | 4, _ => T.X_InvalidRequest.exm hb_veT cls
  | 5, _ => T.X_InvalidRequests.exm hb_veT cls
  | 6, _ => T.X_DuplicateRequest.exm hb_veT cls
  | 7, _ => T.X_InvalidKept.exm hb_veT cls
  | 8, _ => T.X_InvalidJoin.exm hb_veT cls
  | 9, _ => T.X_InvalidJoins.exm hb_veT cls
  | 10, _ => T.X_InvalidTables.exm hb_veT cls
  | 11, _ => T.X_Ring.exm hb_veT cls
  | 12, _ => T.X_UnknownPair.exm hb_keT cls
  | 13, _ => T.X_NotJoined.exm hb_keT cls
  | 14, _ => T.X_Broken.exm hb_leT cls
  | 15, _ => T.X_PairKept.exm hb_leT cls
  | n + 16, h => absurd h (by omega)
theorem exc_fact (T : All K mg a d tk c ci di) : ∀ i, i < 16 → ExcC K (c i)
  | 0, _ => T.X_InvalidPairs.exc hb_veT ho_veT T.hn T.ht
  | 1, _ => T.X_InvalidPair.exc hb_veT ho_veT T.hn T.ht
  | 2, _ => T.X_InvalidDependencies.exc hb_veT ho_veT T.hn T.ht
  | 3, _ => T.X_InvalidWide.exc hb_veT ho_veT T.hn T.ht
  | 4, _ => T.X_InvalidRequest.exc hb_veT ho_veT T.hn T.ht
  | 5, _ => T.X_InvalidRequests.exc hb_veT ho_veT T.hn T.ht
  | 6, _ => T.X_DuplicateRequest.exc hb_veT ho_veT T.hn T.ht
  | 7, _ => T.X_InvalidKept.exc hb_veT ho_veT T.hn T.ht
  | 8, _ => T.X_InvalidJoin.exc hb_veT ho_veT T.hn T.ht
  | 9, _ => T.X_InvalidJoins.exc hb_veT ho_veT T.hn T.ht
  | 10, _ => T.X_InvalidTables.exc hb_veT ho_veT T.hn T.ht
  | 11, _ => T.X_Ring.exc hb_veT ho_veT T.hn T.ht
  | 12, _ => T.X_UnknownPair.exc hb_keT ho_keT T.hn T.ht
  | 13, _ => T.X_NotJoined.exc hb_keT ho_keT T.hn T.ht
  | 14, _ => T.X_Broken.exc hb_leT ho_leT T.hn T.ht
  | 15, _ => T.X_PairKept.exc hb_leT ho_leT T.hn T.ht
  | n + 16, h => absurd h (by omega)
theorem kit_fact (T : All K mg a d tk c ci di) (t : String) (hk : PySem.W.kitMeta t = true) : ∀ i, i < 16 → PySem.W.kitOne K (.ref (c i)) (.type t) = some ((Value.ref (c (bs i)) :: tlb (bs i)).contains (.type t))
  | 0, _ => kit_of T.X_InvalidPairs t hk
  | 1, _ => kit_of T.X_InvalidPair t hk
  | 2, _ => kit_of T.X_InvalidDependencies t hk
  | 3, _ => kit_of T.X_InvalidWide t hk
  | 4, _ => kit_of T.X_InvalidRequest t hk
  | 5, _ => kit_of T.X_InvalidRequests t hk
  | 6, _ => kit_of T.X_DuplicateRequest t hk
  | 7, _ => kit_of T.X_InvalidKept t hk
  | 8, _ => kit_of T.X_InvalidJoin t hk
  | 9, _ => kit_of T.X_InvalidJoins t hk
  | 10, _ => kit_of T.X_InvalidTables t hk
  | 11, _ => kit_of T.X_Ring t hk
  | 12, _ => kit_of T.X_UnknownPair t hk
  | 13, _ => kit_of T.X_NotJoined t hk
  | 14, _ => kit_of T.X_Broken t hk
  | 15, _ => kit_of T.X_PairKept t hk
  | n + 16, h => absurd h (by omega)
theorem bs_lt : ∀ i, i < 16 → 16 ≤ bs i ∧ bs i ≤ 18 := by decide
theorem no_refs : ∀ n, 16 ≤ n → n ≤ 18 → ∀ x : Addr, (tlb n).contains (.ref x) = false := by
  intro n h1 h2 x
  have : n = 16 ∨ n = 17 ∨ n = 18 := by omega
  rcases this with rfl | rfl | rfl <;> rfl
theorem ref_beq (x y : Addr) : (Value.ref x == Value.ref y) = decide (x = y) := by
  by_cases h : x = y
  · rw [h, decide_eq_true rfl]
    exact beq_self_eq_true _
  · rw [decide_eq_false h]
    exact beq_eq_false_iff_ne.mpr fun z => h (by injection z)
theorem inj_dec (T : All K mg a d tk c ci di) {i j : Nat} (hi : i < 19) (hj : j < 19) : decide (c i = c j) = decide (i = j) := decide_eq_decide.mpr ⟨T.inj i j hi hj, fun h => by rw [h]⟩
theorem exm_fact (T : All K mg a d tk c ci di) {i k : Nat} (hi : i < 16) (hk : k < 16) : PySem.W.exmOne K (.ref (c i)) (.ref (c k)) = some (decide (i = k)) := by
  obtain ⟨b1, b2⟩ := bs_lt i hi
  rw [exm_k T _ k hk, sub_fact T _ i hi, List.contains_cons, List.contains_cons, no_refs _ b1 b2, ref_beq, ref_beq, inj_dec T (by omega) (by omega), inj_dec T (by omega) (by omega), decide_eq_false (show ¬ k = bs i by omega)]
  have e : decide (k = i) = decide (i = k) := decide_eq_decide.mpr ⟨Eq.symm, Eq.symm⟩
  rw [e, Bool.or_false, Bool.or_false]
theorem exm_base (T : All K mg a d tk c ci di) {i k : Nat} (hi : i < 16) (h1 : 16 ≤ k) (h2 : k ≤ 18) : PySem.W.exmOne K (.ref (c i)) (.ref (c k)) = some (decide (bs i = k)) := by
  obtain ⟨b1, b2⟩ := bs_lt i hi
  have e0 : PySem.W.exmOne K (.ref (c i)) (.ref (c k)) = PySem.W.subIn K (.ref (c i)) (.ref (c k)) := by
    have : k = 16 ∨ k = 17 ∨ k = 18 := by omega
    rcases this with rfl | rfl | rfl
    · exact T.B_SearchError.exm (by decide +kernel) _
    · exact T.B_MissingError.exm (by decide +kernel) _
    · exact T.B_StateError.exm (by decide +kernel) _
  rw [e0, sub_fact T _ i hi, List.contains_cons, List.contains_cons, no_refs _ b1 b2, ref_beq, ref_beq, inj_dec T (by omega) (by omega), inj_dec T (by omega) (by omega), decide_eq_false (show ¬ k = i by omega)]
  have e : decide (k = bs i) = decide (bs i = k) := decide_eq_decide.mpr ⟨Eq.symm, Eq.symm⟩
  rw [e, Bool.or_false, Bool.false_or]
def sp__law_caught : Sp := fun vs H Q _ => ∃ (i : Nat) (v : Addr) (xs : List V) (b : Bool), vs = [.str (nm i), .ref v, .bl b] ∧ i < 16 ∧ H v = some (.lst xs) ∧ (fls i).length ≤ xs.length ∧
  ∀ p q H2, H p = none → H q = none → Ex H H2 → H2 p = some (.lst [.str (nm i), .ref q]) → H2 q = some (.lst (xs.take (fls i).length)) → Q (.ref p) H2
theorem ok__law_caught (T : All K mg a d tk c ci di) : FnOk P w K mg base CX0 5 (a 13) (d 13) ["word", "values", "by_name"] sp__law_caught := by
  refine T.F__law_caught.fn.ok sc__law_caught (fun vs H Q E h => ?_) (fun cdv A outer s H vs Q E hr h => ?_)
  · obtain ⟨i, v, xs, b, rfl, _⟩ := h
    rfl
  · obtain ⟨i, v, xs, b, rfl, hi, hv, hlen, k⟩ := h
    have nd := sc__law_caught.nd
    refine ⟨_, (pss_cons (ps_try_as2 rfl rfl takes_none5 (fun W pn xe tkW _ => (pss_one (ps_expr (pe_callS (ok__law_raise T) (hr.mono (by decide)) rfl T.F__law_raise.m T.F__law_raise.kp T.F__law_raise.b (fun σ => passAt tkW σ) (pa_cons (pv 0) (pa_cons (pv 1) (pa_cons (pv 2) pa_nil)))))))
 (.as (i := 3) nd rfl rfl ⟨rfl, by decide, .inl T.X_InvalidPairs.m⟩ (fun a0 oe cls d0 pn hz hf => (pss_one (ps_ret (pe_lst (pa_cons pe_str (pa_cons (pe_lst (pa_cons (pe_xg hz hf (pv 3)) pa_nil)) pa_nil))))))
 (.as (i := 3) nd rfl rfl ⟨rfl, by decide, .inl T.X_InvalidPair.m⟩ (fun a0 oe cls d0 pn hz hf => (pss_one (ps_ret (pe_lst (pa_cons pe_str (pa_cons (pe_lst (pa_cons (pe_xg hz hf (pv 3)) pa_nil)) pa_nil))))))
 (.as (i := 3) nd rfl rfl ⟨rfl, by decide, .inl T.X_InvalidDependencies.m⟩ (fun a0 oe cls d0 pn hz hf => (pss_one (ps_ret (pe_lst (pa_cons pe_str (pa_cons (pe_lst (pa_cons (pe_xg hz hf (pv 3)) pa_nil)) pa_nil))))))
 (.as (i := 3) nd rfl rfl ⟨rfl, by decide, .inl T.X_InvalidWide.m⟩ (fun a0 oe cls d0 pn hz hf => (pss_one (ps_ret (pe_lst (pa_cons pe_str (pa_cons (pe_lst (pa_cons (pe_xg hz hf (pv 3)) pa_nil)) pa_nil))))))
 (.as (i := 3) nd rfl rfl ⟨rfl, by decide, .inl T.X_InvalidRequest.m⟩ (fun a0 oe cls d0 pn hz hf => (pss_one (ps_ret (pe_lst (pa_cons pe_str (pa_cons (pe_lst (pa_cons (pe_xg hz hf (pv 3)) pa_nil)) pa_nil))))))
 (.as (i := 3) nd rfl rfl ⟨rfl, by decide, .inl T.X_InvalidRequests.m⟩ (fun a0 oe cls d0 pn hz hf => (pss_one (ps_ret (pe_lst (pa_cons pe_str (pa_cons (pe_lst (pa_cons (pe_xg hz hf (pv 3)) pa_nil)) pa_nil))))))
 (.as (i := 3) nd rfl rfl ⟨rfl, by decide, .inl T.X_InvalidKept.m⟩ (fun a0 oe cls d0 pn hz hf => (pss_one (ps_ret (pe_lst (pa_cons pe_str (pa_cons (pe_lst (pa_cons (pe_xg hz hf (pv 3)) pa_nil)) pa_nil))))))
 (.as (i := 3) nd rfl rfl ⟨rfl, by decide, .inl T.X_InvalidJoin.m⟩ (fun a0 oe cls d0 pn hz hf => (pss_one (ps_ret (pe_lst (pa_cons pe_str (pa_cons (pe_lst (pa_cons (pe_xg hz hf (pv 3)) pa_nil)) pa_nil))))))
 (.as (i := 3) nd rfl rfl ⟨rfl, by decide, .inl T.X_InvalidJoins.m⟩ (fun a0 oe cls d0 pn hz hf => (pss_one (ps_ret (pe_lst (pa_cons pe_str (pa_cons (pe_lst (pa_cons (pe_xg hz hf (pv 3)) pa_nil)) pa_nil))))))
 (.as (i := 3) nd rfl rfl ⟨rfl, by decide, .inl T.X_InvalidTables.m⟩ (fun a0 oe cls d0 pn hz hf => (pss_one (ps_ret (pe_lst (pa_cons pe_str (pa_cons (pe_lst (pa_cons (pe_xg hz hf (pv 3)) pa_nil)) pa_nil))))))
 (.as (i := 3) nd rfl rfl ⟨rfl, by decide, .inl T.X_DuplicateRequest.m⟩ (fun a0 oe cls d0 pn hz hf => (pss_one (ps_ret (pe_lst (pa_cons pe_str (pa_cons (pe_lst (pa_cons (pe_xg hz hf (pv 3)) pa_nil)) pa_nil))))))
 (.as (i := 3) nd rfl rfl ⟨rfl, by decide, .inl T.X_Ring.m⟩ (fun a0 oe cls d0 pn hz hf => (pss_one (ps_ret (pe_lst (pa_cons pe_str (pa_cons (pe_lst (pa_cons (pe_xg hz hf (pv 3)) pa_nil)) pa_nil))))))
 (.as (i := 3) nd rfl rfl ⟨rfl, by decide, .inl T.X_UnknownPair.m⟩ (fun a0 oe cls d0 pn hz hf => (pss_one (ps_ret (pe_lst (pa_cons pe_str (pa_cons (pe_lst (pa_cons (pe_xg hz hf (pv 3)) pa_nil)) pa_nil))))))
 (.as (i := 3) nd rfl rfl ⟨rfl, by decide, .inl T.X_NotJoined.m⟩ (fun a0 oe cls d0 pn hz hf => (pss_one (ps_ret (pe_lst (pa_cons pe_str (pa_cons (pe_lst (pa_cons (pe_xg hz hf (pv 3)) (pa_cons (pe_xg hz hf (pv 3)) pa_nil))) pa_nil))))))
 (.as (i := 3) nd rfl rfl ⟨rfl, by decide, .inl T.X_Broken.m⟩ (fun a0 oe cls d0 pn hz hf => (pss_one (ps_ret (pe_lst (pa_cons pe_str (pa_cons (pe_lst (pa_cons (pe_xg hz hf (pv 3)) (pa_cons (pe_xg hz hf (pv 3)) (pa_cons (pe_xg hz hf (pv 3)) pa_nil)))) pa_nil))))))
 (.as (i := 3) nd rfl rfl ⟨rfl, by decide, .inl T.X_PairKept.m⟩ (fun a0 oe cls d0 pn hz hf => (pss_one (ps_ret (pe_lst (pa_cons pe_str (pa_cons (pe_lst (pa_cons (pe_xg hz hf (pv 3)) pa_nil)) pa_nil))))))
 .nil)))))))))))))))))
 (pss_one (ps_ret (pe_lst (pa_cons pe_str (pa_cons (pe_lst pa_nil) pa_nil)))))), ?_⟩
    refine ⟨_, rfl, _, rfl, _, rfl, i, v, xs, b, rfl, hi, trivial, hv, hlen, fun dx H1 h1 h2 h3 => ?_⟩
    refine ⟨decide (i = 0), exm_fact T hi (by decide), fun hb a0 _ => ?_, fun hb => ?_⟩
    · have hk : i = 0 := of_decide_eq_true hb
      subst hk
      obtain ⟨x0, r, rfl⟩ := len1 hlen
      refine ⟨_, rfl, c 0, dx, _, x0, rfl, rfl, T.X_InvalidPairs.xf hb_veT, T.X_InvalidPairs.no "value" (by decide), rfl, h3, (by show List.lookup ("value" : Str) ([("value", x0)] : List (Str × V)) = some x0; rw [lookup_put, if_pos rfl]), sz_of (show 1 ≤ 100000 by decide), fun q hq => ⟨sz_of (show 2 ≤ 100000 by decide), fun p hp => ?_⟩⟩
      have e3 := Ex.new (o := .lst [x0]) hq
      have e4 := Ex.new (o := .lst [.str (nm 0), .ref q]) hp
      exact k p q _ (fresh_back (h2.trans e3) hp) (fresh_back h2 hq) ((h2.trans e3).trans e4) upd_same (e4 _ _ upd_same)
    have n0 : i ≠ 0 := of_decide_eq_false hb
    refine ⟨decide (i = 1), exm_fact T hi (by decide), fun hb a0 _ => ?_, fun hb => ?_⟩
    · have hk : i = 1 := of_decide_eq_true hb
      subst hk
      obtain ⟨x0, r, rfl⟩ := len1 hlen
      refine ⟨_, rfl, c 1, dx, _, x0, rfl, rfl, T.X_InvalidPair.xf hb_veT, T.X_InvalidPair.no "value" (by decide), rfl, h3, (by show List.lookup ("value" : Str) ([("value", x0)] : List (Str × V)) = some x0; rw [lookup_put, if_pos rfl]), sz_of (show 1 ≤ 100000 by decide), fun q hq => ⟨sz_of (show 2 ≤ 100000 by decide), fun p hp => ?_⟩⟩
      have e3 := Ex.new (o := .lst [x0]) hq
      have e4 := Ex.new (o := .lst [.str (nm 1), .ref q]) hp
      exact k p q _ (fresh_back (h2.trans e3) hp) (fresh_back h2 hq) ((h2.trans e3).trans e4) upd_same (e4 _ _ upd_same)
    have n1 : i ≠ 1 := of_decide_eq_false hb
    refine ⟨decide (i = 2), exm_fact T hi (by decide), fun hb a0 _ => ?_, fun hb => ?_⟩
    · have hk : i = 2 := of_decide_eq_true hb
      subst hk
      obtain ⟨x0, r, rfl⟩ := len1 hlen
      refine ⟨_, rfl, c 2, dx, _, x0, rfl, rfl, T.X_InvalidDependencies.xf hb_veT, T.X_InvalidDependencies.no "value" (by decide), rfl, h3, (by show List.lookup ("value" : Str) ([("value", x0)] : List (Str × V)) = some x0; rw [lookup_put, if_pos rfl]), sz_of (show 1 ≤ 100000 by decide), fun q hq => ⟨sz_of (show 2 ≤ 100000 by decide), fun p hp => ?_⟩⟩
      have e3 := Ex.new (o := .lst [x0]) hq
      have e4 := Ex.new (o := .lst [.str (nm 2), .ref q]) hp
      exact k p q _ (fresh_back (h2.trans e3) hp) (fresh_back h2 hq) ((h2.trans e3).trans e4) upd_same (e4 _ _ upd_same)
    have n2 : i ≠ 2 := of_decide_eq_false hb
    refine ⟨decide (i = 3), exm_fact T hi (by decide), fun hb a0 _ => ?_, fun hb => ?_⟩
    · have hk : i = 3 := of_decide_eq_true hb
      subst hk
      obtain ⟨x0, r, rfl⟩ := len1 hlen
      refine ⟨_, rfl, c 3, dx, _, x0, rfl, rfl, T.X_InvalidWide.xf hb_veT, T.X_InvalidWide.no "value" (by decide), rfl, h3, (by show List.lookup ("value" : Str) ([("value", x0)] : List (Str × V)) = some x0; rw [lookup_put, if_pos rfl]), sz_of (show 1 ≤ 100000 by decide), fun q hq => ⟨sz_of (show 2 ≤ 100000 by decide), fun p hp => ?_⟩⟩
      have e3 := Ex.new (o := .lst [x0]) hq
      have e4 := Ex.new (o := .lst [.str (nm 3), .ref q]) hp
      exact k p q _ (fresh_back (h2.trans e3) hp) (fresh_back h2 hq) ((h2.trans e3).trans e4) upd_same (e4 _ _ upd_same)
    have n3 : i ≠ 3 := of_decide_eq_false hb
    refine ⟨decide (i = 4), exm_fact T hi (by decide), fun hb a0 _ => ?_, fun hb => ?_⟩
    · have hk : i = 4 := of_decide_eq_true hb
      subst hk
      obtain ⟨x0, r, rfl⟩ := len1 hlen
      refine ⟨_, rfl, c 4, dx, _, x0, rfl, rfl, T.X_InvalidRequest.xf hb_veT, T.X_InvalidRequest.no "value" (by decide), rfl, h3, (by show List.lookup ("value" : Str) ([("value", x0)] : List (Str × V)) = some x0; rw [lookup_put, if_pos rfl]), sz_of (show 1 ≤ 100000 by decide), fun q hq => ⟨sz_of (show 2 ≤ 100000 by decide), fun p hp => ?_⟩⟩
      have e3 := Ex.new (o := .lst [x0]) hq
      have e4 := Ex.new (o := .lst [.str (nm 4), .ref q]) hp
      exact k p q _ (fresh_back (h2.trans e3) hp) (fresh_back h2 hq) ((h2.trans e3).trans e4) upd_same (e4 _ _ upd_same)
    have n4 : i ≠ 4 := of_decide_eq_false hb
    refine ⟨decide (i = 5), exm_fact T hi (by decide), fun hb a0 _ => ?_, fun hb => ?_⟩
    · have hk : i = 5 := of_decide_eq_true hb
      subst hk
      obtain ⟨x0, r, rfl⟩ := len1 hlen
      refine ⟨_, rfl, c 5, dx, _, x0, rfl, rfl, T.X_InvalidRequests.xf hb_veT, T.X_InvalidRequests.no "value" (by decide), rfl, h3, (by show List.lookup ("value" : Str) ([("value", x0)] : List (Str × V)) = some x0; rw [lookup_put, if_pos rfl]), sz_of (show 1 ≤ 100000 by decide), fun q hq => ⟨sz_of (show 2 ≤ 100000 by decide), fun p hp => ?_⟩⟩
      have e3 := Ex.new (o := .lst [x0]) hq
      have e4 := Ex.new (o := .lst [.str (nm 5), .ref q]) hp
      exact k p q _ (fresh_back (h2.trans e3) hp) (fresh_back h2 hq) ((h2.trans e3).trans e4) upd_same (e4 _ _ upd_same)
    have n5 : i ≠ 5 := of_decide_eq_false hb
    refine ⟨decide (i = 7), exm_fact T hi (by decide), fun hb a0 _ => ?_, fun hb => ?_⟩
    · have hk : i = 7 := of_decide_eq_true hb
      subst hk
      obtain ⟨x0, r, rfl⟩ := len1 hlen
      refine ⟨_, rfl, c 7, dx, _, x0, rfl, rfl, T.X_InvalidKept.xf hb_veT, T.X_InvalidKept.no "value" (by decide), rfl, h3, (by show List.lookup ("value" : Str) ([("value", x0)] : List (Str × V)) = some x0; rw [lookup_put, if_pos rfl]), sz_of (show 1 ≤ 100000 by decide), fun q hq => ⟨sz_of (show 2 ≤ 100000 by decide), fun p hp => ?_⟩⟩
      have e3 := Ex.new (o := .lst [x0]) hq
      have e4 := Ex.new (o := .lst [.str (nm 7), .ref q]) hp
      exact k p q _ (fresh_back (h2.trans e3) hp) (fresh_back h2 hq) ((h2.trans e3).trans e4) upd_same (e4 _ _ upd_same)
    have n7 : i ≠ 7 := of_decide_eq_false hb
    refine ⟨decide (i = 8), exm_fact T hi (by decide), fun hb a0 _ => ?_, fun hb => ?_⟩
    · have hk : i = 8 := of_decide_eq_true hb
      subst hk
      obtain ⟨x0, r, rfl⟩ := len1 hlen
      refine ⟨_, rfl, c 8, dx, _, x0, rfl, rfl, T.X_InvalidJoin.xf hb_veT, T.X_InvalidJoin.no "value" (by decide), rfl, h3, (by show List.lookup ("value" : Str) ([("value", x0)] : List (Str × V)) = some x0; rw [lookup_put, if_pos rfl]), sz_of (show 1 ≤ 100000 by decide), fun q hq => ⟨sz_of (show 2 ≤ 100000 by decide), fun p hp => ?_⟩⟩
      have e3 := Ex.new (o := .lst [x0]) hq
      have e4 := Ex.new (o := .lst [.str (nm 8), .ref q]) hp
      exact k p q _ (fresh_back (h2.trans e3) hp) (fresh_back h2 hq) ((h2.trans e3).trans e4) upd_same (e4 _ _ upd_same)
    have n8 : i ≠ 8 := of_decide_eq_false hb
    refine ⟨decide (i = 9), exm_fact T hi (by decide), fun hb a0 _ => ?_, fun hb => ?_⟩
    · have hk : i = 9 := of_decide_eq_true hb
      subst hk
      obtain ⟨x0, r, rfl⟩ := len1 hlen
      refine ⟨_, rfl, c 9, dx, _, x0, rfl, rfl, T.X_InvalidJoins.xf hb_veT, T.X_InvalidJoins.no "value" (by decide), rfl, h3, (by show List.lookup ("value" : Str) ([("value", x0)] : List (Str × V)) = some x0; rw [lookup_put, if_pos rfl]), sz_of (show 1 ≤ 100000 by decide), fun q hq => ⟨sz_of (show 2 ≤ 100000 by decide), fun p hp => ?_⟩⟩
      have e3 := Ex.new (o := .lst [x0]) hq
      have e4 := Ex.new (o := .lst [.str (nm 9), .ref q]) hp
      exact k p q _ (fresh_back (h2.trans e3) hp) (fresh_back h2 hq) ((h2.trans e3).trans e4) upd_same (e4 _ _ upd_same)
    have n9 : i ≠ 9 := of_decide_eq_false hb
    refine ⟨decide (i = 10), exm_fact T hi (by decide), fun hb a0 _ => ?_, fun hb => ?_⟩
    · have hk : i = 10 := of_decide_eq_true hb
      subst hk
      obtain ⟨x0, r, rfl⟩ := len1 hlen
      refine ⟨_, rfl, c 10, dx, _, x0, rfl, rfl, T.X_InvalidTables.xf hb_veT, T.X_InvalidTables.no "value" (by decide), rfl, h3, (by show List.lookup ("value" : Str) ([("value", x0)] : List (Str × V)) = some x0; rw [lookup_put, if_pos rfl]), sz_of (show 1 ≤ 100000 by decide), fun q hq => ⟨sz_of (show 2 ≤ 100000 by decide), fun p hp => ?_⟩⟩
      have e3 := Ex.new (o := .lst [x0]) hq
      have e4 := Ex.new (o := .lst [.str (nm 10), .ref q]) hp
      exact k p q _ (fresh_back (h2.trans e3) hp) (fresh_back h2 hq) ((h2.trans e3).trans e4) upd_same (e4 _ _ upd_same)
    have n10 : i ≠ 10 := of_decide_eq_false hb
    refine ⟨decide (i = 6), exm_fact T hi (by decide), fun hb a0 _ => ?_, fun hb => ?_⟩
    · have hk : i = 6 := of_decide_eq_true hb
      subst hk
      obtain ⟨x0, r, rfl⟩ := len1 hlen
      refine ⟨_, rfl, c 6, dx, _, x0, rfl, rfl, T.X_DuplicateRequest.xf hb_veT, T.X_DuplicateRequest.no "request" (by decide), rfl, h3, (by show List.lookup ("request" : Str) ([("request", x0)] : List (Str × V)) = some x0; rw [lookup_put, if_pos rfl]), sz_of (show 1 ≤ 100000 by decide), fun q hq => ⟨sz_of (show 2 ≤ 100000 by decide), fun p hp => ?_⟩⟩
      have e3 := Ex.new (o := .lst [x0]) hq
      have e4 := Ex.new (o := .lst [.str (nm 6), .ref q]) hp
      exact k p q _ (fresh_back (h2.trans e3) hp) (fresh_back h2 hq) ((h2.trans e3).trans e4) upd_same (e4 _ _ upd_same)
    have n6 : i ≠ 6 := of_decide_eq_false hb
    refine ⟨decide (i = 11), exm_fact T hi (by decide), fun hb a0 _ => ?_, fun hb => ?_⟩
    · have hk : i = 11 := of_decide_eq_true hb
      subst hk
      obtain ⟨x0, r, rfl⟩ := len1 hlen
      refine ⟨_, rfl, c 11, dx, _, x0, rfl, rfl, T.X_Ring.xf hb_veT, T.X_Ring.no "index" (by decide), rfl, h3, (by show List.lookup ("index" : Str) ([("index", x0)] : List (Str × V)) = some x0; rw [lookup_put, if_pos rfl]), sz_of (show 1 ≤ 100000 by decide), fun q hq => ⟨sz_of (show 2 ≤ 100000 by decide), fun p hp => ?_⟩⟩
      have e3 := Ex.new (o := .lst [x0]) hq
      have e4 := Ex.new (o := .lst [.str (nm 11), .ref q]) hp
      exact k p q _ (fresh_back (h2.trans e3) hp) (fresh_back h2 hq) ((h2.trans e3).trans e4) upd_same (e4 _ _ upd_same)
    have n11 : i ≠ 11 := of_decide_eq_false hb
    refine ⟨decide (i = 12), exm_fact T hi (by decide), fun hb a0 _ => ?_, fun hb => ?_⟩
    · have hk : i = 12 := of_decide_eq_true hb
      subst hk
      obtain ⟨x0, r, rfl⟩ := len1 hlen
      refine ⟨_, rfl, c 12, dx, _, x0, rfl, rfl, T.X_UnknownPair.xf hb_keT, T.X_UnknownPair.no "pair" (by decide), rfl, h3, (by show List.lookup ("pair" : Str) ([("pair", x0)] : List (Str × V)) = some x0; rw [lookup_put, if_pos rfl]), sz_of (show 1 ≤ 100000 by decide), fun q hq => ⟨sz_of (show 2 ≤ 100000 by decide), fun p hp => ?_⟩⟩
      have e3 := Ex.new (o := .lst [x0]) hq
      have e4 := Ex.new (o := .lst [.str (nm 12), .ref q]) hp
      exact k p q _ (fresh_back (h2.trans e3) hp) (fresh_back h2 hq) ((h2.trans e3).trans e4) upd_same (e4 _ _ upd_same)
    have n12 : i ≠ 12 := of_decide_eq_false hb
    refine ⟨decide (i = 13), exm_fact T hi (by decide), fun hb a0 _ => ?_, fun hb => ?_⟩
    · have hk : i = 13 := of_decide_eq_true hb
      subst hk
      obtain ⟨x0, x1, r, rfl⟩ := len2 hlen
      refine ⟨_, rfl, c 13, dx, _, x0, rfl, rfl, T.X_NotJoined.xf hb_keT, T.X_NotJoined.no "one" (by decide), rfl, h3, (by show List.lookup ("one" : Str) ([("other", x1), ("one", x0)] : List (Str × V)) = some x0; rw [lookup_put, if_neg (by decide +kernel), lookup_put, if_pos rfl]), _, rfl, c 13, dx, _, x1, rfl, rfl, T.X_NotJoined.xf hb_keT, T.X_NotJoined.no "other" (by decide), rfl, h3, (by show List.lookup ("other" : Str) ([("other", x1), ("one", x0)] : List (Str × V)) = some x1; rw [lookup_put, if_pos rfl]), sz_of (show 2 ≤ 100000 by decide), fun q hq => ⟨sz_of (show 2 ≤ 100000 by decide), fun p hp => ?_⟩⟩
      have e3 := Ex.new (o := .lst [x0, x1]) hq
      have e4 := Ex.new (o := .lst [.str (nm 13), .ref q]) hp
      exact k p q _ (fresh_back (h2.trans e3) hp) (fresh_back h2 hq) ((h2.trans e3).trans e4) upd_same (e4 _ _ upd_same)
    have n13 : i ≠ 13 := of_decide_eq_false hb
    refine ⟨decide (i = 14), exm_fact T hi (by decide), fun hb a0 _ => ?_, fun hb => ?_⟩
    · have hk : i = 14 := of_decide_eq_true hb
      subst hk
      obtain ⟨x0, x1, x2, r, rfl⟩ := len3 hlen
      refine ⟨_, rfl, c 14, dx, _, x0, rfl, rfl, T.X_Broken.xf hb_leT, T.X_Broken.no "pair" (by decide), rfl, h3, (by show List.lookup ("pair" : Str) ([("other", x2), ("one", x1), ("pair", x0)] : List (Str × V)) = some x0; rw [lookup_put, if_neg (by decide +kernel), lookup_put, if_neg (by decide +kernel), lookup_put, if_pos rfl]), _, rfl, c 14, dx, _, x1, rfl, rfl, T.X_Broken.xf hb_leT, T.X_Broken.no "one" (by decide), rfl, h3, (by show List.lookup ("one" : Str) ([("other", x2), ("one", x1), ("pair", x0)] : List (Str × V)) = some x1; rw [lookup_put, if_neg (by decide +kernel), lookup_put, if_pos rfl]), _, rfl, c 14, dx, _, x2, rfl, rfl, T.X_Broken.xf hb_leT, T.X_Broken.no "other" (by decide), rfl, h3, (by show List.lookup ("other" : Str) ([("other", x2), ("one", x1), ("pair", x0)] : List (Str × V)) = some x2; rw [lookup_put, if_pos rfl]), sz_of (show 3 ≤ 100000 by decide), fun q hq => ⟨sz_of (show 2 ≤ 100000 by decide), fun p hp => ?_⟩⟩
      have e3 := Ex.new (o := .lst [x0, x1, x2]) hq
      have e4 := Ex.new (o := .lst [.str (nm 14), .ref q]) hp
      exact k p q _ (fresh_back (h2.trans e3) hp) (fresh_back h2 hq) ((h2.trans e3).trans e4) upd_same (e4 _ _ upd_same)
    have n14 : i ≠ 14 := of_decide_eq_false hb
    refine ⟨decide (i = 15), exm_fact T hi (by decide), fun hb a0 _ => ?_, fun hb => ?_⟩
    · have hk : i = 15 := of_decide_eq_true hb
      subst hk
      obtain ⟨x0, r, rfl⟩ := len1 hlen
      refine ⟨_, rfl, c 15, dx, _, x0, rfl, rfl, T.X_PairKept.xf hb_leT, T.X_PairKept.no "pair" (by decide), rfl, h3, (by show List.lookup ("pair" : Str) ([("pair", x0)] : List (Str × V)) = some x0; rw [lookup_put, if_pos rfl]), sz_of (show 1 ≤ 100000 by decide), fun q hq => ⟨sz_of (show 2 ≤ 100000 by decide), fun p hp => ?_⟩⟩
      have e3 := Ex.new (o := .lst [x0]) hq
      have e4 := Ex.new (o := .lst [.str (nm 15), .ref q]) hp
      exact k p q _ (fresh_back (h2.trans e3) hp) (fresh_back h2 hq) ((h2.trans e3).trans e4) upd_same (e4 _ _ upd_same)
    have n15 : i ≠ 15 := of_decide_eq_false hb
    exfalso
    omega
theorem ok__law_caught_back (T : All K mg a d tk c ci di) : FnOk P w K mg base CX0 5 (a 14) (d 14) ["word", "values", "by_name"] sp__law_caught := by
  refine T.F__law_caught_back.fn.ok sc__law_caught_back (fun vs H Q E h => ?_) (fun cdv A outer s H vs Q E hr h => ?_)
  · obtain ⟨i, v, xs, b, rfl, _⟩ := h
    rfl
  · obtain ⟨i, v, xs, b, rfl, hi, hv, hlen, k⟩ := h
    have nd := sc__law_caught_back.nd
    refine ⟨_, (pss_cons (ps_try_as2 rfl rfl takes_none5 (fun W pn xe tkW _ => (pss_one (ps_expr (pe_callS (ok__law_raise T) (hr.mono (by decide)) rfl T.F__law_raise.m T.F__law_raise.kp T.F__law_raise.b (fun σ => passAt tkW σ) (pa_cons (pv 0) (pa_cons (pv 1) (pa_cons (pv 2) pa_nil)))))))
 (.as (i := 3) nd rfl rfl ⟨rfl, by decide, .inl T.X_PairKept.m⟩ (fun a0 oe cls d0 pn hz hf => (pss_one (ps_ret (pe_lst (pa_cons pe_str (pa_cons (pe_lst (pa_cons (pe_xg hz hf (pv 3)) pa_nil)) pa_nil))))))
 (.as (i := 3) nd rfl rfl ⟨rfl, by decide, .inl T.X_Broken.m⟩ (fun a0 oe cls d0 pn hz hf => (pss_one (ps_ret (pe_lst (pa_cons pe_str (pa_cons (pe_lst (pa_cons (pe_xg hz hf (pv 3)) (pa_cons (pe_xg hz hf (pv 3)) (pa_cons (pe_xg hz hf (pv 3)) pa_nil)))) pa_nil))))))
 (.as (i := 3) nd rfl rfl ⟨rfl, by decide, .inl T.X_NotJoined.m⟩ (fun a0 oe cls d0 pn hz hf => (pss_one (ps_ret (pe_lst (pa_cons pe_str (pa_cons (pe_lst (pa_cons (pe_xg hz hf (pv 3)) (pa_cons (pe_xg hz hf (pv 3)) pa_nil))) pa_nil))))))
 (.as (i := 3) nd rfl rfl ⟨rfl, by decide, .inl T.X_UnknownPair.m⟩ (fun a0 oe cls d0 pn hz hf => (pss_one (ps_ret (pe_lst (pa_cons pe_str (pa_cons (pe_lst (pa_cons (pe_xg hz hf (pv 3)) pa_nil)) pa_nil))))))
 (.as (i := 3) nd rfl rfl ⟨rfl, by decide, .inl T.X_Ring.m⟩ (fun a0 oe cls d0 pn hz hf => (pss_one (ps_ret (pe_lst (pa_cons pe_str (pa_cons (pe_lst (pa_cons (pe_xg hz hf (pv 3)) pa_nil)) pa_nil))))))
 (.as (i := 3) nd rfl rfl ⟨rfl, by decide, .inl T.X_DuplicateRequest.m⟩ (fun a0 oe cls d0 pn hz hf => (pss_one (ps_ret (pe_lst (pa_cons pe_str (pa_cons (pe_lst (pa_cons (pe_xg hz hf (pv 3)) pa_nil)) pa_nil))))))
 (.as (i := 3) nd rfl rfl ⟨rfl, by decide, .inl T.X_InvalidTables.m⟩ (fun a0 oe cls d0 pn hz hf => (pss_one (ps_ret (pe_lst (pa_cons pe_str (pa_cons (pe_lst (pa_cons (pe_xg hz hf (pv 3)) pa_nil)) pa_nil))))))
 (.as (i := 3) nd rfl rfl ⟨rfl, by decide, .inl T.X_InvalidJoins.m⟩ (fun a0 oe cls d0 pn hz hf => (pss_one (ps_ret (pe_lst (pa_cons pe_str (pa_cons (pe_lst (pa_cons (pe_xg hz hf (pv 3)) pa_nil)) pa_nil))))))
 (.as (i := 3) nd rfl rfl ⟨rfl, by decide, .inl T.X_InvalidJoin.m⟩ (fun a0 oe cls d0 pn hz hf => (pss_one (ps_ret (pe_lst (pa_cons pe_str (pa_cons (pe_lst (pa_cons (pe_xg hz hf (pv 3)) pa_nil)) pa_nil))))))
 (.as (i := 3) nd rfl rfl ⟨rfl, by decide, .inl T.X_InvalidKept.m⟩ (fun a0 oe cls d0 pn hz hf => (pss_one (ps_ret (pe_lst (pa_cons pe_str (pa_cons (pe_lst (pa_cons (pe_xg hz hf (pv 3)) pa_nil)) pa_nil))))))
 (.as (i := 3) nd rfl rfl ⟨rfl, by decide, .inl T.X_InvalidRequests.m⟩ (fun a0 oe cls d0 pn hz hf => (pss_one (ps_ret (pe_lst (pa_cons pe_str (pa_cons (pe_lst (pa_cons (pe_xg hz hf (pv 3)) pa_nil)) pa_nil))))))
 (.as (i := 3) nd rfl rfl ⟨rfl, by decide, .inl T.X_InvalidRequest.m⟩ (fun a0 oe cls d0 pn hz hf => (pss_one (ps_ret (pe_lst (pa_cons pe_str (pa_cons (pe_lst (pa_cons (pe_xg hz hf (pv 3)) pa_nil)) pa_nil))))))
 (.as (i := 3) nd rfl rfl ⟨rfl, by decide, .inl T.X_InvalidWide.m⟩ (fun a0 oe cls d0 pn hz hf => (pss_one (ps_ret (pe_lst (pa_cons pe_str (pa_cons (pe_lst (pa_cons (pe_xg hz hf (pv 3)) pa_nil)) pa_nil))))))
 (.as (i := 3) nd rfl rfl ⟨rfl, by decide, .inl T.X_InvalidDependencies.m⟩ (fun a0 oe cls d0 pn hz hf => (pss_one (ps_ret (pe_lst (pa_cons pe_str (pa_cons (pe_lst (pa_cons (pe_xg hz hf (pv 3)) pa_nil)) pa_nil))))))
 (.as (i := 3) nd rfl rfl ⟨rfl, by decide, .inl T.X_InvalidPair.m⟩ (fun a0 oe cls d0 pn hz hf => (pss_one (ps_ret (pe_lst (pa_cons pe_str (pa_cons (pe_lst (pa_cons (pe_xg hz hf (pv 3)) pa_nil)) pa_nil))))))
 (.as (i := 3) nd rfl rfl ⟨rfl, by decide, .inl T.X_InvalidPairs.m⟩ (fun a0 oe cls d0 pn hz hf => (pss_one (ps_ret (pe_lst (pa_cons pe_str (pa_cons (pe_lst (pa_cons (pe_xg hz hf (pv 3)) pa_nil)) pa_nil))))))
 .nil)))))))))))))))))
 (pss_one (ps_ret (pe_lst (pa_cons pe_str (pa_cons (pe_lst pa_nil) pa_nil)))))), ?_⟩
    refine ⟨_, rfl, _, rfl, _, rfl, i, v, xs, b, rfl, hi, trivial, hv, hlen, fun dx H1 h1 h2 h3 => ?_⟩
    refine ⟨decide (i = 15), exm_fact T hi (by decide), fun hb a0 _ => ?_, fun hb => ?_⟩
    · have hk : i = 15 := of_decide_eq_true hb
      subst hk
      obtain ⟨x0, r, rfl⟩ := len1 hlen
      refine ⟨_, rfl, c 15, dx, _, x0, rfl, rfl, T.X_PairKept.xf hb_leT, T.X_PairKept.no "pair" (by decide), rfl, h3, (by show List.lookup ("pair" : Str) ([("pair", x0)] : List (Str × V)) = some x0; rw [lookup_put, if_pos rfl]), sz_of (show 1 ≤ 100000 by decide), fun q hq => ⟨sz_of (show 2 ≤ 100000 by decide), fun p hp => ?_⟩⟩
      have e3 := Ex.new (o := .lst [x0]) hq
      have e4 := Ex.new (o := .lst [.str (nm 15), .ref q]) hp
      exact k p q _ (fresh_back (h2.trans e3) hp) (fresh_back h2 hq) ((h2.trans e3).trans e4) upd_same (e4 _ _ upd_same)
    have n15 : i ≠ 15 := of_decide_eq_false hb
    refine ⟨decide (i = 14), exm_fact T hi (by decide), fun hb a0 _ => ?_, fun hb => ?_⟩
    · have hk : i = 14 := of_decide_eq_true hb
      subst hk
      obtain ⟨x0, x1, x2, r, rfl⟩ := len3 hlen
      refine ⟨_, rfl, c 14, dx, _, x0, rfl, rfl, T.X_Broken.xf hb_leT, T.X_Broken.no "pair" (by decide), rfl, h3, (by show List.lookup ("pair" : Str) ([("other", x2), ("one", x1), ("pair", x0)] : List (Str × V)) = some x0; rw [lookup_put, if_neg (by decide +kernel), lookup_put, if_neg (by decide +kernel), lookup_put, if_pos rfl]), _, rfl, c 14, dx, _, x1, rfl, rfl, T.X_Broken.xf hb_leT, T.X_Broken.no "one" (by decide), rfl, h3, (by show List.lookup ("one" : Str) ([("other", x2), ("one", x1), ("pair", x0)] : List (Str × V)) = some x1; rw [lookup_put, if_neg (by decide +kernel), lookup_put, if_pos rfl]), _, rfl, c 14, dx, _, x2, rfl, rfl, T.X_Broken.xf hb_leT, T.X_Broken.no "other" (by decide), rfl, h3, (by show List.lookup ("other" : Str) ([("other", x2), ("one", x1), ("pair", x0)] : List (Str × V)) = some x2; rw [lookup_put, if_pos rfl]), sz_of (show 3 ≤ 100000 by decide), fun q hq => ⟨sz_of (show 2 ≤ 100000 by decide), fun p hp => ?_⟩⟩
      have e3 := Ex.new (o := .lst [x0, x1, x2]) hq
      have e4 := Ex.new (o := .lst [.str (nm 14), .ref q]) hp
      exact k p q _ (fresh_back (h2.trans e3) hp) (fresh_back h2 hq) ((h2.trans e3).trans e4) upd_same (e4 _ _ upd_same)
    have n14 : i ≠ 14 := of_decide_eq_false hb
    refine ⟨decide (i = 13), exm_fact T hi (by decide), fun hb a0 _ => ?_, fun hb => ?_⟩
    · have hk : i = 13 := of_decide_eq_true hb
      subst hk
      obtain ⟨x0, x1, r, rfl⟩ := len2 hlen
      refine ⟨_, rfl, c 13, dx, _, x0, rfl, rfl, T.X_NotJoined.xf hb_keT, T.X_NotJoined.no "one" (by decide), rfl, h3, (by show List.lookup ("one" : Str) ([("other", x1), ("one", x0)] : List (Str × V)) = some x0; rw [lookup_put, if_neg (by decide +kernel), lookup_put, if_pos rfl]), _, rfl, c 13, dx, _, x1, rfl, rfl, T.X_NotJoined.xf hb_keT, T.X_NotJoined.no "other" (by decide), rfl, h3, (by show List.lookup ("other" : Str) ([("other", x1), ("one", x0)] : List (Str × V)) = some x1; rw [lookup_put, if_pos rfl]), sz_of (show 2 ≤ 100000 by decide), fun q hq => ⟨sz_of (show 2 ≤ 100000 by decide), fun p hp => ?_⟩⟩
      have e3 := Ex.new (o := .lst [x0, x1]) hq
      have e4 := Ex.new (o := .lst [.str (nm 13), .ref q]) hp
      exact k p q _ (fresh_back (h2.trans e3) hp) (fresh_back h2 hq) ((h2.trans e3).trans e4) upd_same (e4 _ _ upd_same)
    have n13 : i ≠ 13 := of_decide_eq_false hb
    refine ⟨decide (i = 12), exm_fact T hi (by decide), fun hb a0 _ => ?_, fun hb => ?_⟩
    · have hk : i = 12 := of_decide_eq_true hb
      subst hk
      obtain ⟨x0, r, rfl⟩ := len1 hlen
      refine ⟨_, rfl, c 12, dx, _, x0, rfl, rfl, T.X_UnknownPair.xf hb_keT, T.X_UnknownPair.no "pair" (by decide), rfl, h3, (by show List.lookup ("pair" : Str) ([("pair", x0)] : List (Str × V)) = some x0; rw [lookup_put, if_pos rfl]), sz_of (show 1 ≤ 100000 by decide), fun q hq => ⟨sz_of (show 2 ≤ 100000 by decide), fun p hp => ?_⟩⟩
      have e3 := Ex.new (o := .lst [x0]) hq
      have e4 := Ex.new (o := .lst [.str (nm 12), .ref q]) hp
      exact k p q _ (fresh_back (h2.trans e3) hp) (fresh_back h2 hq) ((h2.trans e3).trans e4) upd_same (e4 _ _ upd_same)
    have n12 : i ≠ 12 := of_decide_eq_false hb
    refine ⟨decide (i = 11), exm_fact T hi (by decide), fun hb a0 _ => ?_, fun hb => ?_⟩
    · have hk : i = 11 := of_decide_eq_true hb
      subst hk
      obtain ⟨x0, r, rfl⟩ := len1 hlen
      refine ⟨_, rfl, c 11, dx, _, x0, rfl, rfl, T.X_Ring.xf hb_veT, T.X_Ring.no "index" (by decide), rfl, h3, (by show List.lookup ("index" : Str) ([("index", x0)] : List (Str × V)) = some x0; rw [lookup_put, if_pos rfl]), sz_of (show 1 ≤ 100000 by decide), fun q hq => ⟨sz_of (show 2 ≤ 100000 by decide), fun p hp => ?_⟩⟩
      have e3 := Ex.new (o := .lst [x0]) hq
      have e4 := Ex.new (o := .lst [.str (nm 11), .ref q]) hp
      exact k p q _ (fresh_back (h2.trans e3) hp) (fresh_back h2 hq) ((h2.trans e3).trans e4) upd_same (e4 _ _ upd_same)
    have n11 : i ≠ 11 := of_decide_eq_false hb
    refine ⟨decide (i = 6), exm_fact T hi (by decide), fun hb a0 _ => ?_, fun hb => ?_⟩
    · have hk : i = 6 := of_decide_eq_true hb
      subst hk
      obtain ⟨x0, r, rfl⟩ := len1 hlen
      refine ⟨_, rfl, c 6, dx, _, x0, rfl, rfl, T.X_DuplicateRequest.xf hb_veT, T.X_DuplicateRequest.no "request" (by decide), rfl, h3, (by show List.lookup ("request" : Str) ([("request", x0)] : List (Str × V)) = some x0; rw [lookup_put, if_pos rfl]), sz_of (show 1 ≤ 100000 by decide), fun q hq => ⟨sz_of (show 2 ≤ 100000 by decide), fun p hp => ?_⟩⟩
      have e3 := Ex.new (o := .lst [x0]) hq
      have e4 := Ex.new (o := .lst [.str (nm 6), .ref q]) hp
      exact k p q _ (fresh_back (h2.trans e3) hp) (fresh_back h2 hq) ((h2.trans e3).trans e4) upd_same (e4 _ _ upd_same)
    have n6 : i ≠ 6 := of_decide_eq_false hb
    refine ⟨decide (i = 10), exm_fact T hi (by decide), fun hb a0 _ => ?_, fun hb => ?_⟩
    · have hk : i = 10 := of_decide_eq_true hb
      subst hk
      obtain ⟨x0, r, rfl⟩ := len1 hlen
      refine ⟨_, rfl, c 10, dx, _, x0, rfl, rfl, T.X_InvalidTables.xf hb_veT, T.X_InvalidTables.no "value" (by decide), rfl, h3, (by show List.lookup ("value" : Str) ([("value", x0)] : List (Str × V)) = some x0; rw [lookup_put, if_pos rfl]), sz_of (show 1 ≤ 100000 by decide), fun q hq => ⟨sz_of (show 2 ≤ 100000 by decide), fun p hp => ?_⟩⟩
      have e3 := Ex.new (o := .lst [x0]) hq
      have e4 := Ex.new (o := .lst [.str (nm 10), .ref q]) hp
      exact k p q _ (fresh_back (h2.trans e3) hp) (fresh_back h2 hq) ((h2.trans e3).trans e4) upd_same (e4 _ _ upd_same)
    have n10 : i ≠ 10 := of_decide_eq_false hb
    refine ⟨decide (i = 9), exm_fact T hi (by decide), fun hb a0 _ => ?_, fun hb => ?_⟩
    · have hk : i = 9 := of_decide_eq_true hb
      subst hk
      obtain ⟨x0, r, rfl⟩ := len1 hlen
      refine ⟨_, rfl, c 9, dx, _, x0, rfl, rfl, T.X_InvalidJoins.xf hb_veT, T.X_InvalidJoins.no "value" (by decide), rfl, h3, (by show List.lookup ("value" : Str) ([("value", x0)] : List (Str × V)) = some x0; rw [lookup_put, if_pos rfl]), sz_of (show 1 ≤ 100000 by decide), fun q hq => ⟨sz_of (show 2 ≤ 100000 by decide), fun p hp => ?_⟩⟩
      have e3 := Ex.new (o := .lst [x0]) hq
      have e4 := Ex.new (o := .lst [.str (nm 9), .ref q]) hp
      exact k p q _ (fresh_back (h2.trans e3) hp) (fresh_back h2 hq) ((h2.trans e3).trans e4) upd_same (e4 _ _ upd_same)
    have n9 : i ≠ 9 := of_decide_eq_false hb
    refine ⟨decide (i = 8), exm_fact T hi (by decide), fun hb a0 _ => ?_, fun hb => ?_⟩
    · have hk : i = 8 := of_decide_eq_true hb
      subst hk
      obtain ⟨x0, r, rfl⟩ := len1 hlen
      refine ⟨_, rfl, c 8, dx, _, x0, rfl, rfl, T.X_InvalidJoin.xf hb_veT, T.X_InvalidJoin.no "value" (by decide), rfl, h3, (by show List.lookup ("value" : Str) ([("value", x0)] : List (Str × V)) = some x0; rw [lookup_put, if_pos rfl]), sz_of (show 1 ≤ 100000 by decide), fun q hq => ⟨sz_of (show 2 ≤ 100000 by decide), fun p hp => ?_⟩⟩
      have e3 := Ex.new (o := .lst [x0]) hq
      have e4 := Ex.new (o := .lst [.str (nm 8), .ref q]) hp
      exact k p q _ (fresh_back (h2.trans e3) hp) (fresh_back h2 hq) ((h2.trans e3).trans e4) upd_same (e4 _ _ upd_same)
    have n8 : i ≠ 8 := of_decide_eq_false hb
    refine ⟨decide (i = 7), exm_fact T hi (by decide), fun hb a0 _ => ?_, fun hb => ?_⟩
    · have hk : i = 7 := of_decide_eq_true hb
      subst hk
      obtain ⟨x0, r, rfl⟩ := len1 hlen
      refine ⟨_, rfl, c 7, dx, _, x0, rfl, rfl, T.X_InvalidKept.xf hb_veT, T.X_InvalidKept.no "value" (by decide), rfl, h3, (by show List.lookup ("value" : Str) ([("value", x0)] : List (Str × V)) = some x0; rw [lookup_put, if_pos rfl]), sz_of (show 1 ≤ 100000 by decide), fun q hq => ⟨sz_of (show 2 ≤ 100000 by decide), fun p hp => ?_⟩⟩
      have e3 := Ex.new (o := .lst [x0]) hq
      have e4 := Ex.new (o := .lst [.str (nm 7), .ref q]) hp
      exact k p q _ (fresh_back (h2.trans e3) hp) (fresh_back h2 hq) ((h2.trans e3).trans e4) upd_same (e4 _ _ upd_same)
    have n7 : i ≠ 7 := of_decide_eq_false hb
    refine ⟨decide (i = 5), exm_fact T hi (by decide), fun hb a0 _ => ?_, fun hb => ?_⟩
    · have hk : i = 5 := of_decide_eq_true hb
      subst hk
      obtain ⟨x0, r, rfl⟩ := len1 hlen
      refine ⟨_, rfl, c 5, dx, _, x0, rfl, rfl, T.X_InvalidRequests.xf hb_veT, T.X_InvalidRequests.no "value" (by decide), rfl, h3, (by show List.lookup ("value" : Str) ([("value", x0)] : List (Str × V)) = some x0; rw [lookup_put, if_pos rfl]), sz_of (show 1 ≤ 100000 by decide), fun q hq => ⟨sz_of (show 2 ≤ 100000 by decide), fun p hp => ?_⟩⟩
      have e3 := Ex.new (o := .lst [x0]) hq
      have e4 := Ex.new (o := .lst [.str (nm 5), .ref q]) hp
      exact k p q _ (fresh_back (h2.trans e3) hp) (fresh_back h2 hq) ((h2.trans e3).trans e4) upd_same (e4 _ _ upd_same)
    have n5 : i ≠ 5 := of_decide_eq_false hb
    refine ⟨decide (i = 4), exm_fact T hi (by decide), fun hb a0 _ => ?_, fun hb => ?_⟩
    · have hk : i = 4 := of_decide_eq_true hb
      subst hk
      obtain ⟨x0, r, rfl⟩ := len1 hlen
      refine ⟨_, rfl, c 4, dx, _, x0, rfl, rfl, T.X_InvalidRequest.xf hb_veT, T.X_InvalidRequest.no "value" (by decide), rfl, h3, (by show List.lookup ("value" : Str) ([("value", x0)] : List (Str × V)) = some x0; rw [lookup_put, if_pos rfl]), sz_of (show 1 ≤ 100000 by decide), fun q hq => ⟨sz_of (show 2 ≤ 100000 by decide), fun p hp => ?_⟩⟩
      have e3 := Ex.new (o := .lst [x0]) hq
      have e4 := Ex.new (o := .lst [.str (nm 4), .ref q]) hp
      exact k p q _ (fresh_back (h2.trans e3) hp) (fresh_back h2 hq) ((h2.trans e3).trans e4) upd_same (e4 _ _ upd_same)
    have n4 : i ≠ 4 := of_decide_eq_false hb
    refine ⟨decide (i = 3), exm_fact T hi (by decide), fun hb a0 _ => ?_, fun hb => ?_⟩
    · have hk : i = 3 := of_decide_eq_true hb
      subst hk
      obtain ⟨x0, r, rfl⟩ := len1 hlen
      refine ⟨_, rfl, c 3, dx, _, x0, rfl, rfl, T.X_InvalidWide.xf hb_veT, T.X_InvalidWide.no "value" (by decide), rfl, h3, (by show List.lookup ("value" : Str) ([("value", x0)] : List (Str × V)) = some x0; rw [lookup_put, if_pos rfl]), sz_of (show 1 ≤ 100000 by decide), fun q hq => ⟨sz_of (show 2 ≤ 100000 by decide), fun p hp => ?_⟩⟩
      have e3 := Ex.new (o := .lst [x0]) hq
      have e4 := Ex.new (o := .lst [.str (nm 3), .ref q]) hp
      exact k p q _ (fresh_back (h2.trans e3) hp) (fresh_back h2 hq) ((h2.trans e3).trans e4) upd_same (e4 _ _ upd_same)
    have n3 : i ≠ 3 := of_decide_eq_false hb
    refine ⟨decide (i = 2), exm_fact T hi (by decide), fun hb a0 _ => ?_, fun hb => ?_⟩
    · have hk : i = 2 := of_decide_eq_true hb
      subst hk
      obtain ⟨x0, r, rfl⟩ := len1 hlen
      refine ⟨_, rfl, c 2, dx, _, x0, rfl, rfl, T.X_InvalidDependencies.xf hb_veT, T.X_InvalidDependencies.no "value" (by decide), rfl, h3, (by show List.lookup ("value" : Str) ([("value", x0)] : List (Str × V)) = some x0; rw [lookup_put, if_pos rfl]), sz_of (show 1 ≤ 100000 by decide), fun q hq => ⟨sz_of (show 2 ≤ 100000 by decide), fun p hp => ?_⟩⟩
      have e3 := Ex.new (o := .lst [x0]) hq
      have e4 := Ex.new (o := .lst [.str (nm 2), .ref q]) hp
      exact k p q _ (fresh_back (h2.trans e3) hp) (fresh_back h2 hq) ((h2.trans e3).trans e4) upd_same (e4 _ _ upd_same)
    have n2 : i ≠ 2 := of_decide_eq_false hb
    refine ⟨decide (i = 1), exm_fact T hi (by decide), fun hb a0 _ => ?_, fun hb => ?_⟩
    · have hk : i = 1 := of_decide_eq_true hb
      subst hk
      obtain ⟨x0, r, rfl⟩ := len1 hlen
      refine ⟨_, rfl, c 1, dx, _, x0, rfl, rfl, T.X_InvalidPair.xf hb_veT, T.X_InvalidPair.no "value" (by decide), rfl, h3, (by show List.lookup ("value" : Str) ([("value", x0)] : List (Str × V)) = some x0; rw [lookup_put, if_pos rfl]), sz_of (show 1 ≤ 100000 by decide), fun q hq => ⟨sz_of (show 2 ≤ 100000 by decide), fun p hp => ?_⟩⟩
      have e3 := Ex.new (o := .lst [x0]) hq
      have e4 := Ex.new (o := .lst [.str (nm 1), .ref q]) hp
      exact k p q _ (fresh_back (h2.trans e3) hp) (fresh_back h2 hq) ((h2.trans e3).trans e4) upd_same (e4 _ _ upd_same)
    have n1 : i ≠ 1 := of_decide_eq_false hb
    refine ⟨decide (i = 0), exm_fact T hi (by decide), fun hb a0 _ => ?_, fun hb => ?_⟩
    · have hk : i = 0 := of_decide_eq_true hb
      subst hk
      obtain ⟨x0, r, rfl⟩ := len1 hlen
      refine ⟨_, rfl, c 0, dx, _, x0, rfl, rfl, T.X_InvalidPairs.xf hb_veT, T.X_InvalidPairs.no "value" (by decide), rfl, h3, (by show List.lookup ("value" : Str) ([("value", x0)] : List (Str × V)) = some x0; rw [lookup_put, if_pos rfl]), sz_of (show 1 ≤ 100000 by decide), fun q hq => ⟨sz_of (show 2 ≤ 100000 by decide), fun p hp => ?_⟩⟩
      have e3 := Ex.new (o := .lst [x0]) hq
      have e4 := Ex.new (o := .lst [.str (nm 0), .ref q]) hp
      exact k p q _ (fresh_back (h2.trans e3) hp) (fresh_back h2 hq) ((h2.trans e3).trans e4) upd_same (e4 _ _ upd_same)
    have n0 : i ≠ 0 := of_decide_eq_false hb
    exfalso
    omega
def bnm : Nat → Str
  | 16 => "search"
  | 17 => "missing"
  | _ => "state"
def sp__law_base : Sp := fun vs H Q _ => ∃ (i : Nat) (v : Addr) (xs : List V) (b : Bool), vs = [.str (nm i), .ref v, .bl b] ∧ i < 16 ∧ H v = some (.lst xs) ∧ (fls i).length ≤ xs.length ∧
  ∀ p H2, H p = none → Ex H H2 → H2 p = some (.lst [.str (bnm (bs i)), .bl true]) → Q (.ref p) H2
theorem ok__law_base (T : All K mg a d tk c ci di) : FnOk P w K mg base CX0 5 (a 15) (d 15) ["word", "values", "by_name"] sp__law_base := by
  refine T.F__law_base.fn.ok sc__law_base (fun vs H Q E h => ?_) (fun cdv A outer s H vs Q E hr h => ?_)
  · obtain ⟨i, v, xs, b, rfl, _⟩ := h
    rfl
  · obtain ⟨i, v, xs, b, rfl, hi, hv, hlen, k⟩ := h
    have nd := sc__law_base.nd
    refine ⟨_, (pss_cons (ps_try_as2 rfl rfl takes_none5 (fun W pn xe tkW _ => (pss_one (ps_expr (pe_callS (ok__law_raise T) (hr.mono (by decide)) rfl T.F__law_raise.m T.F__law_raise.kp T.F__law_raise.b (fun σ => passAt tkW σ) (pa_cons (pv 0) (pa_cons (pv 1) (pa_cons (pv 2) pa_nil)))))))
 (.as (i := 3) nd rfl rfl ⟨rfl, by decide, .inl T.B_SearchError.m⟩ (fun a0 oe cls d0 pn hz hf => (pss_one (ps_ret (pe_lst (pa_cons pe_str (pa_cons (pe_callB (call_isX hz hf) (by rfl) T.n_isinstance PyProof.Rows.boot_isinstance (pa_cons (pv 3) (pa_cons (pe_bltn (v := .ty "ValueError") rfl T.n_ValueError boot_ValueError rfl) pa_nil))) pa_nil))))))
 (.as (i := 3) nd rfl rfl ⟨rfl, by decide, .inl T.B_MissingError.m⟩ (fun a0 oe cls d0 pn hz hf => (pss_one (ps_ret (pe_lst (pa_cons pe_str (pa_cons (pe_callB (call_isX hz hf) (by rfl) T.n_isinstance PyProof.Rows.boot_isinstance (pa_cons (pv 3) (pa_cons (pe_bltn (v := .ty "KeyError") rfl T.n_KeyError boot_KeyError rfl) pa_nil))) pa_nil))))))
 (.as (i := 3) nd rfl rfl ⟨rfl, by decide, .inl T.B_StateError.m⟩ (fun a0 oe cls d0 pn hz hf => (pss_one (ps_ret (pe_lst (pa_cons pe_str (pa_cons (pe_and (pe_callB (call_isX hz hf) (by rfl) T.n_isinstance PyProof.Rows.boot_isinstance (pa_cons (pv 3) (pa_cons (pe_bltn (v := .ty "LookupError") rfl T.n_LookupError boot_LookupError rfl) pa_nil))) (pe_one (pe_not (pe_callB (call_isX hz hf) (by rfl) T.n_isinstance PyProof.Rows.boot_isinstance (pa_cons (pv 3) (pa_cons (pe_bltn (v := .ty "KeyError") rfl T.n_KeyError boot_KeyError rfl) pa_nil)))))) pa_nil))))))
 .nil))))
 (pss_one (ps_ret (pe_lst (pa_cons pe_str (pa_cons pe_bl pa_nil)))))), ?_⟩
    obtain ⟨b1, b2⟩ := bs_lt i hi
    refine ⟨_, rfl, _, rfl, _, rfl, i, v, xs, b, rfl, hi, trivial, hv, hlen, fun dx H1 h1 h2 h3 => ?_⟩
    refine ⟨decide (bs i = 16), exm_base T hi (by decide) (by decide), fun hb a0 _ => ?_, fun hb => ?_⟩
    · have hk : bs i = 16 := of_decide_eq_true hb
      rw [hk] at k
      have t0 : PySem.W.kitOne K (.ref (c i)) (.type "ValueError") = some true := by
        rw [kit_fact T "ValueError" (by decide +kernel) i hi, hk, List.contains_cons]
        exact congrArg some (by decide +kernel : (false || (tlb 16).contains (.type "ValueError")) = true)
      refine ⟨_, rfl, c i, dx, _, .ty "ValueError", .type "ValueError", true, rfl, rfl, rfl, exc_fact T i hi, h3, (fun _ h => h), t0, sz_of (show 2 ≤ 100000 by decide), fun p hp => ?_⟩
      exact k p _ (fresh_back h2 hp) (h2.trans (Ex.new hp)) upd_same
    have n16 : bs i ≠ 16 := of_decide_eq_false hb
    refine ⟨decide (bs i = 17), exm_base T hi (by decide) (by decide), fun hb a0 _ => ?_, fun hb => ?_⟩
    · have hk : bs i = 17 := of_decide_eq_true hb
      rw [hk] at k
      have t0 : PySem.W.kitOne K (.ref (c i)) (.type "KeyError") = some true := by
        rw [kit_fact T "KeyError" (by decide +kernel) i hi, hk, List.contains_cons]
        exact congrArg some (by decide +kernel : (false || (tlb 17).contains (.type "KeyError")) = true)
      refine ⟨_, rfl, c i, dx, _, .ty "KeyError", .type "KeyError", true, rfl, rfl, rfl, exc_fact T i hi, h3, (fun _ h => h), t0, sz_of (show 2 ≤ 100000 by decide), fun p hp => ?_⟩
      exact k p _ (fresh_back h2 hp) (h2.trans (Ex.new hp)) upd_same
    have n17 : bs i ≠ 17 := of_decide_eq_false hb
    refine ⟨decide (bs i = 18), exm_base T hi (by decide) (by decide), fun hb a0 _ => ?_, fun hb => ?_⟩
    · have hk : bs i = 18 := of_decide_eq_true hb
      rw [hk] at k
      have t0 : PySem.W.kitOne K (.ref (c i)) (.type "LookupError") = some true := by
        rw [kit_fact T "LookupError" (by decide +kernel) i hi, hk, List.contains_cons]
        exact congrArg some (by decide +kernel : (false || (tlb 18).contains (.type "LookupError")) = true)
      have t1 : PySem.W.kitOne K (.ref (c i)) (.type "KeyError") = some false := by
        rw [kit_fact T "KeyError" (by decide +kernel) i hi, hk, List.contains_cons]
        exact congrArg some (by decide +kernel : (false || (tlb 18).contains (.type "KeyError")) = false)
      refine ⟨_, rfl, c i, dx, _, .ty "LookupError", .type "LookupError", true, rfl, rfl, rfl, exc_fact T i hi, h3, (fun _ h => h), t0, _, rfl, _, rfl, c i, dx, _, .ty "KeyError", .type "KeyError", false, rfl, rfl, rfl, exc_fact T i hi, h3, (fun _ h => h), t1, _, rfl, sz_of (show 2 ≤ 100000 by decide), fun p hp => ?_⟩
      exact k p _ (fresh_back h2 hp) (h2.trans (Ex.new hp)) upd_same
    have n18 : bs i ≠ 18 := of_decide_eq_false hb
    exfalso
    omega
end
end Mv
/-! The same things. -/
namespace Mv
open PySem PySem.Spec PyProof.Rows L2 Evl
/-- no part in the heap -/
inductive Prim : V → Prop
  | non : Prim .non
  | bl (b : Bool) : Prim (.bl b)
  | int (i : Int) : Prim (.int i)
  | str (s : Str) : Prim (.str s)
/-- its own text tells all of it -/
inductive Txt (c : Nat → Addr) (H : Hp) (p : Addr) : Prop
  | dct (q : Addr) (h : H p = some (.dK [(.inr "a", .ref q)])) (h1 : H q = some (.lst [.int 1])) : Txt c H p
  | ord (dx l : Addr) (h : H p = some (.ins (c 19) dx (flO l))) (h1 : H l = some (.lst [.str "a", .str "b"])) : Txt c H p
  | dep (dx l m u v : Addr) (h : DepAt (c 20) dx H p l m u v) : Txt c H p
theorem Txt.ex {c : Nat → Addr} {H H' : Hp} {p : Addr} (h : Txt c H p) (e : Ex H H') : Txt c H' p := by
  cases h with
  | dct q h h1 => exact .dct q (e _ _ h) (e _ _ h1)
  | ord dx l h h1 => exact .ord dx l (e _ _ h) (e _ _ h1)
  | dep dx l m u v h => exact .dep dx l m u v ⟨e _ _ h.p, e _ _ h.l, e _ _ h.m, e _ _ h.u, e _ _ h.v⟩
/-- the same, n levels deep at most -/
def Sm (c : Nat → Addr) (H : Hp) : Nat → V → V → Prop
  | 0, _, _ => False
  | n + 1, x, y => (x = y ∧ Prim x) ∨ (∃ p, x = .ref p ∧ y = .ref p ∧ Txt c H p) ∨ ∃ p q xs ys, x = .ref p ∧ y = .ref q ∧ ((H p = some (.lst xs) ∧ H q = some (.lst ys)) ∨ (H p = some (.tup xs) ∧ H q = some (.tup ys))) ∧ xs.length ≤ 60 ∧ Paired (Sm c H n) xs ys
theorem Sm.ex {c : Nat → Addr} {H H' : Hp} (e : Ex H H') : ∀ {n : Nat} {x y : V}, Sm c H n x y → Sm c H' n x y
  | 0, _, _, h => h
  | n + 1, _, _, .inl h => .inl h
  | n + 1, _, _, .inr (.inl ⟨p, h1, h2, h3⟩) => .inr (.inl ⟨p, h1, h2, h3.ex e⟩)
  | n + 1, _, _, .inr (.inr ⟨p, q, xs, ys, h1, h2, h3, h4, h5⟩) => .inr (.inr ⟨p, q, xs, ys, h1, h2, h3.elim (fun z => .inl ⟨e _ _ z.1, e _ _ z.2⟩) (fun z => .inr ⟨e _ _ z.1, e _ _ z.2⟩), h4, Paired.imp (fun _ _ z => z.ex e) h5⟩)
theorem Sm.up {c : Nat → Addr} {H : Hp} : ∀ {n m : Nat} {x y : V}, n ≤ m → Sm c H n x y → Sm c H m x y
  | 0, _, _, _, _, h => h.elim
  | n + 1, m + 1, _, _, _, .inl h => .inl h
  | n + 1, m + 1, _, _, _, .inr (.inl h) => .inr (.inl h)
  | n + 1, m + 1, _, _, l, .inr (.inr ⟨p, q, xs, ys, h1, h2, h3, h4, h5⟩) => .inr (.inr ⟨p, q, xs, ys, h1, h2, h3, h4, Paired.imp (fun _ _ z => z.up (Nat.le_of_succ_le_succ l)) h5⟩)
/-- what isinstance says, for bool, int, str, list, tuple -/
def Is5 (K : PySem.W.Frag) (H : Hp) (x : V) (b i s l t : Bool) : Prop := ∃ ty, (∀ H1, Ex H H1 → TyX K H1 x ty) ∧ PySem.W.kitOne K ty (.type "bool") = some b ∧ PySem.W.kitOne K ty (.type "int") = some i ∧ PySem.W.kitOne K ty (.type "str") = some s ∧ PySem.W.kitOne K ty (.type "list") = some l ∧ PySem.W.kitOne K ty (.type "tuple") = some t
section
variable {K : PySem.W.Frag} {σ : L2.St} {H H' : Hp} {ta : TE} {x : V} {v1 v2 v3 v4 v5 : Bool}
theorem Is5.ex (h : Is5 K H x v1 v2 v3 v4 v5) (e : Ex H H') : Is5 K H' x v1 v2 v3 v4 v5 := let ⟨ty, h1, h2⟩ := h; ⟨ty, fun H1 e1 => h1 H1 (e.trans e1), h2⟩
theorem Is5.b (h : Is5 K H x v1 v2 v3 v4 v5) (v : Ev ta σ H x) : Ev (tCB (rIsi K) (tCons ta (tCons (tC (.ty "bool")) tNil))) σ H (.bl v1) := let ⟨_, h1, h2, _⟩ := h; ev_isi v h1 h2
theorem Is5.i (h : Is5 K H x v1 v2 v3 v4 v5) (v : Ev ta σ H x) : Ev (tCB (rIsi K) (tCons ta (tCons (tC (.ty "int")) tNil))) σ H (.bl v2) := let ⟨_, h1, _, h2, _⟩ := h; ev_isi v h1 h2
theorem Is5.s (h : Is5 K H x v1 v2 v3 v4 v5) (v : Ev ta σ H x) : Ev (tCB (rIsi K) (tCons ta (tCons (tC (.ty "str")) tNil))) σ H (.bl v3) := let ⟨_, h1, _, _, h2, _⟩ := h; ev_isi v h1 h2
theorem Is5.l (h : Is5 K H x v1 v2 v3 v4 v5) (v : Ev ta σ H x) : Ev (tCB (rIsi K) (tCons ta (tCons (tC (.ty "list")) tNil))) σ H (.bl v4) := let ⟨_, h1, _, _, _, h2, _⟩ := h; ev_isi v h1 h2
theorem Is5.t (h : Is5 K H x v1 v2 v3 v4 v5) (v : Ev ta σ H x) : Ev (tCB (rIsi K) (tCons ta (tCons (tC (.ty "tuple")) tNil))) σ H (.bl v5) := let ⟨_, h1, _, _, _, _, h2⟩ := h; ev_isi v h1 h2
theorem Is5.lt (h : Is5 K H x v1 v2 v3 v4 v5) (v : Ev ta σ H x) : Ev (tCB (rIsiT K) (tCons ta (tCons (tTup (tCons (tC (.ty "list")) (tCons (tC (.ty "tuple")) tNil))) tNil))) σ H (.bl (v4 || v5)) := by
  obtain ⟨ty, h1, _, _, _, h2, h3⟩ := h
  refine ev_isiT v h1 ?_
  cases v4 with
  | true => exact kitAny_cons h2 (fun h => nomatch h) fun _ => rfl
  | false =>
    refine kitAny_cons h2 (fun _ => ?_) fun h => nomatch h
    cases v5 with
    | true => exact kitAny_cons h3 (fun h => nomatch h) fun _ => rfl
    | false => exact kitAny_cons h3 (fun _ => rfl) fun h => nomatch h
theorem is_non : Is5 K H .non false false false false false := ⟨_, fun _ _ => .base .non, kit_ty (by decide +kernel), kit_ty (by decide +kernel), kit_ty (by decide +kernel), kit_ty (by decide +kernel), kit_ty (by decide +kernel)⟩
theorem is_bl {z : Bool} : Is5 K H (.bl z) true true false false false := ⟨_, fun _ _ => .base (.bl z), kit_ty (by decide +kernel), kit_ty (by decide +kernel), kit_ty (by decide +kernel), kit_ty (by decide +kernel), kit_ty (by decide +kernel)⟩
theorem is_int {z : Int} : Is5 K H (.int z) false true false false false := ⟨_, fun _ _ => .base (.int z), kit_ty (by decide +kernel), kit_ty (by decide +kernel), kit_ty (by decide +kernel), kit_ty (by decide +kernel), kit_ty (by decide +kernel)⟩
theorem is_str {z : Str} : Is5 K H (.str z) false false true false false := ⟨_, fun _ _ => .base (.str z), kit_ty (by decide +kernel), kit_ty (by decide +kernel), kit_ty (by decide +kernel), kit_ty (by decide +kernel), kit_ty (by decide +kernel)⟩
theorem is_lst {p : Addr} {xs : List V} (h : H p = some (.lst xs)) : Is5 K H (.ref p) false false false true false := ⟨_, fun _ e => .base (.lst (e _ _ h)), kit_ty (by decide +kernel), kit_ty (by decide +kernel), kit_ty (by decide +kernel), kit_ty (by decide +kernel), kit_ty (by decide +kernel)⟩
theorem is_tup {p : Addr} {xs : List V} (h : H p = some (.tup xs)) : Is5 K H (.ref p) false false false false true := ⟨_, fun _ e => .base (.tup (e _ _ h)), kit_ty (by decide +kernel), kit_ty (by decide +kernel), kit_ty (by decide +kernel), kit_ty (by decide +kernel), kit_ty (by decide +kernel)⟩
theorem is_dct {p : Addr} {xs : List (Key × V)} (h : H p = some (.dK xs)) : Is5 K H (.ref p) false false false false false := ⟨_, fun _ e => .base (.dK (e _ _ h)), kit_ty (by decide +kernel), kit_ty (by decide +kernel), kit_ty (by decide +kernel), kit_ty (by decide +kernel), kit_ty (by decide +kernel)⟩
theorem kit_ins {C : Addr} {t : String} {v : Bool} (h : PySem.W.subIn K (.ref C) (.type t) = some v) (hk : PySem.W.kitMeta t = true) : PySem.W.kitOne K (.ref C) (.type t) = some v := by
  have e : (Value.ref C == Value.type t) = false := rfl
  show (if (Value.ref C == Value.type t) = true then some true else (if PySem.W.kitMeta t = true then PySem.W.subIn K (.ref C) (.type t) else none)) = _
  rw [e, if_neg Bool.false_ne_true, if_pos hk, h]
end
section
variable {P : Program} {w : World} {K : PySem.W.Frag} {mg : Str → Option Value} {base : Heap} {a : Nat → Addr} {d : Nat → FuncData} {tk : Nat → Tok} {c ci : Nat → Addr} {di : Nat → FuncData}
theorem is_txt (T : All K mg a d tk c ci di) {H : Hp} {p : Addr} (h : Txt c H p) : Is5 K H (.ref p) false false false false false := by
  cases h with
  | dct q h h1 => exact is_dct h
  | ord dx l h h1 => exact ⟨_, fun _ e => .base (.ins (e _ _ h) T.C_Order T.H_Order T.hn T.ht T.O_Order), kit_ins T.S_Order_bool (by decide +kernel), kit_ins T.S_Order_int (by decide +kernel), kit_ins T.S_Order_str (by decide +kernel), kit_ins T.S_Order_list (by decide +kernel), kit_ins T.S_Order_tuple (by decide +kernel)⟩
  | dep dx l m u v h => exact ⟨_, fun _ e => .base (.ins (e _ _ h.p) T.C_Dependencies T.H_Dependencies T.hn T.ht T.O_Dependencies), kit_ins T.S_Dependencies_bool (by decide +kernel), kit_ins T.S_Dependencies_int (by decide +kernel), kit_ins T.S_Dependencies_str (by decide +kernel), kit_ins T.S_Dependencies_list (by decide +kernel), kit_ins T.S_Dependencies_tuple (by decide +kernel)⟩
theorem okG {x qual : Str} {st : Stmt} {f : Addr} {fd : FuncData} {N ps : List Str} {k : Nat} {sp : Sp} (F : Fun K x qual st f fd) (S : FnScope N ps (defScope st)) (len : ∀ vs H Q E, sp vs H Q E → vs.length = ps.length)
    (hbody : ∀ (cdv : Value) (A : Around) (outer : List Env) (s : Shared) (H : Hp) (vs : List V) (Q : VK) (E : XK), (A.deeper (envOfC qual (defScope st) s.heap.objs.size f cdv)).guards = some [] → Room k (A.deeper (envOfC qual (defScope st) s.heap.objs.size f cdv)) → sp vs H Q E →
      ∃ t, PSs (cxOf CX0 P w K mg base N qual (defScope st) f cdv A outer s H E).nox (defBody st) t ∧ t { nx := fun _ H' => Q .non H', rt := Q } (start N vs) H) : FnG P w K mg base CX0 (k + 1) f fd ps sp := by
  obtain ⟨oc, od, kV, doc, pm, an, cdv, ct, osl, rfl, lk, hcd⟩ := F.ex
  refine fn_ofG lk hcd S len fun A outer s H vs Q E hgd hr hsp => ?_
  obtain ⟨t, h, q⟩ := hbody cdv A outer s H vs Q E hgd hr hsp
  exact ⟨t, h.nox, q⟩
theorem ev_isN {σ : L2.St} {H : Hp} {ta : TE} {x : V} (h : Ev ta σ H x) : Ev (tIsN ta) σ H (.bl (decide (x = .non))) := fun H1 e Q q => h H1 e _ fun H2 e2 => q H2 e2
theorem ev_isB {σ : L2.St} {H : Hp} {ta tb : TE} {x y : Bool} (ha : Ev ta σ H (.bl x)) (hb : Ev tb σ H (.bl y)) : Ev (tOp (fun x y H Q => ∃ a b, x = V.bl a ∧ y = V.bl b ∧ Q (V.bl (decide (a = b))) H) ta tb) σ H (.bl (decide (x = y))) := ev_op ha hb fun H1 _ Q q => ⟨x, y, rfl, rfl, q H1 (Ex.refl H1)⟩
theorem rv_ixQ {K : PySem.W.Frag} {H : Hp} {p : Addr} {xs : List V} {i : Int} {v : V} (h : Seq H p xs) (ha : atI xs i = some v) : RV (rIx K) (.ref p) (.int i) H v := fun H1 e Q q => h.elim (fun z => .inl ⟨p, xs, i, v, rfl, rfl, sq_of (e _ _ z), ha, q H1 (Ex.refl H1)⟩) fun z => .inr (.inl ⟨p, xs, i, v, rfl, rfl, st_of (e _ _ z), ha, q H1 (Ex.refl H1)⟩)
theorem given_none (n : Nat) (v : Nat → V) : given n (fun _ => false) v = [] := by
  unfold given
  rw [List.filter_eq_nil_iff.mpr (fun _ _ => Bool.false_ne_true)] <;> rfl
def rReprs (K : PySem.W.Frag) (c : Nat → Addr) : List V → Hp → VK → Prop := fun xs H Q => rReprK K xs H Q ∨ rReprO (c 19) (sp_Order_repr K (c 19)) E0 xs H Q ∨ rReprO (c 20) (sp_Dependencies_repr K (c 20)) E0 xs H Q
theorem txt_repr {K : PySem.W.Frag} {c : Nat → Addr} {H : Hp} {p : Addr} (h : Txt c H p) : ∃ t : Str, RC (rReprs K c) [.ref p] H (.str t) := by
  cases h with
  | dct q h h1 => exact ⟨_, fun H1 e Q q' => .inl ⟨p, _, [.list [.int 1]], rfl, e _ _ h, .cons (.lst (sq_of (e _ _ h1)) (.cons (.int 1) .nil)) .nil, (by decide +kernel), (by show (PyData.dict [(.str "a", .list [.int 1])]).showable = true; decide +kernel), (by show (PyData.dict [(.str "a", .list [.int 1])]).depth ≤ 60; decide +kernel), sz_of (by show (PyData.dict [(.str "a", .list [.int 1])]).shown.length ≤ 100000; decide +kernel), q' H1 (Ex.refl H1)⟩⟩
  | ord dx l h h1 => exact ⟨_, fun H1 e Q q' => .inr (.inl ⟨p, dx, _, rfl, e _ _ h, p, dx, l, .list [.str "a", .str "b"], rfl, e _ _ h, .lst (sq_of (e _ _ h1)) (.cons (.str _) (.cons (.str _) .nil)), by decide +kernel, by decide +kernel, by decide +kernel, by decide +kernel, fun H2 e2 => ⟨_, rfl, q' H2 e2⟩⟩)⟩
  | dep dx l m u v h => exact ⟨_, fun H1 e Q q' => .inr (.inr ⟨p, dx, _, rfl, e _ _ h.p, p, dx, l, m, .list [.str "a"], .list [.tuple [.list [], .str "a"]], rfl, e _ _ h.p, .lst (sq_of (e _ _ h.l)) (.cons (.str _) .nil), by decide +kernel, by decide +kernel, by decide +kernel, by decide +kernel,
      .lst (sq_of (e _ _ h.m)) (.cons (.tup (st_of (e _ _ h.u)) (.cons (.lst (sq_of (e _ _ h.v)) .nil) (.cons (.str _) .nil))) .nil), by decide +kernel, by decide +kernel, by decide +kernel, by decide +kernel, fun H2 e2 => ⟨_, rfl, q' H2 e2⟩⟩)⟩
def sp_same (c : Nat → Addr) (n : Nat) : Sp := fun vs H Q _ => ∃ x y, vs = [x, y] ∧ Sm c H n x y ∧ RetV (.bl true) H Q
theorem same_0 (T : All K mg a d tk c ci di) : FnG P w K mg base CX0 3 (a 9) (d 9) ["given", "due"] (sp_same c 0) :=
  okG T.F__law_same.fn sc__law_same (fun vs H Q E h => by
    obtain ⟨x, y, rfl, _⟩ := h
    rfl) (fun cdv A outer s H vs Q E hgd hr h => by
    obtain ⟨x, y, _, h, _⟩ := h
    exact h.elim)
theorem same_S (T : All K mg a d tk c ci di) {n : Nat} (ih : FnG P w K mg base CX0 (n + 3) (a 9) (d 9) ["given", "due"] (sp_same c n)) : FnG P w K mg base CX0 (n + 3 + 1) (a 9) (d 9) ["given", "due"] (sp_same c (n + 1)) := by
  refine okG T.F__law_same.fn sc__law_same (fun vs H Q E h => ?_) (fun cdv A outer s H vs Q E hgd hr h => ?_)
  · obtain ⟨x, y, rfl, _⟩ := h
    rfl
  · obtain ⟨x, y, rfl, h, k⟩ := h
    have nd := sc__law_same.nd
    have hu0 := hr.units0
    refine ⟨_, (pss_cons (ps_if (PW.pt (pw_or (pt_cmp (pc_isN (pv 1))) (pw_or1 (pt_val (pe_callB call_isi (by rfl) T.n_isinstance PyProof.Rows.boot_isinstance (pa_cons (pv 1) (pa_cons (pe_bltn (v := .ty "bool") rfl T.n_bool PyProof.Rows.boot_bool rfl) pa_nil)))))))
 (pss_one (ps_ret (pe_ifExp (pt_cmp (pc_isN (pv 1))) (pe_cmp (pc_isN (pv 0))) (pe_and (pe_callB call_isi (by rfl) T.n_isinstance PyProof.Rows.boot_isinstance (pa_cons (pv 0) (pa_cons (pe_bltn (v := .ty "bool") rfl T.n_bool PyProof.Rows.boot_bool rfl) pa_nil))) (pe_one (pe_cmpR op_eq (pe_cmpR op_is_bl (pv 0) pe_bl (nomark _)) (pe_cmpR op_is_bl (pv 1) pe_bl (nomark _)) (nomark _)))))))
 pss_nil)
 (pss_cons (ps_if (pt_val (pe_callB call_isi (by rfl) T.n_isinstance PyProof.Rows.boot_isinstance (pa_cons (pv 1) (pa_cons (pe_bltn (v := .ty "int") rfl T.n_int PyProof.Rows.boot_int rfl) pa_nil))))
 (pss_one (ps_ret (pe_and (pe_callB call_isi (by rfl) T.n_isinstance PyProof.Rows.boot_isinstance (pa_cons (pv 0) (pa_cons (pe_bltn (v := .ty "int") rfl T.n_int PyProof.Rows.boot_int rfl) pa_nil))) (pe_and (pe_not (pe_callB call_isi (by rfl) T.n_isinstance PyProof.Rows.boot_isinstance (pa_cons (pv 0) (pa_cons (pe_bltn (v := .ty "bool") rfl T.n_bool PyProof.Rows.boot_bool rfl) pa_nil)))) (pe_one (pe_cmpR op_eq (pe_op op_sub (pe_callTy call_int1 rfl T.n_int PyProof.Rows.boot_int (pa_cons (pv 0) pa_nil)) (pv 1)) pe_int (nomark _)))))))
 pss_nil)
 (pss_cons (ps_if (pt_val (pe_callB call_isi (by rfl) T.n_isinstance PyProof.Rows.boot_isinstance (pa_cons (pv 1) (pa_cons (pe_bltn (v := .ty "str") rfl T.n_str PyProof.Rows.boot_str rfl) pa_nil))))
 (pss_one (ps_ret (pe_and (pe_callB call_isi (by rfl) T.n_isinstance PyProof.Rows.boot_isinstance (pa_cons (pv 0) (pa_cons (pe_bltn (v := .ty "str") rfl T.n_str PyProof.Rows.boot_str rfl) pa_nil))) (pe_one (pe_cmpR op_eq (pv 0) (pv 1) (nomark _))))))
 pss_nil)
 (pss_cons (ps_if (PW.pt (pw_or (pt_cmpR op_ne (pe_callB call_isi (by rfl) T.n_isinstance PyProof.Rows.boot_isinstance (pa_cons (pv 0) (pa_cons (pe_bltn (v := .ty "list") rfl T.n_list PyProof.Rows.boot_list rfl) pa_nil))) (pe_callB call_isi (by rfl) T.n_isinstance PyProof.Rows.boot_isinstance (pa_cons (pv 1) (pa_cons (pe_bltn (v := .ty "list") rfl T.n_list PyProof.Rows.boot_list rfl) pa_nil))) (nomark _)) (pw_or1 (pt_cmpR op_ne (pe_callB call_isi (by rfl) T.n_isinstance PyProof.Rows.boot_isinstance (pa_cons (pv 0) (pa_cons (pe_bltn (v := .ty "tuple") rfl T.n_tuple PyProof.Rows.boot_tuple rfl) pa_nil))) (pe_callB call_isi (by rfl) T.n_isinstance PyProof.Rows.boot_isinstance (pa_cons (pv 1) (pa_cons (pe_bltn (v := .ty "tuple") rfl T.n_tuple PyProof.Rows.boot_tuple rfl) pa_nil))) (nomark _)))))
 (pss_one (ps_ret pe_bl))
 pss_nil)
 (pss_cons (ps_if (pt_not (pt_val (pe_callB call_isiT (by rfl) T.n_isinstance PyProof.Rows.boot_isinstance (pa_cons (pv 1) (pa_cons (pe_tup (pa_cons (pe_bltn (v := .ty "list") rfl T.n_list PyProof.Rows.boot_list rfl) (pa_cons (pe_bltn (v := .ty "tuple") rfl T.n_tuple PyProof.Rows.boot_tuple rfl) pa_nil))) pa_nil)))))
 (pss_one (ps_ret (pe_cmpR op_eq (pe_callB (callR_or (call_reprK hgd hr.units) (callR_or (call_reprO T.R_Order (ok_Order_repr T) hgd (hr.mono (by omega)) T.F_Order_repr.b pass0) (call_reprO T.R_Dependencies (ok_Dependencies_repr T) hgd (hr.mono (by omega)) T.F_Dependencies_repr.b pass0))) (by rfl) T.n_repr PyProof.Rows.boot_repr (pa_cons (pv 0) pa_nil)) (pe_callB (callR_or (call_reprK hgd hr.units) (callR_or (call_reprO T.R_Order (ok_Order_repr T) hgd (hr.mono (by omega)) T.F_Order_repr.b pass0) (call_reprO T.R_Dependencies (ok_Dependencies_repr T) hgd (hr.mono (by omega)) T.F_Dependencies_repr.b pass0))) (by rfl) T.n_repr PyProof.Rows.boot_repr (pa_cons (pv 1) pa_nil)) (nomark _))))
 pss_nil)
 (pss_one (ps_ret (pe_and (pe_cmpR op_eq (pe_callB call_len_seq (by rfl) T.n_len PySem.boot_len (pa_cons (pv 0) pa_nil)) (pe_callB call_len_seq (by rfl) T.n_len PySem.boot_len (pa_cons (pv 1) pa_nil)) (nomark _)) (pe_one (pe_cmpR (op_eqNil hu0) (pe_lc (own := [("k", 2)]) (g := (gName 2)) rfl nd (pi_range1 rfl T.n_range (pa_cons (pe_callB call_len_seq (by rfl) T.n_len PySem.boot_len (pa_cons (pv 1) pa_nil)) pa_nil)) (blkOk_by (N := N__law_same) (sc := defScope s__law_same) (by decide +kernel)) (fun _ _ _ _ _ => (pg_name (i := 2) nd rfl (Or.inl rfl))) (fun _ _ _ _ _ => (pts_one (pt_not (pt_val (pe_callG ih hgd (hr.mono (Nat.le_refl _)) rfl T.F__law_same.m T.F__law_same.kp T.F__law_same.b .nil pass0 (pa_cons (pe_ix (show IxR _ (rIx K) from ix_seq) (pv 0) (pv 2) (fun _ _ => rfl)) (pa_cons (pe_ix (show IxR _ (rIx K) from ix_seq) (pv 1) (pv 2) (fun _ _ => rfl)) pa_nil))))))) (fun _ _ _ _ _ => (pv 2))) (pe_lst pa_nil) (nomark _))))))))))), ?_⟩
    have nB : ∀ {z : Bool}, decide (V.bl z = .non) = false := fun {z} => decide_eq_false fun h => nomatch h
    have nI : ∀ {z : Int}, decide (V.int z = .non) = false := fun {z} => decide_eq_false fun h => nomatch h
    have nS : ∀ {z : Str}, decide (V.str z = .non) = false := fun {z} => decide_eq_false fun h => nomatch h
    have nR : ∀ {z : Addr}, decide (V.ref z = .non) = false := fun {z} => decide_eq_false fun h => nomatch h
    rcases h with ⟨rfl, hp⟩ | ⟨p, rfl, rfl, hp⟩ | ⟨p, q, xs, ys, rfl, rfl, hs, h60, hx⟩
    · cases hp with
      | non =>
        refine q_when (b := true) (et_or (a := true) (b := true) (et_is (et_B (ev_isN (ev_var (i := 1) rfl))) (decide_eq_true rfl)) (fun h => nomatch h)) (fun _ H1 e1 => ?_) (fun h => nomatch h)
        exact s_ret (ev_if (b := true) (et_is (et_B (ev_isN (ev_var (i := 1) rfl))) (decide_eq_true rfl)) (fun _ => ev_is (ev_isN (ev_var (i := 0) rfl)) (by rw [decide_eq_true rfl])) (fun h => nomatch h)) fun H2 e2 => k H2 (e1.trans e2)
      | bl z =>
        refine q_when (b := true) (et_or (a := false) (b := true) (et_is (et_B (ev_isN (ev_var (i := 1) rfl))) nB) (fun _ => et_B (is_bl.b (ev_var (i := 1) rfl)))) (fun _ H1 e1 => ?_) (fun h => nomatch h)
        exact s_ret (ev_if (b := false) (et_is (et_B (ev_isN (ev_var (i := 1) rfl))) nB) (fun h => nomatch h) (fun _ => ev_is (ev_andV (a := true) (is_bl.b (ev_var (i := 0) rfl)) fun _ => ev_op (ev_isB (ev_var (i := 0) rfl) ev_c) (ev_isB (ev_var (i := 1) rfl) ev_c) (rv_eq rfl)) (by rw [decide_eq_true rfl] <;> rfl))) fun H2 e2 => k H2 (e1.trans e2)
      | int z =>
        refine q_when (b := false) (et_or (a := false) (b := false) (et_is (et_B (ev_isN (ev_var (i := 1) rfl))) nI) (fun _ => et_B (is_int.b (ev_var (i := 1) rfl)))) (fun h => nomatch h) fun _ H1 e1 => ?_
        refine q_when (b := true) (et_B (is_int.i (ev_var (i := 1) rfl))) (fun _ H2 e2 => ?_) fun h => nomatch h
        refine s_ret (ev_is (ev_andV (a := true) (is_int.i (ev_var (i := 0) rfl)) fun _ => ev_andV (a := true) (ev_notV (is_int.b (ev_var (i := 0) rfl))) fun _ => ev_op (ev_I0 (i := z) (j := z) (ev_cb (ea_cons (ev_var (i := 0) rfl) ea_nil) (fun H1 _ Q q => .inl ⟨z, rfl, q H1 (Ex.refl H1)⟩)) (ev_var (i := 1) rfl)) ev_c (rv_eq rfl)) ?_) fun H3 e3 => k H3 ((e1.trans e2).trans e3)
        rw [Int.sub_self, decide_eq_true rfl] <;> rfl
      | str z =>
        refine q_when (b := false) (et_or (a := false) (b := false) (et_is (et_B (ev_isN (ev_var (i := 1) rfl))) nS) (fun _ => et_B (is_str.b (ev_var (i := 1) rfl)))) (fun h => nomatch h) fun _ H1 e1 => ?_
        refine q_when (b := false) (et_B (is_str.i (ev_var (i := 1) rfl))) (fun h => nomatch h) fun _ H2 e2 => ?_
        refine q_when (b := true) (et_B (is_str.s (ev_var (i := 1) rfl))) (fun _ H3 e3 => ?_) fun h => nomatch h
        exact s_ret (ev_is (ev_andV (a := true) (is_str.s (ev_var (i := 0) rfl)) fun _ => ev_op (ev_var (i := 0) rfl) (ev_var (i := 1) rfl) (rv_eq rfl)) (by rw [decide_eq_true rfl] <;> rfl)) fun H4 e4 => k H4 (((e1.trans e2).trans e3).trans e4)
    · have I := is_txt T hp
      refine q_when (b := false) (et_or (a := false) (b := false) (et_is (et_B (ev_isN (ev_var (i := 1) rfl))) nR) (fun _ => et_B (I.b (ev_var (i := 1) rfl)))) (fun h => nomatch h) fun _ H1 e1 => ?_
      have I1 := I.ex e1
      refine q_when (b := false) (et_B (I1.i (ev_var (i := 1) rfl))) (fun h => nomatch h) fun _ H2 e2 => ?_
      have I2 := I1.ex e2
      refine q_when (b := false) (et_B (I2.s (ev_var (i := 1) rfl))) (fun h => nomatch h) fun _ H3 e3 => ?_
      have I3 := I2.ex e3
      refine q_when (b := false) (et_or (a := false) (b := false) (et_is (et_test (ev_op (I3.l (ev_var (i := 0) rfl)) (I3.l (ev_var (i := 1) rfl)) (rv_ne rfl))) (by decide)) fun _ => et_is (et_test (ev_op (I3.t (ev_var (i := 0) rfl)) (I3.t (ev_var (i := 1) rfl)) (rv_ne rfl))) (by decide)) (fun h => nomatch h) fun _ H4 e4 => ?_
      have I4 := I3.ex e4
      refine q_when (b := true) (et_not (et_B (I4.lt (ev_var (i := 1) rfl)))) (fun _ H5 e5 => ?_) fun h => nomatch h
      obtain ⟨t, ht⟩ := txt_repr (K := K) (hp.ex ((((e1.trans e2).trans e3).trans e4).trans e5))
      exact s_ret (ev_is (ev_op (ev_cb (ea_cons (ev_var (i := 0) rfl) ea_nil) ht) (ev_cb (ea_cons (ev_var (i := 1) rfl) ea_nil) ht) (rv_eq rfl)) (by rw [decide_eq_true rfl])) fun H6 e6 => k H6 (((((e1.trans e2).trans e3).trans e4).trans e5).trans e6)
    · have hl := Paired.length hx
      have sp : Seq H p xs := hs.elim (fun z => .inl z.1) fun z => .inr z.1
      have sq : Seq H q ys := hs.elim (fun z => .inl z.2) fun z => .inr z.2
      obtain ⟨l, t, hlt, I, J⟩ : ∃ l t, (l || t) = true ∧ Is5 K H (.ref p) false false false l t ∧ Is5 K H (.ref q) false false false l t := hs.elim (fun z => ⟨true, false, rfl, is_lst z.1, is_lst z.2⟩) fun z => ⟨false, true, rfl, is_tup z.1, is_tup z.2⟩
      refine q_when (b := false) (et_or (a := false) (b := false) (et_is (et_B (ev_isN (ev_var (i := 1) rfl))) nR) (fun _ => et_B (J.b (ev_var (i := 1) rfl)))) (fun h => nomatch h) fun _ H1 e1 => ?_
      have J1 := J.ex e1
      refine q_when (b := false) (et_B (J1.i (ev_var (i := 1) rfl))) (fun h => nomatch h) fun _ H2 e2 => ?_
      have J2 := J1.ex e2
      refine q_when (b := false) (et_B (J2.s (ev_var (i := 1) rfl))) (fun h => nomatch h) fun _ H3 e3 => ?_
      have J3 := J2.ex e3
      have I3 := I.ex ((e1.trans e2).trans e3)
      refine q_when (b := false) (et_or (a := false) (b := false) (et_is (et_test (ev_op (I3.l (ev_var (i := 0) rfl)) (J3.l (ev_var (i := 1) rfl)) (rv_ne rfl))) (by rw [decide_eq_true rfl] <;> rfl)) fun _ => et_is (et_test (ev_op (I3.t (ev_var (i := 0) rfl)) (J3.t (ev_var (i := 1) rfl)) (rv_ne rfl))) (by rw [decide_eq_true rfl] <;> rfl)) (fun h => nomatch h) fun _ H4 e4 => ?_
      have J4 := J3.ex e4
      refine q_when (b := false) (et_is (et_not (et_B (J4.lt (ev_var (i := 1) rfl)))) (by rw [hlt] <;> rfl)) (fun h => nomatch h) fun _ H5 e5 => ?_
      have e15 := (((e1.trans e2).trans e3).trans e4).trans e5
      have sp5 := sp.ex e15
      have sq5 := sq.ex e15
      refine s_ret (ev_is (ev_andV (a := true) (b := true) (ev_is (ev_op (ev_lenS (ev_var (i := 0) rfl) sp5) (ev_lenS (ev_var (i := 1) rfl) sq5) (rv_eq rfl)) (by rw [hl, decide_eq_true rfl])) fun _ => ev_is (ev_eqNilN (el_lcR1 (n := (ys.length : Int)) (fun _ => false) (fun i => .int i) (ea_cons (ev_lenS (ev_var (i := 1) rfl) sq5) ea_nil) ⟨by omega, by omega⟩ (fun _ => rfl) (fun i H6 e6 hi => ?_) fun _ _ _ _ h => nomatch h)) ?_) rfl) fun H6 e6 => k H6 (e15.trans e6)
      · have hiy : i < ys.length := by omega
        have hix : i < xs.length := by omega
        obtain ⟨y, hy, hxy⟩ := Paired.at_l hx i xs[i] (List.getElem?_eq_getElem hix)
        refine et_not (a := true) (et_B ?_)
        refine ev_call (ea_cons (ev_op (ev_var (i := 0) rfl) (ev_var (i := 2) rfl) (rv_ixQ (sp5.ex e6) (atI_nat (List.getElem?_eq_getElem hix)))) (ea_cons (ev_op (ev_var (i := 1) rfl) (ev_var (i := 2) rfl) (rv_ixQ (sq5.ex e6) (atI_nat hy))) ea_nil)) ?_
        exact fun H7 e7 Q' q' _ => ⟨_, _, rfl, hxy.ex ((e15.trans e6).trans e7), q'⟩
      · rw [given_none] <;> rfl
/-- the same, five levels deep -/
theorem ok__law_same (T : All K mg a d tk c ci di) : FnG P w K mg base CX0 8 (a 9) (d 9) ["given", "due"] (sp_same c 5) :=
  same_S T (same_S T (same_S T (same_S T (same_S T (same_0 T)))))
end
end Mv
/-! The words, the values. -/
namespace Mv
open PySem PySem.Spec PyProof.Rows L2 Evl
/-- a word's list, new since H0 -/
def WdAt (H0 H : Hp) (x : V) : Prop := ∃ q i, x = .ref q ∧ i < 16 ∧ H0 q = none ∧ H q = some (.lst [.str (nm i), .str (bnm (bs i)), .int ((fls i).length : Int)])
theorem WdAt.ex {H0 H1 H H' : Hp} {x : V} (h : WdAt H1 H x) (e : Ex H H') (e0 : Ex H0 H1) : WdAt H0 H' x := let ⟨q, i, h1, h2, h3, h4⟩ := h; ⟨q, i, h1, h2, fresh_back e0 h3, e _ _ h4⟩
def EvW (ta : TA) (σ : L2.St) (H : Hp) (n : Nat) : Prop := ∀ H1, Ex H H1 → ∀ Q : List V → Hp → Prop, (∀ vs H2, Ex H1 H2 → vs.length = n → (∀ x ∈ vs, WdAt H1 H2 x) → Q vs H2) → ta σ H1 Q
theorem ew_nil {σ : L2.St} {H : Hp} : EvW tNil σ H 0 := fun H1 e Q q => q [] H1 (Ex.refl H1) rfl (fun x h => nomatch h)
theorem ew_cons {σ : L2.St} {H : Hp} {n : Nat} {ta : TA} (s t : Str) (k : Int) (i : Nat) (hi : i < 16) (e1 : s = nm i) (e2 : t = bnm (bs i)) (e3 : k = ((fls i).length : Int)) (h : EvW ta σ H n) : EvW (tCons (tLst (tCons (tC (.str s)) (tCons (tC (.str t)) (tCons (tC (.int k)) tNil)))) ta) σ H (n + 1) := fun H1 e Q q =>
  el_lst (ea_cons ev_c (ea_cons ev_c (ea_cons ev_c ea_nil))) (show 3 ≤ 100000 by decide) H1 e _ fun p H2 hp e2' h2 => h H2 (e.trans e2') _ fun vs H3 e3' hl hv => q (.ref p :: vs) H3 (e2'.trans e3') (by rw [List.length_cons, hl]) fun x hx => by
    rcases List.mem_cons.mp hx with z | z
    · exact ⟨p, i, z, hi, hp, by rw [← e1, ← e2, ← e3]; exact e3' _ _ h2⟩
    · exact (hv x z).ex (Ex.refl _) e2'
def EvWL (te : TE) (σ : L2.St) (H : Hp) (n : Nat) : Prop := ∀ H1, Ex H H1 → ∀ Q : VK, (∀ p vs H2, H1 p = none → Ex H1 H2 → H2 p = some (.lst vs) → vs.length = n → (∀ x ∈ vs, WdAt H1 H2 x) → Q (.ref p) H2) → te σ H1 Q
theorem ewl_lst {σ : L2.St} {H : Hp} {n : Nat} {ta : TA} (hn : n ≤ 100000) (h : EvW ta σ H n) : EvWL (tLst ta) σ H n := fun H1 e Q q =>
  h H1 e _ fun vs H2 e2 hl hv => ⟨sz_of (by omega), fun p hp => q p vs _ (fresh_back e2 hp) (e2.trans (Ex.new hp)) upd_same hl fun x hx => (hv x hx).ex (Ex.new hp) (Ex.refl _)⟩
theorem ewl_cat {σ : L2.St} {H H0 : Hp} {n m i : Nat} {te : TE} {p : Addr} {vs : List V} {Q : VK} (hm : n + m ≤ 1000) (h : EvWL te σ H m) (hσ : σ[i]? = some (some (.ref p))) (hp : H p = some (.lst vs)) (hl : vs.length = n) (hv : ∀ x ∈ vs, WdAt H0 H x) (e0 : Ex H0 H)
    (q : ∀ r ws H2, H0 r = none → Ex H0 H2 → H2 r = some (.lst ws) → ws.length = n + m → (∀ x ∈ ws, WdAt H0 H2 x) → Q (.ref r) H2) : tOp rCat (tVar i) te σ H Q :=
  ⟨_, hσ, h H (Ex.refl H) _ fun b zs H2 hb e2 h2 l2 w2 => ⟨p, b, vs, zs, rfl, rfl, e2 _ _ hp, h2, sz_of (by omega), fun r hr => q r _ _ (fresh_back (e0.trans e2) hr) ((e0.trans e2).trans (Ex.new hr)) upd_same (by rw [List.length_append]; omega) fun x hx => by
    rcases List.mem_append.mp hx with z | z
    · exact (hv x z).ex (e2.trans (Ex.new hr)) (Ex.refl _)
    · exact (w2 x z).ex (Ex.new hr) e0⟩⟩
section
variable {P : Program} {w : World} {K : PySem.W.Frag} {mg : Str → Option Value} {base : Heap} {a : Nat → Addr} {d : Nat → FuncData} {tk : Nat → Tok} {c ci : Nat → Addr} {di : Nat → FuncData}
theorem q_asgT {te : TE} {tz : TS} {D : Ends} {σ : L2.St} {H : Hp} {i : Nat} (h : te σ H fun v H1 => tz D (σ.set i (some v)) H1) : tSeq (tAsg te (gName i)) tz D σ H := h
theorem s_retT {te : TE} {D : Ends} {σ : L2.St} {H : Hp} (h : te σ H D.rt) : tRet te D σ H := h
def sp__law_words : Sp := fun vs H Q _ => vs = [] ∧ ∀ p ws H2, H p = none → Ex H H2 → H2 p = some (.lst ws) → ws.length = 16 → (∀ x ∈ ws, WdAt H H2 x) → Q (.ref p) H2
theorem ok__law_words (T : All K mg a d tk c ci di) : FnOk P w K mg base CX0 1 (a 10) (d 10) [] (sp__law_words) := by
  refine T.F__law_words.fn.ok sc__law_words (fun vs H Q E h => ?_) (fun cdv A outer s H vs Q E hr h => ?_)
  · obtain ⟨rfl, _⟩ := h
    rfl
  · obtain ⟨rfl, k⟩ := h
    have nd := sc__law_words.nd
    refine ⟨_, (pss_cons (ps_set (i := 0) nd rfl (Or.inl rfl) (pe_lst (pa_cons (pe_lst (pa_cons pe_str (pa_cons pe_str (pa_cons pe_int pa_nil)))) (pa_cons (pe_lst (pa_cons pe_str (pa_cons pe_str (pa_cons pe_int pa_nil)))) (pa_cons (pe_lst (pa_cons pe_str (pa_cons pe_str (pa_cons pe_int pa_nil)))) (pa_cons (pe_lst (pa_cons pe_str (pa_cons pe_str (pa_cons pe_int pa_nil)))) pa_nil))))))
 (pss_cons (ps_set (i := 0) nd rfl (Or.inl rfl) (pe_op op_cat (pv 0) (pe_lst (pa_cons (pe_lst (pa_cons pe_str (pa_cons pe_str (pa_cons pe_int pa_nil)))) (pa_cons (pe_lst (pa_cons pe_str (pa_cons pe_str (pa_cons pe_int pa_nil)))) (pa_cons (pe_lst (pa_cons pe_str (pa_cons pe_str (pa_cons pe_int pa_nil)))) (pa_cons (pe_lst (pa_cons pe_str (pa_cons pe_str (pa_cons pe_int pa_nil)))) pa_nil)))))))
 (pss_cons (ps_set (i := 0) nd rfl (Or.inl rfl) (pe_op op_cat (pv 0) (pe_lst (pa_cons (pe_lst (pa_cons pe_str (pa_cons pe_str (pa_cons pe_int pa_nil)))) (pa_cons (pe_lst (pa_cons pe_str (pa_cons pe_str (pa_cons pe_int pa_nil)))) (pa_cons (pe_lst (pa_cons pe_str (pa_cons pe_str (pa_cons pe_int pa_nil)))) (pa_cons (pe_lst (pa_cons pe_str (pa_cons pe_str (pa_cons pe_int pa_nil)))) pa_nil)))))))
 (pss_one (ps_ret (pe_op op_cat (pv 0) (pe_lst (pa_cons (pe_lst (pa_cons pe_str (pa_cons pe_str (pa_cons pe_int pa_nil)))) (pa_cons (pe_lst (pa_cons pe_str (pa_cons pe_str (pa_cons pe_int pa_nil)))) (pa_cons (pe_lst (pa_cons pe_str (pa_cons pe_str (pa_cons pe_int pa_nil)))) (pa_cons (pe_lst (pa_cons pe_str (pa_cons pe_str (pa_cons pe_int pa_nil)))) pa_nil))))))))))), ?_⟩
    refine q_asgT ((ewl_lst (by decide) (ew_cons "InvalidPairs" "search" 1 0 (by decide) rfl rfl rfl (ew_cons "InvalidPair" "search" 1 1 (by decide) rfl rfl rfl (ew_cons "InvalidDependencies" "search" 1 2 (by decide) rfl rfl rfl (ew_cons "InvalidWide" "search" 1 3 (by decide) rfl rfl rfl ew_nil))))) H (Ex.refl H) _ fun p1 v1 H1 _ e1 h1 l1 w1 => ?_)
    refine q_asgT (ewl_cat (i := 0) (n := 4) (m := 4) (by decide) (ewl_lst (by decide) (ew_cons "InvalidRequest" "search" 1 4 (by decide) rfl rfl rfl (ew_cons "InvalidRequests" "search" 1 5 (by decide) rfl rfl rfl (ew_cons "InvalidKept" "search" 1 7 (by decide) rfl rfl rfl (ew_cons "InvalidJoin" "search" 1 8 (by decide) rfl rfl rfl ew_nil))))) rfl h1 l1 w1 e1 fun p2 v2 H2 _ e2 h2 l2 w2 => ?_)
    refine q_asgT (ewl_cat (i := 0) (n := 8) (m := 4) (by decide) (ewl_lst (by decide) (ew_cons "InvalidJoins" "search" 1 9 (by decide) rfl rfl rfl (ew_cons "InvalidTables" "search" 1 10 (by decide) rfl rfl rfl (ew_cons "DuplicateRequest" "search" 1 6 (by decide) rfl rfl rfl (ew_cons "Ring" "search" 1 11 (by decide) rfl rfl rfl ew_nil))))) rfl h2 l2 w2 e2 fun p3 v3 H3 _ e3 h3 l3 w3 => ?_)
    exact s_retT (ewl_cat (i := 0) (n := 12) (m := 4) (by decide) (ewl_lst (by decide) (ew_cons "UnknownPair" "missing" 1 12 (by decide) rfl rfl rfl (ew_cons "NotJoined" "missing" 2 13 (by decide) rfl rfl rfl (ew_cons "Broken" "state" 3 14 (by decide) rfl rfl rfl (ew_cons "PairKept" "state" 1 15 (by decide) rfl rfl rfl ew_nil))))) rfl h3 l3 w3 e3 fun p4 v4 H4 n4 e4 h4 l4 w4 => k p4 v4 H4 n4 e4 h4 l4 w4)
/-- one of the twelve, F what stays -/
inductive OneV (c : Nat → Addr) (F : Hp) (l1 l3 : Addr) : V → Prop
  | prim {x : V} (h : Prim x) : OneV c F l1 l3 x
  | txt {p : Addr} (h : Txt c F p) : OneV c F l1 l3 (.ref p)
  | tup {p q : Addr} (h : F p = some (.tup [.int 1, .ref q])) (h1 : F q = some (.lst [.int 2])) : OneV c F l1 l3 (.ref p)
  | l1 : OneV c F l1 l3 (.ref l1)
  | l3 : OneV c F l1 l3 (.ref l3)
/-- the twelve values; l1 and l3 grow, by n at most -/
structure VFac (c : Nat → Addr) (b : Addr) (F : Hp) (l1 l3 : Addr) (n : Nat) (H : Hp) (xs : List V) : Prop where
  ex : Ex F H
  fb : F b = none
  f1 : F l1 = none
  f3 : F l3 = none
  ne : l1 ≠ l3
  b1 : b ≠ l1
  b3 : b ≠ l3
  g1 : ∃ q ns, F q = some (.lst [.int 2]) ∧ H l1 = some (.lst (.int 1 :: .ref q :: ns)) ∧ (∀ x ∈ ns, Prim x) ∧ ns.length ≤ n
  g3 : ∃ ns, H l3 = some (.lst ns) ∧ (∀ x ∈ ns, Prim x) ∧ ns.length ≤ n
  all : ∀ x ∈ xs, OneV c F l1 l3 x
theorem new2 {H : Hp} {a b : Addr} {u v : HO} (ha : H a = none) (hb : upd H a u b = none) : Ex H (upd (upd H a u) b v) ∧ upd (upd H a u) b v a = some u ∧ upd (upd H a u) b v b = some v := ⟨(Ex.new ha).trans (Ex.new hb), (Ex.new hb) _ _ upd_same, upd_same⟩
theorem made {H H2 : Hp} {x dx : Addr} {u v : HO} (hx : H x = none) (hdx : H dx = none) (ne : dx ≠ x) (e : ExB x (upd (upd H dx u) x v) H2) : Ex H H2 := fun b o h => by
  have n1 : b ≠ x := fun z => by rw [z, hx] at h; cases h
  have n2 : b ≠ dx := fun z => by rw [z, hdx] at h; cases h
  exact e b o n1 (by rw [upd_ne n1, upd_ne n2]; exact h)
theorem ne_o {H : Hp} {x y : Addr} {u v : HO} (h1 : H x = some u) (h2 : H y = some v) (n : u ≠ v) : x ≠ y := fun z => by
  rw [z, h2] at h1
  injection h1 with h1
  exact n h1.symm
def sp__law_values (c : Nat → Addr) : Sp := fun vs H Q _ => ∃ (p : Addr) (n : Nat), vs = [.ref p] ∧ BoxAt H p n ∧ n ≤ 90000 ∧ ∀ r xs F l1 l3 H2, H r = none → H2 r = some (.lst xs) → xs.length = 12 → ExB p H H2 → BoxAt H2 p (n + 1) → VFac c p F l1 l3 0 H2 xs → H l1 = none → H l3 = none → Q (.ref r) H2
theorem nodAB : (["a", "b"] : List Str).Nodup := by decide +kernel
theorem ok__law_values (T : All K mg a d tk c ci di) : FnOk P w K mg base CX0 6 (a 16) (d 16) ["box"] (sp__law_values c) := by
  refine T.F__law_values.fn.ok sc__law_values (fun vs H Q E h => ?_) (fun cdv A outer s H vs Q E hr h => ?_)
  · obtain ⟨p, n, rfl, _⟩ := h
    rfl
  · obtain ⟨b, n, rfl, hB, hn, k⟩ := h
    have nd := sc__law_values.nd
    refine ⟨_, (pss_one (ps_ret (pe_lst (pa_cons (pe_call (ok__law_take T) (hr.mono (by decide)) rfl T.F__law_take.m T.F__law_take.kp T.F__law_take.b .nil pass0 (pa_cons (pv 0) (pa_cons pe_int pa_nil))) (pa_cons pe_str (pa_cons pe_non (pa_cons (pe_lst (pa_cons pe_int (pa_cons (pe_lst (pa_cons pe_int pa_nil)) pa_nil))) (pa_cons (pe_disp (pps_cons pe_str (pe_lst (pa_cons pe_int pa_nil)) pps_nil) rfl rfl (by simp) (by decide)) (pa_cons (pe_tup (pa_cons pe_int (pa_cons (pe_lst (pa_cons pe_int pa_nil)) pa_nil))) (pa_cons pe_bl (pa_cons (pe_un un_neg (pe_op op_pow pe_int pe_int)) (pa_cons (pe_make T.M_Order (ok_Order_init T) (hr.mono (by decide)) rfl T.m_Order T.F_Order_init.b .nil pass0 (pa_cons (pe_lst (pa_cons pe_str (pa_cons pe_str pa_nil))) pa_nil)) (pa_cons (pe_make T.M_Dependencies (ok_Dependencies_init T) (hr.mono (by decide)) rfl T.m_Dependencies T.F_Dependencies_init.b .nil pass0 (pa_cons (pe_lst (pa_cons pe_str pa_nil)) (pa_cons (pe_lst (pa_cons (pe_tup (pa_cons (pe_lst pa_nil) (pa_cons pe_str pa_nil))) pa_nil)) pa_nil))) (pa_cons (pe_lst pa_nil) (pa_cons pe_str pa_nil))))))))))))))), ?_⟩
    refine ⟨_, rfl, b, 1000, n, rfl, by decide, by decide, hB, by omega, fun i0 H1 i0a i0b e1 hB1 => ?_⟩
    refine ⟨sz_of (show 1 ≤ 100000 by decide), fun q1 hq1 => ⟨sz_of (show 2 ≤ 100000 by decide), fun l1 hl1 => ?_⟩⟩
    have nl1 : H1 l1 = none := fresh_back (Ex.new hq1) hl1
    obtain ⟨xa, xb, xc⟩ := new2 (u := .lst [.int 2]) (v := .lst [.int 1, .ref q1]) hq1 hl1
    generalize upd (upd H1 q1 (.lst [.int 2])) l1 (.lst [.int 1, .ref q1]) = G1 at xa xb xc ⊢
    intro dp hdp
    refine ⟨sz_of (show 1 ≤ 100000 by decide), fun q2 hq2 => ⟨?_, [(.inr "a", .ref q2)], rfl, (show 1 ≤ 15 by decide), ?_⟩⟩
    · exact (Ex.new hq2) _ _ upd_same
    have nq2 : q2 ≠ dp := fun z => by rw [z, upd_same] at hq2; cases hq2
    have y1 : Ex G1 (upd (upd (upd G1 dp (.dK [])) q2 (.lst [.int 1])) dp (.dK (mergeK [] [(.inr "a", .ref q2)]))) := Ex.mut ((Ex.new hdp).trans (Ex.new hq2)) hdp
    have y2 : (upd (upd (upd G1 dp (.dK [])) q2 (.lst [.int 1])) dp (.dK (mergeK [] [(.inr "a", .ref q2)]))) dp = some (.dK [(.inr "a", .ref q2)]) := upd_same
    have y3 : (upd (upd (upd G1 dp (.dK [])) q2 (.lst [.int 1])) dp (.dK (mergeK [] [(.inr "a", .ref q2)]))) q2 = some (.lst [.int 1]) := by rw [upd_ne nq2, upd_same]
    generalize upd (upd (upd G1 dp (.dK [])) q2 (.lst [.int 1])) dp (.dK (mergeK [] [(.inr "a", .ref q2)])) = G2 at y1 y2 y3 ⊢
    refine ⟨sz_of (show 1 ≤ 100000 by decide), fun q3 hq3 => ⟨sz_of (show 2 ≤ 100000 by decide), fun tp htp => ?_⟩⟩
    obtain ⟨z1, z2, z3⟩ := new2 (u := .lst [.int 2]) (v := .tup [.int 1, .ref q3]) hq3 htp
    generalize upd (upd G2 q3 (.lst [.int 2])) tp (.tup [.int 1, .ref q3]) = G3 at z1 z2 z3 ⊢
    refine ⟨10, 20, rfl, rfl, ⟨by decide, by decide, by decide⟩, _, rfl, ?_⟩
    refine ⟨sz_of (show 2 ≤ 100000 by decide), fun ol hol x dx hx hdx nx => ?_⟩
    have o1 : ol ≠ x := fun z => by rw [← z, upd_same] at hx; cases hx
    have o2 : ol ≠ dx := fun z => by rw [← z, upd_same] at hdx; cases hdx
    refine ⟨x, dx, ol, ["a", "b"], rfl, upd_same, by rw [upd_ne o1, upd_ne o2, upd_same] <;> rfl, by decide, by decide, fun z hz => ?_, nodAB, fun ou H4 _ e4 h4 h4' => ⟨rfl, ?_⟩⟩
    · rcases List.mem_cons.mp hz with rfl | hz
      · exact ⟨nameA, by decide +kernel⟩
      · rw [List.mem_singleton.mp hz]
        exact ⟨nameC, by decide +kernel⟩
    have e34 : Ex G3 H4 := (Ex.new hol).trans (made hx hdx nx e4)
    refine ⟨sz_of (show 1 ≤ 100000 by decide), fun aq haq => ⟨sz_of (show 0 ≤ 100000 by decide), fun eq heq => ⟨sz_of (show 2 ≤ 100000 by decide), fun tq htq => ⟨sz_of (show 1 ≤ 100000 by decide), fun rq hrq x2 dx2 hx2 hdx2 nx2 => ?_⟩⟩⟩⟩
    obtain ⟨t1, t2, t3⟩ := new2 (u := .lst [.str "a"]) (v := .lst []) haq heq
    obtain ⟨u1, u2, u3⟩ := new2 (u := .tup [.ref eq, .str "a"]) (v := .lst [.ref tq]) htq hrq
    have u4 := u1 _ _ t2
    have u5 := u1 _ _ t3
    have u6 := t1.trans u1
    generalize upd (upd (upd (upd H4 aq (.lst [.str "a"])) eq (.lst [])) tq (.tup [.ref eq, .str "a"])) rq (.lst [.ref tq]) = H5 at u2 u3 u4 u5 u6 hx2 hdx2 ⊢
    have eM : Ex H5 (upd (upd H5 dx2 (.own x2)) x2 (.ins (c 20) dx2 [])) := (Ex.new hdx2).trans (Ex.new (by rw [upd_ne nx2.symm]; exact hx2))
    refine ⟨x2, dx2, aq, rq, tq, eq, rfl, upd_same, eM _ _ u4, eM _ _ u3, eM _ _ u2, eM _ _ u5, fun l m u v H6 e6 hD _ => ⟨rfl, ?_⟩⟩
    have e56 : Ex H5 H6 := made hx2 hdx2 nx2 e6
    refine ⟨sz_of (show 0 ≤ 100000 by decide), fun l3 hl3 => ⟨show 12 ≤ sizeLine from sz_of (by decide), fun r hr => ?_⟩⟩
    obtain ⟨v1, v2, v3⟩ := new2 (u := .lst []) (v := .lst [V.int i0, .str "text", .non, .ref l1, .ref dp, .ref tp, .bl true, .int (-(10 ^ Int.toNat 20)), .ref x, .ref x2, .ref l3, .str ""]) hl3 hr
    have nr6 : H6 r = none := fresh_back (Ex.new hl3) hr
    refine k r [V.int i0, .str "text", .non, .ref l1, .ref dp, .ref tp, .bl true, .int (-(10 ^ Int.toNat 20)), .ref x, .ref x2, .ref l3, .str ""] (fun a => if a = b ∨ a = l1 ∨ a = l3 then none else upd (upd H6 l3 (.lst [])) r (.lst [V.int i0, .str "text", .non, .ref l1, .ref dp, .ref tp, .bl true, .int (-(10 ^ Int.toNat 20)), .ref x, .ref x2, .ref l3, .str ""]) a) l1 l3 _ ?_ v3 rfl ?_ ?_ ?_ ?_ ?_
    all_goals generalize upd (upd H6 l3 (.lst [])) r (.lst [V.int i0, .str "text", .non, .ref l1, .ref dp, .ref tp, .bl true, .int (-(10 ^ Int.toNat 20)), .ref x, .ref x2, .ref l3, .str ""]) = H8 at v1 v2 v3 ⊢
    all_goals have e68 := v1
    all_goals have e48 := (u6.trans e56).trans e68
    all_goals have e38 := e34.trans e48
    all_goals have e28 := z1.trans e38
    all_goals have e18 := y1.trans e28
    all_goals have e08 := xa.trans e18
    all_goals have bl1 := hB1.ne nl1
    all_goals have nl3 : H1 l3 = none := fresh_back (((((xa.trans y1).trans z1).trans e34).trans u6).trans e56) hl3
    all_goals have bl3 := hB1.ne nl3
    · exact e1.back (fun z => bl3 (by
        have n1 := fresh_back (((((xa.trans y1).trans z1).trans e34).trans u6).trans e56) nr6
        exact absurd z.symm (hB1.ne n1))) (fresh_back (((((xa.trans y1).trans z1).trans e34).trans u6).trans e56) nr6)
    · exact e1.trans (Ex.b e08)
    · exact hB1.ex e08
    · have hB8 := hB1.ex e08
      obtain ⟨b0, b1, b2, b3, hb, _⟩ := hB8
      have g1 := e18 _ _ xc
      have fz : ∀ {a : Addr} {o : HO}, H8 a = some o → (a ≠ b) → (a ≠ l1) → (a ≠ l3) → (if a = b ∨ a = l1 ∨ a = l3 then none else H8 a) = some o := fun {a o} h n1 n2 n3 => by
        rw [if_neg (fun z => z.elim n1 fun z => z.elim n2 n3)]
        exact h
      have nv3 : v ≠ l3 := fun z => by
        have := hD.v
        rw [z, hl3] at this
        cases this
      have fr : ∀ {a : Addr} {o : HO}, H8 a = some o → o ≠ .lst [.int b0, .bl b1, .int b2, .int b3] → o ≠ .lst [.int 1, .ref q1] → o ≠ .lst [] → (if a = b ∨ a = l1 ∨ a = l3 then none else H8 a) = some o := fun {a o} h n1 n2 n3 => fz h (ne_o h hb n1) (ne_o h g1 n2) (ne_o h v2 n3)
      refine ⟨fun a o h => ?_, if_pos (.inl rfl), if_pos (.inr (.inl rfl)), if_pos (.inr (.inr rfl)), ?_, bl1, bl3, ⟨q1, [], fr (e18 _ _ xb) (fun h => nomatch h) (fun h => nomatch h) (fun h => nomatch h), g1, (fun x h => nomatch h), Nat.le_refl 0⟩, ⟨[], v2, (fun x h => nomatch h), Nat.le_refl 0⟩, ?_⟩
      · by_cases hc : a = b ∨ a = l1 ∨ a = l3
        · rw [if_pos hc] at h
          cases h
        · rw [if_neg hc] at h
          exact h
      · exact ne_o g1 v2 (fun h => nomatch h)
      · have w1 : OneV c (fun a => if a = b ∨ a = l1 ∨ a = l3 then none else H8 a) l1 l3 (.ref dp) := .txt (.dct q2 (fr (e28 _ _ y2) (fun h => nomatch h) (fun h => nomatch h) (fun h => nomatch h)) (fr (e28 _ _ y3) (fun h => nomatch h) (fun h => nomatch h) (fun h => nomatch h)))
        have w2 : OneV c (fun a => if a = b ∨ a = l1 ∨ a = l3 then none else H8 a) l1 l3 (.ref tp) := .tup (q := q3) (fr (e38 _ _ z3) (fun h => nomatch h) (fun h => nomatch h) (fun h => nomatch h)) (fr (e38 _ _ z2) (fun h => nomatch h) (fun h => nomatch h) (fun h => nomatch h))
        have w3 : OneV c (fun a => if a = b ∨ a = l1 ∨ a = l3 then none else H8 a) l1 l3 (.ref x) := .txt (.ord dx ou (fr (e48 _ _ h4) (fun h => nomatch h) (fun h => nomatch h) (fun h => nomatch h)) (fr (e48 _ _ h4') (fun h => nomatch h) (fun h => nomatch h) (fun h => nomatch h)))
        have w4 : OneV c (fun a => if a = b ∨ a = l1 ∨ a = l3 then none else H8 a) l1 l3 (.ref x2) := .txt (.dep dx2 l m u v ⟨fr (e68 _ _ hD.p) (fun h => nomatch h) (fun h => nomatch h) (fun h => nomatch h), fr (e68 _ _ hD.l) (fun h => nomatch h) (fun h => nomatch h) (fun h => nomatch h), fr (e68 _ _ hD.m) (fun h => nomatch h) (fun h => nomatch h) (fun h => nomatch h), fr (e68 _ _ hD.u) (fun h => nomatch h) (fun h => nomatch h) (fun h => nomatch h),
          fz (e68 _ _ hD.v) (ne_o (e68 _ _ hD.v) hb (fun h => nomatch h)) (ne_o (e68 _ _ hD.v) g1 (fun h => nomatch h)) nv3⟩)
        intro y hy
        simp only [List.mem_cons, List.not_mem_nil, or_false] at hy
        rcases hy with rfl | rfl | rfl | rfl | rfl | rfl | rfl | rfl | rfl | rfl | rfl | rfl
        · exact .prim (.int _)
        · exact .prim (.str _)
        · exact .prim .non
        · exact .l1
        · exact w1
        · exact w2
        · exact .prim (.bl _)
        · exact .prim (.int _)
        · exact w3
        · exact w4
        · exact .l3
        · exact .prim (.str _)
    · exact e1.back (Ne.symm bl1) nl1
    · exact e1.back (Ne.symm bl3) nl3
end
end Mv
/-! law. -/
namespace Mv
open PySem PySem.Spec PyProof.Rows L2 Evl
theorem ev_min2 {σ : L2.St} {H : Hp} {ta tb : TE} {i j : Int} (ha : Ev ta σ H (.int i)) (hb : Ev tb σ H (.int j)) : Ev (tCB (fun xs H Q => ∃ i j, xs = [V.int i, .int j] ∧ Q (.int (if j < i then j else i)) H) (tCons ta (tCons tb tNil))) σ H (.int (if j < i then j else i)) := fun H1 e Q q =>
  ha H1 e _ fun H2 e2 => hb H2 (e.trans e2) _ fun H3 e3 => ⟨i, j, rfl, q H3 (e2.trans e3)⟩
section
variable {P : Program} {w : World} {K : PySem.W.Frag} {mg : Str → Option Value} {base : Heap} {a : Nat → Addr} {d : Nat → FuncData} {tk : Nat → Tok} {c ci : Nat → Addr} {di : Nat → FuncData}
theorem VFac.exB {c : Nat → Addr} {b : Addr} {F : Hp} {l1 l3 : Addr} {n : Nat} {H H' : Hp} {xs : List V} (h : VFac c b F l1 l3 n H xs) (e : ExB b H H') : VFac c b F l1 l3 n H' xs :=
  let ⟨q, ns, g1, g2, g3⟩ := h.g1
  let ⟨ms, k1, k2⟩ := h.g3
  { h with
    ex := fun a o z => e a o (fun y => by rw [y, h.fb] at z; cases z) (h.ex a o z)
    g1 := ⟨q, ns, g1, e _ _ (Ne.symm h.b1) g2, g3⟩
    g3 := ⟨ms, e _ _ (Ne.symm h.b3) k1, k2⟩ }
theorem VFac.grow1 {c : Nat → Addr} {b : Addr} {F : Hp} {l1 l3 : Addr} {n : Nat} {H : Hp} {xs : List V} {ms : List V} (h : VFac c b F l1 l3 n H xs) (hm : H l1 = some (.lst ms)) : VFac c b F l1 l3 (n + 1) (upd H l1 (.lst (ms ++ [.int 7]))) xs := by
  obtain ⟨q, ns, g1, g2, g3, g4⟩ := h.g1
  obtain ⟨ks, k1, k2, k3⟩ := h.g3
  rw [g2] at hm
  injection hm with hm
  injection hm with hm
  subst hm
  exact { h with
    ex := Ex.mut h.ex h.f1
    g1 := ⟨q, ns ++ [.int 7], g1, upd_same, fun x hx => (List.mem_append.mp hx).elim (g3 x) fun z => by rw [List.mem_singleton.mp z]; exact .int 7, by rw [List.length_append, List.length_singleton]; omega⟩
    g3 := ⟨ks, by rw [upd_ne (Ne.symm h.ne)]; exact k1, k2, by omega⟩ }
theorem VFac.grow3 {c : Nat → Addr} {b : Addr} {F : Hp} {l1 l3 : Addr} {n : Nat} {H : Hp} {xs : List V} {ms : List V} (h : VFac c b F l1 l3 n H xs) (hm : H l3 = some (.lst ms)) : VFac c b F l1 l3 (n + 1) (upd H l3 (.lst (ms ++ [.int 7]))) xs := by
  obtain ⟨q, ns, g1, g2, g3, g4⟩ := h.g1
  obtain ⟨ks, k1, k2, k3⟩ := h.g3
  rw [k1] at hm
  injection hm with hm
  injection hm with hm
  subst hm
  exact { h with
    ex := Ex.mut h.ex h.f3
    g1 := ⟨q, ns, g1, by rw [upd_ne h.ne]; exact g2, g3, by omega⟩
    g3 := ⟨ks ++ [.int 7], upd_same, fun x hx => (List.mem_append.mp hx).elim (k2 x) fun z => by rw [List.mem_singleton.mp z]; exact .int 7, by rw [List.length_append, List.length_singleton]; omega⟩ }
theorem VFac.up {c : Nat → Addr} {b : Addr} {F : Hp} {l1 l3 : Addr} {n m : Nat} {H : Hp} {xs : List V} (h : VFac c b F l1 l3 n H xs) (l : n ≤ m) : VFac c b F l1 l3 m H xs :=
  let ⟨q, ns, g1, g2, g3, g4⟩ := h.g1
  let ⟨ks, k1, k2, k3⟩ := h.g3
  { h with g1 := ⟨q, ns, g1, g2, g3, by omega⟩, g3 := ⟨ks, k1, k2, by omega⟩ }
theorem paired_refl {α : Type} {R : α → α → Prop} : ∀ {xs : List α}, (∀ x ∈ xs, R x x) → Paired R xs xs
  | [], _ => .nil
  | x :: xs, h => .cons (h x List.mem_cons_self) (paired_refl fun y hy => h y (List.mem_cons_of_mem _ hy))
theorem one_sm {c : Nat → Addr} {b : Addr} {F : Hp} {l1 l3 : Addr} {n : Nat} {H : Hp} {xs : List V} {x : V} (h : VFac c b F l1 l3 n H xs) (hn : n ≤ 20) (o : OneV c F l1 l3 x) : Sm c H 3 x x := by
  have two : ∀ q, F q = some (.lst [.int 2]) → Sm c H 2 (.ref q) (.ref q) := fun q hq => .inr (.inr ⟨q, q, [.int 2], [.int 2], rfl, rfl, .inl ⟨h.ex _ _ hq, h.ex _ _ hq⟩, by decide, .cons (.inl ⟨rfl, .int 2⟩) .nil⟩)
  cases o with
  | prim hp => exact .inl ⟨rfl, hp⟩
  | @txt p ht => exact .inr (.inl ⟨p, rfl, rfl, ht.ex h.ex⟩)
  | @tup p q hp hq => exact .inr (.inr ⟨p, p, [.int 1, .ref q], [.int 1, .ref q], rfl, rfl, .inr ⟨h.ex _ _ hp, h.ex _ _ hp⟩, (show 2 ≤ 60 by decide), .cons (.inl ⟨rfl, .int 1⟩) (.cons (two q hq) .nil)⟩)
  | l1 =>
    obtain ⟨q, ns, g1, g2, g3, g4⟩ := h.g1
    exact .inr (.inr ⟨l1, l1, _, _, rfl, rfl, .inl ⟨g2, g2⟩, by rw [List.length_cons, List.length_cons]; omega, .cons (.inl ⟨rfl, .int 1⟩) (.cons (two q g1) (paired_refl fun y hy => .inl ⟨rfl, g3 y hy⟩))⟩)
  | l3 =>
    obtain ⟨ks, k1, k2, k3⟩ := h.g3
    exact .inr (.inr ⟨l3, l3, _, _, rfl, rfl, .inl ⟨k1, k1⟩, by omega, paired_refl fun y hy => .inl ⟨rfl, k2 y hy⟩⟩)
theorem shaped_2 : ∀ i, i < 16 → SeqAt.shaped (.list [.str (nm i), .str (nm i)]) = true := by decide +kernel
theorem call2_LL {σ : L2.St} {H : Hp} {Q : VK} {sp : Sp} {E : XK} {ta tb : TE} {xs ys : List V} (ha : EvL ta σ H xs) (hb : EvL tb σ H ys) (k : ∀ pa pb H1, Ex H H1 → H1 pa = some (.lst xs) → H1 pb = some (.lst ys) → sp [.ref pa, .ref pb] H1 Q E) : tCall sp [] E (tCons ta (tCons tb tNil)) σ H Q :=
  ha H (Ex.refl H) _ fun pa H1 _ e1 h1 => hb H1 e1 _ fun pb H2 _ e2 h2 => k pa pb H2 (e1.trans e2) (e2 _ _ h1) h2
theorem ne_sn {H : Hp} {p q : Addr} {o : HO} (h : H p = some o) (n : H q = none) : q ≠ p := fun z => by
  rw [z, h] at n
  cases n
theorem cutV_to (xs : List V) (n : Nat) (h : n ≤ xs.length) : cutV xs none (some (n : Int)) = xs.take n := by
  unfold cutV
  rw [HT.sIx_nat, HT.sIx_none, Nat.min_eq_left h, List.drop_zero, Nat.sub_zero]
theorem rep1 (n : Nat) (x : V) : (List.replicate n [x]).flatten = List.replicate n x := by
  induction n with
  | zero => rfl
  | succ n ih => rw [List.replicate_succ, List.flatten_cons, ih, List.replicate_succ] <;> rfl
/-- values if _law_take(box, 3) > 0 else values[:1] * count -/
theorem vals_if {σ : L2.St} {H H0 : Hp} {b zl : Addr} {zs : List V} {n m : Nat} {Q : VK} (s2 : σ[2]? = some (some (.ref b))) (s5 : σ[5]? = some (some (.int (m : Int)))) (s6 : σ[6]? = some (some (.ref zl))) (hz : H zl = some (.lst zs)) (hl : zs.length = m) (h1 : 1 ≤ m) (h3 : m ≤ 3)
    (hB : BoxAt H b n) (hn : n ≤ 90000) (hnz : H0 zl = none) (e0 : Ex H0 H) (nb : b ≠ zl)
    (q : ∀ vl ls H', H0 vl = none → H' vl = some (.lst ls) → ls.length = m → (∀ x ∈ ls, x ∈ zs) → ExB b H H' → BoxAt H' b (n + 1) → b ≠ vl → Q (.ref vl) H') :
    tIf (tTest (tOp (rI0 fun i j => V.bl (decide (j < i))) (tCall sp__law_take [] E0 (tCons (tVar 2) (tCons (tC (V.int 3)) tNil))) (tC (V.int 0)))) (tVar 6) (tOp rRep (tSl (rSlL K) (tVar 6) tNoPart (tPart (tC (V.int 1)))) (tVar 5)) σ H Q := by
  refine ⟨_, s2, b, 3, n, rfl, by decide, by decide, hB, by omega, fun i0 H1 i0a i0b e1 hB1 => ⟨i0, 0, rfl, rfl, _, rfl, ?_⟩⟩
  have hz1 : H1 zl = some (.lst zs) := e1 _ _ (Ne.symm nb) hz
  by_cases hp : (0 : Int) < i0
  · rw [decide_eq_true hp]
    exact ⟨_, s6, q zl zs H1 hnz hz1 hl (fun x h => h) e1 hB1 nb⟩
  · rw [decide_eq_false hp]
    show tOp rRep (tSl (rSlL K) (tVar 6) tNoPart (tPart (tC (V.int 1)))) (tVar 5) σ H1 Q
    refine ⟨_, s6, 1, rfl, zl, zs, rfl, sq_of hz1, fun t ht => ⟨_, s5, t, (m : Int), _, rfl, rfl, upd_same, by omega, by omega, ?_, fun r hr => ?_⟩⟩
    · refine sz_of ?_
      have : (cutV zs none (some 1)).length ≤ zs.length := cutV_length _ _ _
      have hm : (m : Int).toNat = m := Int.toNat_natCast m
      rw [hm]
      have : (cutV zs none (some 1)).length * m ≤ 3 * 3 := Nat.mul_le_mul (by omega) h3
      omega
    · obtain ⟨z, zt, rfl⟩ := len1 (xs := zs) (by omega)
      have hc : cutV (z :: zt) none (some 1) = [z] := by
        have := cutV_to (z :: zt) 1 (by rw [List.length_cons]; omega)
        exact this
      rw [hc, Int.toNat_natCast, rep1]
      have nt : b ≠ t := hB1.ne ht
      have eT : Ex H1 (upd H1 t (.lst [z])) := Ex.new ht
      have eR : Ex (upd H1 t (.lst [z])) (upd (upd H1 t (.lst [z])) r (.lst (List.replicate m z))) := Ex.new (by rw [← hc]; exact hr)
      have hr1 : H1 r = none := fresh_back (Ex.new (o := .lst (cutV (z :: zt) none (some 1))) ht) hr
      have nr : b ≠ r := hB1.ne hr1
      have hr0 : H0 r = none := fresh_back e0 (e1.back (Ne.symm nr) hr1)
      exact q r (List.replicate m z) _ hr0 upd_same List.length_replicate (fun x hx => by rw [(List.mem_replicate.mp hx).2]; exact List.mem_cons_self) (e1.trans (Ex.b (eT.trans eR))) (hB1.ex (eT.trans eR)) nr
theorem fls_len : ∀ i, i < 16 → 1 ≤ (fls i).length ∧ (fls i).length ≤ 3 := by decide
theorem one_is (T : All K mg a d tk c ci di) {b : Addr} {F : Hp} {l1 l3 : Addr} {n : Nat} {H : Hp} {xs : List V} {x : V} (h : VFac c b F l1 l3 n H xs) (o : OneV c F l1 l3 x) :
    (∃ v1 v2 v3 v5, Is5 K H x v1 v2 v3 false v5) ∨ (∃ p ms, x = .ref p ∧ H p = some (.lst ms) ∧ ms.length ≤ n + 2 ∧ b ≠ p ∧ F p = none ∧ (p = l1 ∨ p = l3) ∧ VFac c b F l1 l3 (n + 1) (upd H p (.lst (ms ++ [.int 7]))) xs) := by
  cases o with
  | prim hp =>
    cases hp with
    | non => exact .inl ⟨_, _, _, _, is_non⟩
    | bl z => exact .inl ⟨_, _, _, _, is_bl⟩
    | int z => exact .inl ⟨_, _, _, _, is_int⟩
    | str z => exact .inl ⟨_, _, _, _, is_str⟩
  | @txt p ht => exact .inl ⟨_, _, _, _, is_txt T (ht.ex h.ex)⟩
  | @tup p q hp hq => exact .inl ⟨_, _, _, _, is_tup (h.ex _ _ hp)⟩
  | l1 =>
    obtain ⟨q, ns, g1, g2, g3, g4⟩ := h.g1
    exact .inr ⟨l1, _, rfl, g2, by rw [List.length_cons, List.length_cons]; omega, h.b1, h.f1, .inl rfl, h.grow1 g2⟩
  | l3 =>
    obtain ⟨ks, k1, k2, k3⟩ := h.g3
    exact .inr ⟨l3, _, rfl, k1, by omega, h.b3, h.f3, .inr rfl, h.grow3 k1⟩
def sp_law (K : PySem.W.Frag) : Sp := fun vs H Q _ => ∃ (p : Addr) (ns : List Int), vs = [.ref p] ∧ SqL K H p (ns.map V.int) ∧ ns.length ≤ 63 ∧ ∀ H', Q (.bl true) H'
theorem ok_law (T : All K mg a d tk c ci di) : FnG P w K mg base CX0 11 (a 17) (d 17) ["script"] (sp_law K) := by
  refine okG T.F_law.fn sc_law (fun vs H Q E h => ?_) (fun cdv A outer s H vs Q E hgd hr h => ?_)
  · obtain ⟨p, ns, rfl, _⟩ := h
    rfl
  · obtain ⟨sc, ns, rfl, hs, h63, k⟩ := h
    have nd := sc_law.nd
    have hu64 := hr.units
    refine ⟨_, (pss_cons (ps_for PassesOwn.never rfl (pi_range1 rfl T.n_range (pa_cons (pe_callB (call_max2 rfl) (by rfl) T.n_max PyProof.Rows.boot_max (pa_cons pe_int (pa_cons (pe_callB (call_min2 rfl) (by rfl) T.n_min PyProof.Rows.boot_min (pa_cons pe_int (pa_cons (pe_callB call_len_seq (by rfl) T.n_len PySem.boot_len (pa_cons (pv 0) pa_nil)) pa_nil))) pa_nil))) pa_nil)) (pg_name (i := 1) nd rfl (Or.inl rfl))
 (pss_cons (ps_set (i := 2) nd rfl (Or.inl rfl) (pe_call (ok__law_box T) (hr.mono (by decide)) rfl T.F__law_box.m T.F__law_box.kp T.F__law_box.b .nil pass0 (pa_cons (pe_call (ok__law_cell T) (hr.mono (by decide)) rfl T.F__law_cell.m T.F__law_cell.kp T.F__law_cell.b .nil pass0 (pa_cons (pv 0) (pa_cons (pv 1) pa_nil))) pa_nil)))
 (pss_one (ps_for PassesOwn.never rfl (pi_list (pe_call0 (ok__law_words T) (hr.mono (by decide)) rfl T.F__law_words.m T.F__law_words.kp T.F__law_words.b .nil pass0)) (pg_unl rfl (pgs_cons (pg_name (i := 3) nd rfl (Or.inl rfl)) (pgs_cons (pg_name (i := 4) nd rfl (Or.inl rfl)) (pgs_cons (pg_name (i := 5) nd rfl (Or.inl rfl)) pgs_nil))))
 (pss_cons (ps_set (i := 6) nd rfl (Or.inl rfl) (pe_slice sl_list (pe_call (ok__law_mixed T) (hr.mono (by decide)) rfl T.F__law_mixed.m T.F__law_mixed.kp T.F__law_mixed.b .nil pass0 (pa_cons (pv 2) (pa_cons (pe_call (ok__law_values T) (hr.mono (by decide)) rfl T.F__law_values.m T.F__law_values.kp T.F__law_values.b .nil pass0 (pa_cons (pv 2) pa_nil)) pa_nil))) po_none (po_some (pv 5))))
 (pss_cons (ps_set (i := 6) nd rfl (Or.inl rfl) (pe_ifExp (pt_cmpR op_gt (pe_call (ok__law_take T) (hr.mono (by decide)) rfl T.F__law_take.m T.F__law_take.kp T.F__law_take.b .nil pass0 (pa_cons (pv 2) (pa_cons pe_int pa_nil))) pe_int (nomark _)) (pv 6) (pe_op op_rep (pe_slice sl_list (pv 6) po_none (po_some pe_int)) (pv 5))))
 (pss_cons (ps_set (i := 7) nd rfl (Or.inl rfl) (pe_cmpR op_eq (pe_call (ok__law_take T) (hr.mono (by decide)) rfl T.F__law_take.m T.F__law_take.kp T.F__law_take.b .nil pass0 (pa_cons (pv 2) (pa_cons pe_int pa_nil))) pe_int (nomark _)))
 (pss_cons (ps_set (i := 8) nd rfl (Or.inl rfl) (pe_lst (pa_cons (pe_call (ok__law_caught T) (hr.mono (by decide)) rfl T.F__law_caught.m T.F__law_caught.kp T.F__law_caught.b .nil pass0 (pa_cons (pv 3) (pa_cons (pv 6) (pa_cons (pv 7) pa_nil)))) (pa_cons (pe_call (ok__law_caught_back T) (hr.mono (by decide)) rfl T.F__law_caught_back.m T.F__law_caught_back.kp T.F__law_caught_back.b .nil pass0 (pa_cons (pv 3) (pa_cons (pv 6) (pa_cons (pe_not (pv 7)) pa_nil)))) pa_nil))))
 (pss_cons (ps_if (PW.pt (pw_or (pt_cmpR (op_neD hu64) (pe_lc (own := [("one", 10)]) (g := (gName 10)) rfl nd (pi_list (pv 8)) (blkOk_by (N := N_law) (sc := defScope s_law) (by decide +kernel)) (fun _ _ _ _ _ => (pg_name (i := 10) nd rfl (Or.inl rfl))) (fun _ _ _ _ _ => pts_nil) (fun _ _ _ _ _ => (pe_ix (show IxR _ (rIxL K) from ix_list) (pv 10) pe_int (fun _ _ => rfl)))) (pe_lst (pa_cons (pv 3) (pa_cons (pv 3) pa_nil))) (nomark _)) (pw_or1 (pt_not (pt_val (pe_callG (ok__law_same T) hgd (hr.mono (by decide)) rfl T.F__law_same.m T.F__law_same.kp T.F__law_same.b .nil pass0 (pa_cons (pe_call (ok__law_base T) (hr.mono (by decide)) rfl T.F__law_base.m T.F__law_base.kp T.F__law_base.b .nil pass0 (pa_cons (pv 3) (pa_cons (pv 6) (pa_cons (pv 7) pa_nil)))) (pa_cons (pe_lst (pa_cons (pv 4) (pa_cons pe_bl pa_nil))) pa_nil))))))))
 (pss_one (ps_ret pe_bl))
 pss_nil)
 (pss_cons (ps_for PassesOwn.never rfl (pi_range1 rfl T.n_range (pa_cons (pv 5) pa_nil)) (pg_name (i := 9) nd rfl (Or.inl rfl))
 (pss_one (ps_if (pt_val (pe_callB call_isi (by rfl) T.n_isinstance PyProof.Rows.boot_isinstance (pa_cons (pe_ix ix_list (pv 6) (pv 9) (fun _ _ => rfl)) (pa_cons (pe_bltn (v := .ty "list") rfl T.n_list PyProof.Rows.boot_list rfl) pa_nil))))
 (pss_one (ps_expr (pe_bm PySem.F.plainAttrs_list PySem.F.slot_list_append PySem.F.type_list_append mt_append (pe_ix ix_list (pv 6) (pv 9) (fun _ _ => rfl)) (pa_cons pe_int pa_nil))))
 pss_nil)))
 (pss_one (ps_if (pt_not (pt_val (pe_callG (ok__law_same T) hgd (hr.mono (by decide)) rfl T.F__law_same.m T.F__law_same.kp T.F__law_same.b .nil pass0 (pa_cons (pe_lst (pa_cons (pe_ix ix_list (pe_ix ix_list (pv 8) pe_int (fun _ _ => rfl)) pe_int (fun _ _ => rfl)) (pa_cons (pe_ix ix_list (pe_ix ix_list (pv 8) pe_int (fun _ _ => rfl)) pe_int (fun _ _ => rfl)) pa_nil))) (pa_cons (pe_lst (pa_cons (pv 6) (pa_cons (pv 6) pa_nil))) pa_nil)))))
 (pss_one (ps_ret pe_bl))
 pss_nil))))))))))))
 (pss_one (ps_ret pe_bl))), ?_⟩
    let Ov : Nat → L2.St → Hp → Prop := fun _ σ' H' => Ex H H' ∧ ∃ v1 v2 v3 v4 v5 v6 v7 v8 v9 v10, σ' = [some (.ref sc), v1, v2, v3, v4, v5, v6, v7, v8, v9, v10]
    have nn : ∀ l : Nat, 0 ≤ (if (if (l : Int) < 6 then (l : Int) else 6) > 2 then (if (l : Int) < 6 then (l : Int) else 6) else (2 : Int)) ∧ (if (if (l : Int) < 6 then (l : Int) else 6) > 2 then (if (l : Int) < 6 then (l : Int) else 6) else (2 : Int)) ≤ 6 := fun l => by
      split <;> split <;> omega
    have n1 := nn (ns.map V.int).length
    refine q_forR1 (ea_cons (ev_max2 ev_c (ev_min2 ev_c (ev_len (ev_var rfl) hs))) ea_nil) ⟨n1.1, by omega⟩ Ov (fun H1 e1 => ⟨e1, _, _, _, _, _, _, _, _, _, _, rfl⟩) ?_ fun σ' H' ⟨_, v1, v2, v3, v4, v5, v6, v7, v8, v9, v10, hσ⟩ => ?_
    · rintro i σ' H1 hi ⟨e1, v1, v2, v3, v4, v5, v6, v7, v8, v9, v10, rfl⟩
      have hi5 : i ≤ 100 := by omega
      refine ⟨_, rfl, _, rfl, sc, ns, i, rfl, ex_l e1 hs, hi5, fun cl H2 e2 => ⟨cl, rfl, fun b H3 nb e3 hB => ?_⟩⟩
      have nb1 : H1 b = none := fresh_back e2 nb
      have e13 := e2.trans e3
      refine ⟨rfl, fun pw ws H4 npw e4 hpw lws hws => ?_⟩
      have npb : b ≠ pw := hB.ne npw
      have hB4 := hB.ex e4
      have nb4 : H4 b ≠ none := hB4.some
      let Wv : Nat → L2.St → Hp → Prop := fun j σ' H' => ExB b H4 H' ∧ BoxAt H' b (1000 * j) ∧ ∃ v3 v4 v5 v6 v7 v8 v9 v10, σ' = [some (.ref sc), some (.int (i : Int)), some (.ref b), v3, v4, v5, v6, v7, v8, v9, v10]
      refine ⟨pw, rfl, ⟨ws, sq_of hpw⟩, for_list (K := K) (a := pw) (xs := ws) Wv ⟨Ex.b (Ex.refl H4), hB4.mono (by omega), _, _, _, _, _, _, _, _, rfl⟩ (fun j σ' H' _ h => sq_of (h.1 _ _ (Ne.symm npb) hpw)) ?_ ?_⟩
      · rintro j x σ' H5 hj ⟨e5, hB5, v3, v4, v5, v6, v7, v8, v9, v10, rfl⟩
        have hj16 : j < 16 := by rw [← lws]; exact (List.getElem?_eq_some_iff.mp hj).1
        obtain ⟨wq, ix, rfl, hix, nwq, hwq⟩ := hws x (List.mem_of_getElem? hj)
        have hwq5 := e5 _ _ (Ne.symm (hB.ne nwq)) hwq
        obtain ⟨c1, c3⟩ := fls_len ix hix
        refine ⟨wq, _, rfl, sq_of hwq5, rfl, _, _, rfl, _, _, rfl, _, _, rfl, rfl, ?_⟩
        generalize hcnt : (fls ix).length = cnt at c1 c3 ⊢
        refine ⟨_, rfl, _, rfl, b, 1000 * j, rfl, hB5, by omega, fun vr xs F l1 l3 H6 nvr hvr hlen e6 hB6 hV nl1 nl3 => ⟨b, vr, xs, _, rfl, hvr, by omega, hB6, by omega, fun mr ys H7 pm nmr hmr e7 hB7 => ?_⟩⟩
        have hV7 : VFac c b F l1 l3 0 H7 xs := hV.exB e7
        have lys : ys.length = 12 := by rw [pm.length_eq, hlen]
        refine ⟨_, rfl, (cnt : Int), rfl, mr, ys, rfl, sq_of hmr, fun zl hzl => ?_⟩
        rw [cutV_to ys cnt (by omega)]
        have nz : b ≠ zl := hB7.ne hzl
        have eZ : Ex H7 (upd H7 zl (.lst (ys.take cnt))) := Ex.new hzl
        refine q_asgT (vals_if (K := K) (H0 := H7) (zs := ys.take cnt) (m := cnt) rfl rfl rfl upd_same (by rw [List.length_take]; omega) c1 c3 (hB7.ex eZ) (by omega) hzl eZ nz fun vl ls H8 nvl hvl lls mls e8 hB8 bvl => ?_)
        have e78 := (Ex.b eZ).trans e8
        refine q_asgT ?_
        refine ⟨_, rfl, b, 2, _, rfl, by decide, by decide, hB8, by omega, fun i2 H9 _ _ e9 hB9 => ⟨rfl, ?_⟩⟩
        generalize decide (V.int i2 = V.int 0) = yn
        have hvl9 := e9 _ _ (Ne.symm bvl) hvl
        have hlf : (fls ix).length ≤ ls.length := by omega
        have htk : ls.take (fls ix).length = ls := List.take_of_length_le (by omega)
        refine q_asgT ?_
        refine ⟨_, rfl, _, rfl, _, rfl, ix, vl, ls, yn, rfl, hix, hvl9, hlf, fun p1 q1 H10 np1 nq1 e10 hp1 hq1 => ⟨_, rfl, _, rfl, _, rfl, _, rfl, ix, vl, ls, !yn, rfl, hix, e10 _ _ hvl9, hlf, fun p2 q2 H11 np2 nq2 e11 hp2 hq2 => ⟨sz_of (show 2 ≤ 100000 by decide), fun tl htl => ?_⟩⟩⟩
        rw [htk] at hq1 hq2
        have eT : Ex H11 (upd H11 tl (.lst [.ref p1, .ref p2])) := Ex.new htl
        have hT : upd H11 tl (.lst [.ref p1, .ref p2]) tl = some (.lst [.ref p1, .ref p2]) := upd_same
        generalize upd H11 tl (.lst [.ref p1, .ref p2]) = H12 at eT hT ⊢
        have e912 := (e10.trans e11).trans eT
        have hvl12 := e912 _ _ hvl9
        refine q_when (b := false) (et_or (a := false) (b := false) ?_ fun _ => et_not (a := true) (et_B ?_)) (fun h => nomatch h) fun _ H13 e13' => ?_
        · refine et_is (et_test (ev_opLL (el_lcL (fun _ => true) (fun _ => .str (nm ix)) (ev_var (i := 8) rfl) (sq_of hT) (show 2 ≤ 40000 by decide) (fun _ => rfl) (fun _ _ _ _ _ => et_yes) fun t x H' e' ht _ => ?_) (el_lst (ea_cons (ev_var (i := 3) rfl) (ea_cons (ev_var (i := 3) rfl) ea_nil)) (show 2 ≤ 100000 by decide)) (z := .bl (!PyData.eqv (.list [.str (nm ix), .str (nm ix)]) (.list [.str (nm ix), .str (nm ix)]))) fun p q H' h1 h2 e' H'' e'' Q' q' => ?_)) ?_
          · match t, ht with
            | 0, ht =>
              cases ht
              exact ev_ixL (i := 0) (ev_var rfl) ev_c (sq_of (e' _ _ (eT _ _ (e11 _ _ hp1)))) at0
            | 1, ht =>
              cases ht
              exact ev_ixL (i := 0) (ev_var rfl) ev_c (sq_of (e' _ _ (eT _ _ hp2))) at0
            | t + 2, ht => cases ht
          · exact ⟨.list [.str (nm ix), .str (nm ix)], .list [.str (nm ix), .str (nm ix)], .lst (sq_of (e'' _ _ h1)) (.cons (.str _) (.cons (.str _) .nil)), .lst (sq_of (e'' _ _ h2)) (.cons (.str _) (.cons (.str _) .nil)), shaped_2 ix hix, shaped_2 ix hix, q' H'' (Ex.refl _)⟩
          · rw [SeqAt.eqv_refl _ (SeqAt.canLay_of_shaped (shaped_2 ix hix))] <;> rfl
        · exact fun H' e' Q' q' => ⟨_, rfl, _, rfl, _, rfl, ix, vl, ls, yn, rfl, hix, e' _ _ hvl12, hlf, fun pb H2' npb eb hpb => ⟨_, rfl, sz_of (show 2 ≤ 100000 by decide), fun pt hpt => ⟨.ref pb, .ref pt, rfl,
            .inr (.inr ⟨pb, pt, _, _, rfl, rfl, .inl ⟨(Ex.new hpt) _ _ hpb, upd_same⟩, (show 2 ≤ 60 by decide), .cons (.inl ⟨rfl, .str _⟩) (.cons (.inl ⟨rfl, .bl _⟩) .nil)⟩), fun H3' e3' => q' H3' ((eb.trans (Ex.new hpt)).trans e3')⟩⟩⟩
        have e913 := e912.trans e13'
        have e713 := e78.trans (e9.trans (Ex.b e913))
        have e413 := ((e5.trans e6).trans e7).trans e713
        have hV13 := hV7.exB e713
        have hB13 := hB9.ex e913
        have hvl13 := e913 _ _ hvl9
        have z1 : vl ≠ l1 ∧ vl ≠ l3 := by
          obtain ⟨q, ms, _, g2, _⟩ := hV7.g1
          obtain ⟨ks, k1, _⟩ := hV7.g3
          exact ⟨ne_sn g2 nvl, ne_sn k1 nvl⟩
        have f1 := hV13.f1
        have nl14 : H4 l1 = none := e5.back (Ne.symm hV13.b1) nl1
        have nl34 : H4 l3 = none := e5.back (Ne.symm hV13.b3) nl3
        have hT13 := e13' _ _ hT
        have hp13 := e13' _ _ (eT _ _ (e11 _ _ hp1))
        have hp23 := e13' _ _ (eT _ _ hp2)
        have hq13 := e13' _ _ (eT _ _ (e11 _ _ hq1))
        have hq23 := e13' _ _ (eT _ _ hq2)
        obtain ⟨F2, hF2⟩ : ∃ F2 : Hp, ∀ a, F2 a = if a = l1 ∨ a = l3 then none else H13 a := ⟨fun a => if a = l1 ∨ a = l3 then none else H13 a, fun _ => rfl⟩
        have f21 : F2 l1 = none := by rw [hF2, if_pos (.inl rfl)]
        have f23 : F2 l3 = none := by rw [hF2, if_pos (.inr rfl)]
        have fk : ∀ {p : Addr} {o : HO}, H13 p = some o → (p ≠ l1) → (p ≠ l3) → F2 p = some o := fun {p o} h n1 n2 => by
          rw [hF2, if_neg fun z => z.elim n1 n2]
          exact h
        have fn : ∀ {p : Addr} {o : HO}, H13 p = some o → H7 p = none → F2 p = some o := fun {p o} h n => by
          obtain ⟨q, ms, _, g2, _⟩ := hV7.g1
          obtain ⟨ks, k1, _⟩ := hV7.g3
          exact fk h (ne_sn g2 n) (ne_sn k1 n)
        have bk : ∀ {p : Addr}, H9 p = none → H7 p = none := fun {p} h => (e78.trans e9).back (Ne.symm (hB9.ne h)) h
        have eF : Ex F2 H13 := fun p o h => by
          rw [hF2] at h
          by_cases hc : p = l1 ∨ p = l3
          · rw [if_pos hc] at h
            cases h
          · rwa [if_neg hc] at h
        have v1 := fk hvl13 z1.1 z1.2
        have v2 := fn hT13 (bk (fresh_back (e10.trans e11) htl))
        have v3' := fn hp13 (bk np1)
        have v4' := fn hp23 (bk (fresh_back e10 np2))
        have v5' := fn hq13 (bk nq1)
        have v6' := fn hq23 (bk (fresh_back e10 nq2))
        let Lv : Nat → L2.St → Hp → Prop := fun t σ' H' => Ex F2 H' ∧ ExB b H4 H' ∧ BoxAt H' b (1000 * j + 200) ∧ VFac c b F l1 l3 t H' xs ∧ ∃ v9 v10, σ' = [some (.ref sc), some (.int (i : Int)), some (.ref b), some (.str (nm ix)), some (.str (bnm (bs ix))), some (.int (cnt : Int)), some (.ref vl), some (.bl yn), some (.ref tl), v9, v10]
        refine q_forR1 (ea_cons (ev_var (i := 5) rfl) ea_nil) ⟨by omega, by omega⟩ Lv (fun H14 e14 => ⟨eF.trans e14, e413.trans (Ex.b e14), (hB13.ex e14).mono (by omega), hV13.exB (Ex.b e14), _, _, rfl⟩) ?_ ?_
        · rintro t σ' H14 ht ⟨g1, g2, g3, g4, v9, v10, rfl⟩
          have htl' : t < ls.length := by omega
          have gx := List.getElem?_eq_getElem htl'
          have ox := g4.all _ (pm.mem_iff.mp (List.mem_of_mem_take (mls _ (List.getElem_mem htl'))))
          rcases one_is T g4 ox with ⟨w1, w2, w3, w5, I⟩ | ⟨p, ms, hx, hm, hlm, bp, fp, p13, gV⟩
          · exact s_when (b := false) (et_B (I.l (ev_ixL (ev_var (i := 6) rfl) (ev_var (i := 9) rfl) (sq_of (g1 _ _ v1)) (atI_nat gx)))) (fun h => nomatch h) fun _ H15 e15 => ⟨g1.trans e15, g2.trans (Ex.b e15), g3.ex e15, (g4.exB (Ex.b e15)).up (Nat.le_succ _), _, _, rfl⟩
          · have hx6 : Ev (tOp (rIxL K) (tVar 6) (tVar 9)) [some (.ref sc), some (.int (i : Int)), some (.ref b), some (.str (nm ix)), some (.str (bnm (bs ix))), some (.int (cnt : Int)), some (.ref vl), some (.bl yn), some (.ref tl), some (.int (t : Int)), v10] H14 (.ref p) := ev_ixL (ev_var (i := 6) rfl) (ev_var (i := 9) rfl) (sq_of (g1 _ _ v1)) (by rw [← hx]; exact atI_nat gx)
            refine s_when (b := true) (et_B ((is_lst (K := K) hm).l hx6)) (fun _ H15 e15 => ?_) fun h => nomatch h
            have n2 : F2 p = none := p13.elim (fun z => z ▸ f21) fun z => z ▸ f23
            have n4 : H4 p = none := p13.elim (fun z => z ▸ nl14) fun z => z ▸ nl34
            have gE := g4.exB (Ex.b e15)
            refine s_app (e15 _ _ hm) (hx6.mono e15) ev_c (by omega) fun H16 e16 => ?_
            have g16 := gE.exB (Ex.b e16)
            refine ⟨Ex.mut ((g1.trans e15).trans e16) n2, ((g2.trans (Ex.b e15)).trans (Ex.b e16)).mut n4, ((g3.ex e15).ex e16).upd bp, ?_, _, _, rfl⟩
            rcases p13 with rfl | rfl
            · exact g16.grow1 ((e15.trans e16) _ _ hm)
            · exact g16.grow3 ((e15.trans e16) _ _ hm)
        · rintro σ' H14 ⟨g1, g2, g3, g4, v9, v10, rfl⟩
          have hct : ((cnt : Int)).toNat = cnt := Int.toNat_natCast cnt
          rw [hct] at g4
          refine s_when (b := false) (et_not (a := true) (et_B (fun H15 e15 Q' q' => ?_))) (fun h => nomatch h) fun _ H15 e15 => ⟨g2.trans (Ex.b e15), (g3.ex e15).mono (by omega), _, _, _, _, _, _, _, _, rfl⟩
          have hl := g1.trans e15
          refine call2_LL (el_lst (ea_cons (ev_ixL (i := 1) (ev_ixL (i := 0) (ev_var (i := 8) rfl) ev_c (sq_of (hl _ _ v2)) at0) ev_c (sq_of (hl _ _ v3')) at1) (ea_cons (ev_ixL (i := 1) (ev_ixL (i := 1) (ev_var (i := 8) rfl) ev_c (sq_of (hl _ _ v2)) at1) ev_c (sq_of (hl _ _ v4')) at1) ea_nil)) (show 2 ≤ 100000 by decide)) (el_lst (ea_cons (ev_var (i := 6) rfl) (ea_cons (ev_var (i := 6) rfl) ea_nil)) (show 2 ≤ 100000 by decide)) fun pa pb H17 e17 h16 h17 => ?_
          have h4 := g4.exB (Ex.b (e15.trans e17))
          have l4 : ∀ q, F2 q = some (.lst ls) → Sm c H17 4 (.ref q) (.ref vl) := fun q hq => .inr (.inr ⟨q, vl, ls, ls, rfl, rfl, .inl ⟨(hl.trans e17) _ _ hq, (hl.trans e17) _ _ v1⟩, by omega, paired_refl fun x hx => one_sm h4 (by omega) (h4.all _ (pm.mem_iff.mp (List.mem_of_mem_take (mls _ hx))))⟩)
          exact ⟨.ref pa, .ref pb, rfl, .inr (.inr ⟨pa, pb, _, _, rfl, rfl, .inl ⟨h16, h17⟩, (show 2 ≤ 60 by decide), .cons (l4 _ v5') (.cons (l4 _ v6') .nil)⟩), fun H18 e18 => q' H18 (e17.trans e18)⟩
      · rintro σ' H5 ⟨e5, _, v3, v4, v5, v6, v7, v8, v9, v10, rfl⟩
        refine ⟨e1.trans fun p o h => e5 _ _ (fun z => by rw [z, nb1] at h; cases h) ((e13.trans e4) _ _ h), _, _, _, _, _, _, _, _, _, _, rfl⟩
    · subst hσ
      exact s_ret ev_c fun H2 e2 => k H2
end
end Mv
namespace Mv
open PySem PySem.Spec PyProof.Rows L2 Evl
/-! ### what the top has written -/
def FE (K : PySem.W.Frag) (mg : Str → Option Value) (x : Str) (st : Stmt) (ps : List Str) : Prop := ∃ f fd, FD K mg x st f fd ps
theorem fe_mk {K : PySem.W.Frag} {h : Heap} {mg : Str → Option Value} {x : Str} {st : Stmt} {ps : List Str} (X : K.In h) (G : h.Ns mainGlobals mg) {f : Addr} {oc : Value} {od an : Option Addr} {osl : Array (Option Value)} {kV doc pm cdv ct : Value}
    (hn : PySem.W.nsIn K mainGlobals x = some (some (.ref f))) (l : K.lookup f = some ⟨oc, od, .func (PySem.W.fnOf x x (defArgs st) (defBody st) (defScope st) .none kV doc pm an cdv ct), osl⟩) (c : PySem.W.codeIn K cdv x = true) (k : PySem.W.keepIn K (.ref f) = true)
    (b : ∀ (kV doc pm : Value) (an : Option Addr) (cdv ct : Value) (us : List Value), us.length = ps.length → bindArgs (PySem.W.fnOf x x (defArgs st) (defBody st) (defScope st) .none kV doc pm an cdv ct) ⟨us, []⟩ = pure (ps.zip us)) : FE K mg x st ps :=
  ⟨f, _, fun_mk (st := st) l c k, PySem.W.mg_of X G hn, k, (fun_mk (st := st) l c k).binds b⟩
theorem vals_rev {vs : List V} {us : List Value} (h : Vals vs us) : Vals vs.reverse us.reverse := by
  induction h with
  | nil => exact .nil
  | cons h1 h2 ih =>
    rw [List.reverse_cons, List.reverse_cons]
    exact ih.append (.cons h1 .nil)
def NoL (K : PySem.W.Frag) (C : Addr) : List Str → Prop
  | [] => True
  | f :: r => PySem.W.findIn K (.ref C) f = some none ∧ NoL K C r
theorem NoL.all {K : PySem.W.Frag} {C : Addr} : ∀ {fs : List Str}, NoL K C fs → ∀ f ∈ fs, PySem.W.findIn K (.ref C) f = some none
  | [], _, _, h => nomatch h
  | f :: r, ⟨h1, h2⟩, x, h => (List.mem_cons.mp h).elim (fun e => e ▸ h1) fun z => h2.all x z
theorem exf_mk {K : PySem.W.Frag} {h : Heap} {mg : Str → Option Value} {x q : Str} {st : Stmt} {C fI : Addr} {fs : List Str} {mro : List Value} {nI : String} (X : K.In h) (G : h.Ns mainGlobals mg) {nm qn : Str} {N : Addr} {bs : List Value} {sn : List Str} {sub : List Value} {ab : Bool} {col : Option Bool} {dd : Option Addr} {k0 k1 k2 k3 k5 : Option Value}
    {oc : Value} {od an : Option Addr} {osl : Array (Option Value)} {kV doc pm cdv ct : Value} (hn : PySem.W.nsIn K mainGlobals x = some (some (.ref C))) (lC : K.lookup C = some (excClassObj nm qn C N bs mro true sn sub ab col dd k0 k1 k2 k3 k5 nI))
    (sa : PySem.W.findIn K (.ref C) "__setattr__" = some (some (.builtin "object.__setattr__"))) (ga : PySem.W.findIn K (.ref C) "__getattribute__" = some (some (.builtin "BaseException.__getattribute__"))) (gg : PySem.W.findIn K (.ref C) "__getattr__" = some none)
    (iC : PySem.W.findIn K (.ref C) "__init__" = some (some (.ref fI))) (tI : PySem.W.typeIn K (.ref fI) = some (.type "function")) (kC : PySem.W.keepIn K (.ref C) = true) (ha : PySem.W.findIn K (.ref C) "__class__" = some (some (.builtin "object.__class__"))) (no : NoL K C fs)
    (l : K.lookup fI = some ⟨oc, od, .func (PySem.W.fnOf "__init__" q (defArgs st) (defBody st) (defScope st) .none kV doc pm an cdv ct), osl⟩) (c : PySem.W.codeIn K cdv q = true) (k : PySem.W.keepIn K (.ref fI) = true)
    (b : ∀ (kV doc pm : Value) (an : Option Addr) (cdv ct : Value) (us : List Value), us.length = (("self" : Str) :: fs).length → bindArgs (PySem.W.fnOf "__init__" q (defArgs st) (defBody st) (defScope st) .none kV doc pm an cdv ct) ⟨us, []⟩ = pure ((("self" : Str) :: fs).zip us))
    (kb : ∀ (kV doc pm : Value) (an : Option Addr) (cdv ct : Value) (u : Value) (ws : List Value), ws.length = fs.reverse.length → bindArgs (PySem.W.fnOf "__init__" q (defArgs st) (defBody st) (defScope st) .none kV doc pm an cdv ct) ⟨[u], fs.reverse.zip ws⟩ = pure ((("self" : Str) :: fs).zip ([u] ++ ws.reverse))) :
    ∃ fd, ExF K mg x q st C fI fd fs mro nI :=
  ⟨_, PySem.W.mg_of X G hn, ⟨nm, qn, N, bs, sn, sub, ab, col, dd, k0, k1, k2, k3, k5, lC⟩, sa, ga, gg, iC, tI, kC, no.all, ha, fun_mk (st := st) l c k, (fun_mk (st := st) l c k).binds b,
    ⟨fun s us ws _ l1 l2 => match us, l1 with
      | [u], _ => .of_eq (kb kV doc pm an cdv ct u ws l2), fun r1 r2 => r1.append (vals_rev r2)⟩⟩
theorem bsf_mk {K : PySem.W.Frag} {h : Heap} {mg : Str → Option Value} {x : Str} {S : Addr} {tail : List Value} {iI nI : String} (X : K.In h) (G : h.Ns mainGlobals mg) {nm qn : Str} {N : Addr} {bs : List Value} {sn : List Str} {sub : List Value} {ab : Bool} {col : Option Bool} {dd : Option Addr} {k0 k1 k2 k3 k5 : Option Value}
    (hn : PySem.W.nsIn K mainGlobals x = some (some (.ref S))) (lC : K.lookup S = some (excClassObj nm qn S N bs tail true sn sub ab col dd k0 k1 k2 k3 k5 nI)) (rd : PySem.W.readsIn K S (.type "type") = true)
    (ga : PySem.W.specialIn K (.ref S) "__getattribute__" = some (some (.builtin "type.__getattribute__"))) (fc : PySem.W.findCls K (.ref S) (.type "type") "__init__" = some (.val (.builtin iI))) : BsF K mg x S tail iI :=
  ⟨PySem.W.mg_of X G hn, ⟨nm, qn, N, bs, sn, sub, ab, col, dd, k0, k1, k2, k3, k5, nI, lC⟩, rd, ga, fc⟩
theorem md_mk {K : PySem.W.Frag} {x q : Str} {st : Stmt} {f : Addr} {ps : List Str} {oc : Value} {od an : Option Addr} {osl : Array (Option Value)} {kV doc pm cdv ct : Value}
    (l : K.lookup f = some ⟨oc, od, .func (PySem.W.fnOf x q (defArgs st) (defBody st) (defScope st) .none kV doc pm an cdv ct), osl⟩) (c : PySem.W.codeIn K cdv q = true)
    (b : ∀ (kV doc pm : Value) (an : Option Addr) (cdv ct : Value) (us : List Value), us.length = ps.length → bindArgs (PySem.W.fnOf x q (defArgs st) (defBody st) (defScope st) .none kV doc pm an cdv ct) ⟨us, []⟩ = pure (ps.zip us)) : ∃ fd, MD K x q st f fd ps :=
  ⟨_, ⟨oc, od, .none, kV, doc, pm, an, cdv, ct, osl, rfl, l, c⟩, .all (b kV doc pm an cdv ct)⟩
/-- a method with one default, which is not used -/
theorem mdT_mk {K : PySem.W.Frag} {x q : Str} {st : Stmt} {f T : Addr} {ps : List Str} {oc : Value} {od an : Option Addr} {osl : Array (Option Value)} {kV doc pm cdv ct : Value} {oc2 u : Value} {od2 : Option Addr} {n2 : Nat} {sl2 : Array (Option Value)}
    (l : K.lookup f = some ⟨oc, od, .func (PySem.W.fnOf x q (defArgs st) (defBody st) (defScope st) (.ref T) kV doc pm an cdv ct), osl⟩) (c : PySem.W.codeIn K cdv q = true) (lT : K.lookup T = some ⟨oc2, od2, .seq #[u] n2, sl2⟩)
    (b : ∀ (T : Addr) (kV doc pm : Value) (an : Option Addr) (cdv ct u : Value) (us : List Value), us.length = ps.length → ∃ k, bindArgs (PySem.W.fnOf x q (defArgs st) (defBody st) (defScope st) (.ref T) kV doc pm an cdv ct) ⟨us, []⟩ = seqItems? (.ref T) >>= k ∧ k (some #[u]) = pure (ps.zip us)) : ∃ fd, MD K x q st f fd ps :=
  ⟨_, ⟨oc, od, .ref T, kV, doc, pm, an, cdv, ct, osl, rfl, l, c⟩, fun s us X hl => by
    rw [List.append_nil] at hl ⊢
    obtain ⟨k, e1, e2⟩ := b T kV doc pm an cdv ct u us hl
    refine BindsTo.of_looks fun M => ?_
    rw [e1]
    exact looks_items X lT rfl (.of_pure e2)⟩
theorem nd_inj {l : List Addr} (h : l.Nodup) : ∀ i j, i < l.length → j < l.length → l.getD i 0 = l.getD j 0 → i = j := fun i j hi hj e => by
  rw [List.getD_eq_getElem?_getD, List.getD_eq_getElem?_getD, List.getElem?_eq_getElem hi, List.getElem?_eq_getElem hj] at e
  exact (List.getElem_inj h).mp e
/-- an own class as the walk asks for it -/
structure OwnC (K : PySem.W.Frag) (x : Str) (C fI fR : Addr) (no : List Str) : Prop where
  n : PySem.W.nsIn K mainGlobals x = some (some (.ref C))
  pg : PySem.W.plainGet K C Str.empty = true
  hd : PySem.W.hasDictIn K C = true
  po : PySem.W.plainOver K C = true
  sa : PySem.W.findIn K (.ref C) "__setattr__" = some (some (.builtin "object.__setattr__"))
  mks : PySem.W.makesIn K C = true
  i : PySem.W.findIn K (.ref C) "__init__" = some (some (.ref fI))
  fi : PySem.W.isFn K (.ref fI) = true
  kc : PySem.W.keepIn K (.ref C) = true
  r : PySem.W.findIn K (.ref C) "__repr__" = some (some (.ref fR))
  fr : PySem.W.isFn K (.ref fR) = true
  kr : PySem.W.keepIn K (.ref fR) = true
  hc : PySem.W.findIn K (.ref C) "__class__" = some (some (.builtin "object.__class__"))
  ob : PySem.W.mroIn K C (.type "object") = some true
  sb : PySem.W.subIn K (.ref C) (.type "bool") = some false
  si : PySem.W.subIn K (.ref C) (.type "int") = some false
  ss : PySem.W.subIn K (.ref C) (.type "str") = some false
  sl : PySem.W.subIn K (.ref C) (.type "list") = some false
  st : PySem.W.subIn K (.ref C) (.type "tuple") = some false
  no : NoL K C no
theorem b_is_name : ∀ (kV doc pm : Value) (an : Option Addr) (cdv ct : Value) (us : List Value), us.length = (["value"] : List Str).length → bindArgs (PySem.W.fnOf "is_name" "is_name" (defArgs s_is_name) (defBody s_is_name) (defScope s_is_name) .none kV doc pm an cdv ct) ⟨us, []⟩ = pure ((["value"] : List Str).zip us) := fun _ _ _ _ _ _ us hl => match us, hl with | [_], _ => rfl
theorem b_is_list : ∀ (kV doc pm : Value) (an : Option Addr) (cdv ct : Value) (us : List Value), us.length = (["value"] : List Str).length → bindArgs (PySem.W.fnOf "is_list" "is_list" (defArgs s_is_list) (defBody s_is_list) (defScope s_is_list) .none kV doc pm an cdv ct) ⟨us, []⟩ = pure ((["value"] : List Str).zip us) := fun _ _ _ _ _ _ us hl => match us, hl with | [_], _ => rfl
theorem b_checked_columns : ∀ (kV doc pm : Value) (an : Option Addr) (cdv ct : Value) (us : List Value), us.length = (["columns"] : List Str).length → bindArgs (PySem.W.fnOf "checked_columns" "checked_columns" (defArgs s_checked_columns) (defBody s_checked_columns) (defScope s_checked_columns) .none kV doc pm an cdv ct) ⟨us, []⟩ = pure ((["columns"] : List Str).zip us) := fun _ _ _ _ _ _ us hl => match us, hl with | [_], _ => rfl
theorem b_need_column : ∀ (kV doc pm : Value) (an : Option Addr) (cdv ct : Value) (us : List Value), us.length = (["known", "name", "earlier"] : List Str).length → bindArgs (PySem.W.fnOf "need_column" "need_column" (defArgs s_need_column) (defBody s_need_column) (defScope s_need_column) .none kV doc pm an cdv ct) ⟨us, []⟩ = pure ((["known", "name", "earlier"] : List Str).zip us) := fun _ _ _ _ _ _ us hl => match us, hl with | [_, _, _], _ => rfl
theorem b_checked_pair : ∀ (kV doc pm : Value) (an : Option Addr) (cdv ct : Value) (us : List Value), us.length = (["known", "value"] : List Str).length → bindArgs (PySem.W.fnOf "checked_pair" "checked_pair" (defArgs s_checked_pair) (defBody s_checked_pair) (defScope s_checked_pair) .none kV doc pm an cdv ct) ⟨us, []⟩ = pure ((["known", "value"] : List Str).zip us) := fun _ _ _ _ _ _ us hl => match us, hl with | [_, _], _ => rfl
theorem b__law_cell : ∀ (kV doc pm : Value) (an : Option Addr) (cdv ct : Value) (us : List Value), us.length = (["script", "k"] : List Str).length → bindArgs (PySem.W.fnOf "_law_cell" "_law_cell" (defArgs s__law_cell) (defBody s__law_cell) (defScope s__law_cell) .none kV doc pm an cdv ct) ⟨us, []⟩ = pure ((["script", "k"] : List Str).zip us) := fun _ _ _ _ _ _ us hl => match us, hl with | [_, _], _ => rfl
theorem b__law_box : ∀ (kV doc pm : Value) (an : Option Addr) (cdv ct : Value) (us : List Value), us.length = (["great"] : List Str).length → bindArgs (PySem.W.fnOf "_law_box" "_law_box" (defArgs s__law_box) (defBody s__law_box) (defScope s__law_box) .none kV doc pm an cdv ct) ⟨us, []⟩ = pure ((["great"] : List Str).zip us) := fun _ _ _ _ _ _ us hl => match us, hl with | [_], _ => rfl
theorem b__law_take : ∀ (kV doc pm : Value) (an : Option Addr) (cdv ct : Value) (us : List Value), us.length = (["box", "many"] : List Str).length → bindArgs (PySem.W.fnOf "_law_take" "_law_take" (defArgs s__law_take) (defBody s__law_take) (defScope s__law_take) .none kV doc pm an cdv ct) ⟨us, []⟩ = pure ((["box", "many"] : List Str).zip us) := fun _ _ _ _ _ _ us hl => match us, hl with | [_, _], _ => rfl
theorem b__law_mixed : ∀ (kV doc pm : Value) (an : Option Addr) (cdv ct : Value) (us : List Value), us.length = (["box", "items"] : List Str).length → bindArgs (PySem.W.fnOf "_law_mixed" "_law_mixed" (defArgs s__law_mixed) (defBody s__law_mixed) (defScope s__law_mixed) .none kV doc pm an cdv ct) ⟨us, []⟩ = pure ((["box", "items"] : List Str).zip us) := fun _ _ _ _ _ _ us hl => match us, hl with | [_, _], _ => rfl
theorem b__law_same : ∀ (kV doc pm : Value) (an : Option Addr) (cdv ct : Value) (us : List Value), us.length = (["given", "due"] : List Str).length → bindArgs (PySem.W.fnOf "_law_same" "_law_same" (defArgs s__law_same) (defBody s__law_same) (defScope s__law_same) .none kV doc pm an cdv ct) ⟨us, []⟩ = pure ((["given", "due"] : List Str).zip us) := fun _ _ _ _ _ _ us hl => match us, hl with | [_, _], _ => rfl
theorem b__law_words : ∀ (kV doc pm : Value) (an : Option Addr) (cdv ct : Value) (us : List Value), us.length = ([] : List Str).length → bindArgs (PySem.W.fnOf "_law_words" "_law_words" (defArgs s__law_words) (defBody s__law_words) (defScope s__law_words) .none kV doc pm an cdv ct) ⟨us, []⟩ = pure (([] : List Str).zip us) := fun _ _ _ _ _ _ us hl => match us, hl with | [], _ => rfl
theorem b__law_raise : ∀ (kV doc pm : Value) (an : Option Addr) (cdv ct : Value) (us : List Value), us.length = (["word", "values", "by_name"] : List Str).length → bindArgs (PySem.W.fnOf "_law_raise" "_law_raise" (defArgs s__law_raise) (defBody s__law_raise) (defScope s__law_raise) .none kV doc pm an cdv ct) ⟨us, []⟩ = pure ((["word", "values", "by_name"] : List Str).zip us) := fun _ _ _ _ _ _ us hl => match us, hl with | [_, _, _], _ => rfl
theorem b__law_raise_more : ∀ (kV doc pm : Value) (an : Option Addr) (cdv ct : Value) (us : List Value), us.length = (["word", "values", "by_name"] : List Str).length → bindArgs (PySem.W.fnOf "_law_raise_more" "_law_raise_more" (defArgs s__law_raise_more) (defBody s__law_raise_more) (defScope s__law_raise_more) .none kV doc pm an cdv ct) ⟨us, []⟩ = pure ((["word", "values", "by_name"] : List Str).zip us) := fun _ _ _ _ _ _ us hl => match us, hl with | [_, _, _], _ => rfl
theorem b__law_caught : ∀ (kV doc pm : Value) (an : Option Addr) (cdv ct : Value) (us : List Value), us.length = (["word", "values", "by_name"] : List Str).length → bindArgs (PySem.W.fnOf "_law_caught" "_law_caught" (defArgs s__law_caught) (defBody s__law_caught) (defScope s__law_caught) .none kV doc pm an cdv ct) ⟨us, []⟩ = pure ((["word", "values", "by_name"] : List Str).zip us) := fun _ _ _ _ _ _ us hl => match us, hl with | [_, _, _], _ => rfl
theorem b__law_caught_back : ∀ (kV doc pm : Value) (an : Option Addr) (cdv ct : Value) (us : List Value), us.length = (["word", "values", "by_name"] : List Str).length → bindArgs (PySem.W.fnOf "_law_caught_back" "_law_caught_back" (defArgs s__law_caught_back) (defBody s__law_caught_back) (defScope s__law_caught_back) .none kV doc pm an cdv ct) ⟨us, []⟩ = pure ((["word", "values", "by_name"] : List Str).zip us) := fun _ _ _ _ _ _ us hl => match us, hl with | [_, _, _], _ => rfl
theorem b__law_base : ∀ (kV doc pm : Value) (an : Option Addr) (cdv ct : Value) (us : List Value), us.length = (["word", "values", "by_name"] : List Str).length → bindArgs (PySem.W.fnOf "_law_base" "_law_base" (defArgs s__law_base) (defBody s__law_base) (defScope s__law_base) .none kV doc pm an cdv ct) ⟨us, []⟩ = pure ((["word", "values", "by_name"] : List Str).zip us) := fun _ _ _ _ _ _ us hl => match us, hl with | [_, _, _], _ => rfl
theorem b__law_values : ∀ (kV doc pm : Value) (an : Option Addr) (cdv ct : Value) (us : List Value), us.length = (["box"] : List Str).length → bindArgs (PySem.W.fnOf "_law_values" "_law_values" (defArgs s__law_values) (defBody s__law_values) (defScope s__law_values) .none kV doc pm an cdv ct) ⟨us, []⟩ = pure ((["box"] : List Str).zip us) := fun _ _ _ _ _ _ us hl => match us, hl with | [_], _ => rfl
theorem b_law : ∀ (kV doc pm : Value) (an : Option Addr) (cdv ct : Value) (us : List Value), us.length = (["script"] : List Str).length → bindArgs (PySem.W.fnOf "law" "law" (defArgs s_law) (defBody s_law) (defScope s_law) .none kV doc pm an cdv ct) ⟨us, []⟩ = pure ((["script"] : List Str).zip us) := fun _ _ _ _ _ _ us hl => match us, hl with | [_], _ => rfl
theorem b_Order_init : ∀ (kV doc pm : Value) (an : Option Addr) (cdv ct : Value) (us : List Value), us.length = (["self", "columns"] : List Str).length → bindArgs (PySem.W.fnOf "__init__" "Order.__init__" (defArgs s_Order_init) (defBody s_Order_init) (defScope s_Order_init) .none kV doc pm an cdv ct) ⟨us, []⟩ = pure ((["self", "columns"] : List Str).zip us) := fun _ _ _ _ _ _ us hl => match us, hl with | [_, _], _ => rfl
theorem b_Order_repr : ∀ (kV doc pm : Value) (an : Option Addr) (cdv ct : Value) (us : List Value), us.length = (["self"] : List Str).length → bindArgs (PySem.W.fnOf "__repr__" "Order.__repr__" (defArgs s_Order_repr) (defBody s_Order_repr) (defScope s_Order_repr) .none kV doc pm an cdv ct) ⟨us, []⟩ = pure ((["self"] : List Str).zip us) := fun _ _ _ _ _ _ us hl => match us, hl with | [_], _ => rfl
theorem b_Dependencies_init : ∀ (T : Addr) (kV doc pm : Value) (an : Option Addr) (cdv ct u : Value) (us : List Value), us.length = (["self", "columns", "pairs"] : List Str).length → ∃ k, bindArgs (PySem.W.fnOf "__init__" "Dependencies.__init__" (defArgs s_Dependencies_init) (defBody s_Dependencies_init) (defScope s_Dependencies_init) (.ref T) kV doc pm an cdv ct) ⟨us, []⟩ = seqItems? (.ref T) >>= k ∧ k (some #[u]) = pure ((["self", "columns", "pairs"] : List Str).zip us) := fun _ _ _ _ _ _ _ _ us hl => match us, hl with | [_, _, _], _ => ⟨_, rfl, rfl⟩
theorem b_Dependencies_repr : ∀ (kV doc pm : Value) (an : Option Addr) (cdv ct : Value) (us : List Value), us.length = (["self"] : List Str).length → bindArgs (PySem.W.fnOf "__repr__" "Dependencies.__repr__" (defArgs s_Dependencies_repr) (defBody s_Dependencies_repr) (defScope s_Dependencies_repr) .none kV doc pm an cdv ct) ⟨us, []⟩ = pure ((["self"] : List Str).zip us) := fun _ _ _ _ _ _ us hl => match us, hl with | [_], _ => rfl
theorem b_InvalidPairs : ∀ (kV doc pm : Value) (an : Option Addr) (cdv ct : Value) (us : List Value), us.length = (["self", "value"] : List Str).length → bindArgs (PySem.W.fnOf "__init__" "InvalidPairs.__init__" (defArgs s_InvalidPairs) (defBody s_InvalidPairs) (defScope s_InvalidPairs) .none kV doc pm an cdv ct) ⟨us, []⟩ = pure ((["self", "value"] : List Str).zip us) := fun _ _ _ _ _ _ us hl => match us, hl with | [_, _], _ => rfl
theorem kb_InvalidPairs : ∀ (kV doc pm : Value) (an : Option Addr) (cdv ct : Value) (u : Value) (ws : List Value), ws.length = (["value"] : List Str).reverse.length → bindArgs (PySem.W.fnOf "__init__" "InvalidPairs.__init__" (defArgs s_InvalidPairs) (defBody s_InvalidPairs) (defScope s_InvalidPairs) .none kV doc pm an cdv ct) ⟨[u], (["value"] : List Str).reverse.zip ws⟩ = pure (("self" :: ["value"] : List Str).zip ([u] ++ ws.reverse)) := fun _ _ _ _ _ _ _ ws hl => match ws, hl with | [_], _ => rfl
theorem b_InvalidPair : ∀ (kV doc pm : Value) (an : Option Addr) (cdv ct : Value) (us : List Value), us.length = (["self", "value"] : List Str).length → bindArgs (PySem.W.fnOf "__init__" "InvalidPair.__init__" (defArgs s_InvalidPair) (defBody s_InvalidPair) (defScope s_InvalidPair) .none kV doc pm an cdv ct) ⟨us, []⟩ = pure ((["self", "value"] : List Str).zip us) := fun _ _ _ _ _ _ us hl => match us, hl with | [_, _], _ => rfl
theorem kb_InvalidPair : ∀ (kV doc pm : Value) (an : Option Addr) (cdv ct : Value) (u : Value) (ws : List Value), ws.length = (["value"] : List Str).reverse.length → bindArgs (PySem.W.fnOf "__init__" "InvalidPair.__init__" (defArgs s_InvalidPair) (defBody s_InvalidPair) (defScope s_InvalidPair) .none kV doc pm an cdv ct) ⟨[u], (["value"] : List Str).reverse.zip ws⟩ = pure (("self" :: ["value"] : List Str).zip ([u] ++ ws.reverse)) := fun _ _ _ _ _ _ _ ws hl => match ws, hl with | [_], _ => rfl
theorem b_InvalidDependencies : ∀ (kV doc pm : Value) (an : Option Addr) (cdv ct : Value) (us : List Value), us.length = (["self", "value"] : List Str).length → bindArgs (PySem.W.fnOf "__init__" "InvalidDependencies.__init__" (defArgs s_InvalidDependencies) (defBody s_InvalidDependencies) (defScope s_InvalidDependencies) .none kV doc pm an cdv ct) ⟨us, []⟩ = pure ((["self", "value"] : List Str).zip us) := fun _ _ _ _ _ _ us hl => match us, hl with | [_, _], _ => rfl
theorem kb_InvalidDependencies : ∀ (kV doc pm : Value) (an : Option Addr) (cdv ct : Value) (u : Value) (ws : List Value), ws.length = (["value"] : List Str).reverse.length → bindArgs (PySem.W.fnOf "__init__" "InvalidDependencies.__init__" (defArgs s_InvalidDependencies) (defBody s_InvalidDependencies) (defScope s_InvalidDependencies) .none kV doc pm an cdv ct) ⟨[u], (["value"] : List Str).reverse.zip ws⟩ = pure (("self" :: ["value"] : List Str).zip ([u] ++ ws.reverse)) := fun _ _ _ _ _ _ _ ws hl => match ws, hl with | [_], _ => rfl
theorem b_InvalidWide : ∀ (kV doc pm : Value) (an : Option Addr) (cdv ct : Value) (us : List Value), us.length = (["self", "value"] : List Str).length → bindArgs (PySem.W.fnOf "__init__" "InvalidWide.__init__" (defArgs s_InvalidWide) (defBody s_InvalidWide) (defScope s_InvalidWide) .none kV doc pm an cdv ct) ⟨us, []⟩ = pure ((["self", "value"] : List Str).zip us) := fun _ _ _ _ _ _ us hl => match us, hl with | [_, _], _ => rfl
theorem kb_InvalidWide : ∀ (kV doc pm : Value) (an : Option Addr) (cdv ct : Value) (u : Value) (ws : List Value), ws.length = (["value"] : List Str).reverse.length → bindArgs (PySem.W.fnOf "__init__" "InvalidWide.__init__" (defArgs s_InvalidWide) (defBody s_InvalidWide) (defScope s_InvalidWide) .none kV doc pm an cdv ct) ⟨[u], (["value"] : List Str).reverse.zip ws⟩ = pure (("self" :: ["value"] : List Str).zip ([u] ++ ws.reverse)) := fun _ _ _ _ _ _ _ ws hl => match ws, hl with | [_], _ => rfl
theorem b_InvalidRequest : ∀ (kV doc pm : Value) (an : Option Addr) (cdv ct : Value) (us : List Value), us.length = (["self", "value"] : List Str).length → bindArgs (PySem.W.fnOf "__init__" "InvalidRequest.__init__" (defArgs s_InvalidRequest) (defBody s_InvalidRequest) (defScope s_InvalidRequest) .none kV doc pm an cdv ct) ⟨us, []⟩ = pure ((["self", "value"] : List Str).zip us) := fun _ _ _ _ _ _ us hl => match us, hl with | [_, _], _ => rfl
theorem kb_InvalidRequest : ∀ (kV doc pm : Value) (an : Option Addr) (cdv ct : Value) (u : Value) (ws : List Value), ws.length = (["value"] : List Str).reverse.length → bindArgs (PySem.W.fnOf "__init__" "InvalidRequest.__init__" (defArgs s_InvalidRequest) (defBody s_InvalidRequest) (defScope s_InvalidRequest) .none kV doc pm an cdv ct) ⟨[u], (["value"] : List Str).reverse.zip ws⟩ = pure (("self" :: ["value"] : List Str).zip ([u] ++ ws.reverse)) := fun _ _ _ _ _ _ _ ws hl => match ws, hl with | [_], _ => rfl
theorem b_InvalidRequests : ∀ (kV doc pm : Value) (an : Option Addr) (cdv ct : Value) (us : List Value), us.length = (["self", "value"] : List Str).length → bindArgs (PySem.W.fnOf "__init__" "InvalidRequests.__init__" (defArgs s_InvalidRequests) (defBody s_InvalidRequests) (defScope s_InvalidRequests) .none kV doc pm an cdv ct) ⟨us, []⟩ = pure ((["self", "value"] : List Str).zip us) := fun _ _ _ _ _ _ us hl => match us, hl with | [_, _], _ => rfl
theorem kb_InvalidRequests : ∀ (kV doc pm : Value) (an : Option Addr) (cdv ct : Value) (u : Value) (ws : List Value), ws.length = (["value"] : List Str).reverse.length → bindArgs (PySem.W.fnOf "__init__" "InvalidRequests.__init__" (defArgs s_InvalidRequests) (defBody s_InvalidRequests) (defScope s_InvalidRequests) .none kV doc pm an cdv ct) ⟨[u], (["value"] : List Str).reverse.zip ws⟩ = pure (("self" :: ["value"] : List Str).zip ([u] ++ ws.reverse)) := fun _ _ _ _ _ _ _ ws hl => match ws, hl with | [_], _ => rfl
theorem b_DuplicateRequest : ∀ (kV doc pm : Value) (an : Option Addr) (cdv ct : Value) (us : List Value), us.length = (["self", "request"] : List Str).length → bindArgs (PySem.W.fnOf "__init__" "DuplicateRequest.__init__" (defArgs s_DuplicateRequest) (defBody s_DuplicateRequest) (defScope s_DuplicateRequest) .none kV doc pm an cdv ct) ⟨us, []⟩ = pure ((["self", "request"] : List Str).zip us) := fun _ _ _ _ _ _ us hl => match us, hl with | [_, _], _ => rfl
theorem kb_DuplicateRequest : ∀ (kV doc pm : Value) (an : Option Addr) (cdv ct : Value) (u : Value) (ws : List Value), ws.length = (["request"] : List Str).reverse.length → bindArgs (PySem.W.fnOf "__init__" "DuplicateRequest.__init__" (defArgs s_DuplicateRequest) (defBody s_DuplicateRequest) (defScope s_DuplicateRequest) .none kV doc pm an cdv ct) ⟨[u], (["request"] : List Str).reverse.zip ws⟩ = pure (("self" :: ["request"] : List Str).zip ([u] ++ ws.reverse)) := fun _ _ _ _ _ _ _ ws hl => match ws, hl with | [_], _ => rfl
theorem b_InvalidKept : ∀ (kV doc pm : Value) (an : Option Addr) (cdv ct : Value) (us : List Value), us.length = (["self", "value"] : List Str).length → bindArgs (PySem.W.fnOf "__init__" "InvalidKept.__init__" (defArgs s_InvalidKept) (defBody s_InvalidKept) (defScope s_InvalidKept) .none kV doc pm an cdv ct) ⟨us, []⟩ = pure ((["self", "value"] : List Str).zip us) := fun _ _ _ _ _ _ us hl => match us, hl with | [_, _], _ => rfl
theorem kb_InvalidKept : ∀ (kV doc pm : Value) (an : Option Addr) (cdv ct : Value) (u : Value) (ws : List Value), ws.length = (["value"] : List Str).reverse.length → bindArgs (PySem.W.fnOf "__init__" "InvalidKept.__init__" (defArgs s_InvalidKept) (defBody s_InvalidKept) (defScope s_InvalidKept) .none kV doc pm an cdv ct) ⟨[u], (["value"] : List Str).reverse.zip ws⟩ = pure (("self" :: ["value"] : List Str).zip ([u] ++ ws.reverse)) := fun _ _ _ _ _ _ _ ws hl => match ws, hl with | [_], _ => rfl
theorem b_InvalidJoin : ∀ (kV doc pm : Value) (an : Option Addr) (cdv ct : Value) (us : List Value), us.length = (["self", "value"] : List Str).length → bindArgs (PySem.W.fnOf "__init__" "InvalidJoin.__init__" (defArgs s_InvalidJoin) (defBody s_InvalidJoin) (defScope s_InvalidJoin) .none kV doc pm an cdv ct) ⟨us, []⟩ = pure ((["self", "value"] : List Str).zip us) := fun _ _ _ _ _ _ us hl => match us, hl with | [_, _], _ => rfl
theorem kb_InvalidJoin : ∀ (kV doc pm : Value) (an : Option Addr) (cdv ct : Value) (u : Value) (ws : List Value), ws.length = (["value"] : List Str).reverse.length → bindArgs (PySem.W.fnOf "__init__" "InvalidJoin.__init__" (defArgs s_InvalidJoin) (defBody s_InvalidJoin) (defScope s_InvalidJoin) .none kV doc pm an cdv ct) ⟨[u], (["value"] : List Str).reverse.zip ws⟩ = pure (("self" :: ["value"] : List Str).zip ([u] ++ ws.reverse)) := fun _ _ _ _ _ _ _ ws hl => match ws, hl with | [_], _ => rfl
theorem b_InvalidJoins : ∀ (kV doc pm : Value) (an : Option Addr) (cdv ct : Value) (us : List Value), us.length = (["self", "value"] : List Str).length → bindArgs (PySem.W.fnOf "__init__" "InvalidJoins.__init__" (defArgs s_InvalidJoins) (defBody s_InvalidJoins) (defScope s_InvalidJoins) .none kV doc pm an cdv ct) ⟨us, []⟩ = pure ((["self", "value"] : List Str).zip us) := fun _ _ _ _ _ _ us hl => match us, hl with | [_, _], _ => rfl
theorem kb_InvalidJoins : ∀ (kV doc pm : Value) (an : Option Addr) (cdv ct : Value) (u : Value) (ws : List Value), ws.length = (["value"] : List Str).reverse.length → bindArgs (PySem.W.fnOf "__init__" "InvalidJoins.__init__" (defArgs s_InvalidJoins) (defBody s_InvalidJoins) (defScope s_InvalidJoins) .none kV doc pm an cdv ct) ⟨[u], (["value"] : List Str).reverse.zip ws⟩ = pure (("self" :: ["value"] : List Str).zip ([u] ++ ws.reverse)) := fun _ _ _ _ _ _ _ ws hl => match ws, hl with | [_], _ => rfl
theorem b_InvalidTables : ∀ (kV doc pm : Value) (an : Option Addr) (cdv ct : Value) (us : List Value), us.length = (["self", "value"] : List Str).length → bindArgs (PySem.W.fnOf "__init__" "InvalidTables.__init__" (defArgs s_InvalidTables) (defBody s_InvalidTables) (defScope s_InvalidTables) .none kV doc pm an cdv ct) ⟨us, []⟩ = pure ((["self", "value"] : List Str).zip us) := fun _ _ _ _ _ _ us hl => match us, hl with | [_, _], _ => rfl
theorem kb_InvalidTables : ∀ (kV doc pm : Value) (an : Option Addr) (cdv ct : Value) (u : Value) (ws : List Value), ws.length = (["value"] : List Str).reverse.length → bindArgs (PySem.W.fnOf "__init__" "InvalidTables.__init__" (defArgs s_InvalidTables) (defBody s_InvalidTables) (defScope s_InvalidTables) .none kV doc pm an cdv ct) ⟨[u], (["value"] : List Str).reverse.zip ws⟩ = pure (("self" :: ["value"] : List Str).zip ([u] ++ ws.reverse)) := fun _ _ _ _ _ _ _ ws hl => match ws, hl with | [_], _ => rfl
theorem b_Ring : ∀ (kV doc pm : Value) (an : Option Addr) (cdv ct : Value) (us : List Value), us.length = (["self", "index"] : List Str).length → bindArgs (PySem.W.fnOf "__init__" "Ring.__init__" (defArgs s_Ring) (defBody s_Ring) (defScope s_Ring) .none kV doc pm an cdv ct) ⟨us, []⟩ = pure ((["self", "index"] : List Str).zip us) := fun _ _ _ _ _ _ us hl => match us, hl with | [_, _], _ => rfl
theorem kb_Ring : ∀ (kV doc pm : Value) (an : Option Addr) (cdv ct : Value) (u : Value) (ws : List Value), ws.length = (["index"] : List Str).reverse.length → bindArgs (PySem.W.fnOf "__init__" "Ring.__init__" (defArgs s_Ring) (defBody s_Ring) (defScope s_Ring) .none kV doc pm an cdv ct) ⟨[u], (["index"] : List Str).reverse.zip ws⟩ = pure (("self" :: ["index"] : List Str).zip ([u] ++ ws.reverse)) := fun _ _ _ _ _ _ _ ws hl => match ws, hl with | [_], _ => rfl
theorem b_UnknownPair : ∀ (kV doc pm : Value) (an : Option Addr) (cdv ct : Value) (us : List Value), us.length = (["self", "pair"] : List Str).length → bindArgs (PySem.W.fnOf "__init__" "UnknownPair.__init__" (defArgs s_UnknownPair) (defBody s_UnknownPair) (defScope s_UnknownPair) .none kV doc pm an cdv ct) ⟨us, []⟩ = pure ((["self", "pair"] : List Str).zip us) := fun _ _ _ _ _ _ us hl => match us, hl with | [_, _], _ => rfl
theorem kb_UnknownPair : ∀ (kV doc pm : Value) (an : Option Addr) (cdv ct : Value) (u : Value) (ws : List Value), ws.length = (["pair"] : List Str).reverse.length → bindArgs (PySem.W.fnOf "__init__" "UnknownPair.__init__" (defArgs s_UnknownPair) (defBody s_UnknownPair) (defScope s_UnknownPair) .none kV doc pm an cdv ct) ⟨[u], (["pair"] : List Str).reverse.zip ws⟩ = pure (("self" :: ["pair"] : List Str).zip ([u] ++ ws.reverse)) := fun _ _ _ _ _ _ _ ws hl => match ws, hl with | [_], _ => rfl
theorem b_NotJoined : ∀ (kV doc pm : Value) (an : Option Addr) (cdv ct : Value) (us : List Value), us.length = (["self", "one", "other"] : List Str).length → bindArgs (PySem.W.fnOf "__init__" "NotJoined.__init__" (defArgs s_NotJoined) (defBody s_NotJoined) (defScope s_NotJoined) .none kV doc pm an cdv ct) ⟨us, []⟩ = pure ((["self", "one", "other"] : List Str).zip us) := fun _ _ _ _ _ _ us hl => match us, hl with | [_, _, _], _ => rfl
theorem kb_NotJoined : ∀ (kV doc pm : Value) (an : Option Addr) (cdv ct : Value) (u : Value) (ws : List Value), ws.length = (["one", "other"] : List Str).reverse.length → bindArgs (PySem.W.fnOf "__init__" "NotJoined.__init__" (defArgs s_NotJoined) (defBody s_NotJoined) (defScope s_NotJoined) .none kV doc pm an cdv ct) ⟨[u], (["one", "other"] : List Str).reverse.zip ws⟩ = pure (("self" :: ["one", "other"] : List Str).zip ([u] ++ ws.reverse)) := fun _ _ _ _ _ _ _ ws hl => match ws, hl with | [_, _], _ => rfl
theorem b_Broken : ∀ (kV doc pm : Value) (an : Option Addr) (cdv ct : Value) (us : List Value), us.length = (["self", "pair", "one", "other"] : List Str).length → bindArgs (PySem.W.fnOf "__init__" "Broken.__init__" (defArgs s_Broken) (defBody s_Broken) (defScope s_Broken) .none kV doc pm an cdv ct) ⟨us, []⟩ = pure ((["self", "pair", "one", "other"] : List Str).zip us) := fun _ _ _ _ _ _ us hl => match us, hl with | [_, _, _, _], _ => rfl
theorem kb_Broken : ∀ (kV doc pm : Value) (an : Option Addr) (cdv ct : Value) (u : Value) (ws : List Value), ws.length = (["pair", "one", "other"] : List Str).reverse.length → bindArgs (PySem.W.fnOf "__init__" "Broken.__init__" (defArgs s_Broken) (defBody s_Broken) (defScope s_Broken) .none kV doc pm an cdv ct) ⟨[u], (["pair", "one", "other"] : List Str).reverse.zip ws⟩ = pure (("self" :: ["pair", "one", "other"] : List Str).zip ([u] ++ ws.reverse)) := fun _ _ _ _ _ _ _ ws hl => match ws, hl with | [_, _, _], _ => rfl
theorem b_PairKept : ∀ (kV doc pm : Value) (an : Option Addr) (cdv ct : Value) (us : List Value), us.length = (["self", "pair"] : List Str).length → bindArgs (PySem.W.fnOf "__init__" "PairKept.__init__" (defArgs s_PairKept) (defBody s_PairKept) (defScope s_PairKept) .none kV doc pm an cdv ct) ⟨us, []⟩ = pure ((["self", "pair"] : List Str).zip us) := fun _ _ _ _ _ _ us hl => match us, hl with | [_, _], _ => rfl
theorem kb_PairKept : ∀ (kV doc pm : Value) (an : Option Addr) (cdv ct : Value) (u : Value) (ws : List Value), ws.length = (["pair"] : List Str).reverse.length → bindArgs (PySem.W.fnOf "__init__" "PairKept.__init__" (defArgs s_PairKept) (defBody s_PairKept) (defScope s_PairKept) .none kV doc pm an cdv ct) ⟨[u], (["pair"] : List Str).reverse.zip ws⟩ = pure (("self" :: ["pair"] : List Str).zip ([u] ++ ws.reverse)) := fun _ _ _ _ _ _ _ ws hl => match ws, hl with | [_], _ => rfl
theorem all_mk {K : PySem.W.Frag} {h : Heap} {mg : Str → Option Value} (X : K.In h) (G : h.Ns mainGlobals mg) {C0 C1 C2 C3 C4 C5 C6 C7 C8 C9 C10 C11 C12 C13 C14 C15 C16 C17 C18 C19 C20 I0 I1 I2 I3 I4 I5 I6 I7 I8 I9 I10 I11 I12 I13 I14 I15 m_Order_init m_Order_repr m_Dependencies_init m_Dependencies_repr : Addr} (h_is_name : FE K mg "is_name" s_is_name ["value"]) (h_is_list : FE K mg "is_list" s_is_list ["value"]) (h_checked_columns : FE K mg "checked_columns" s_checked_columns ["columns"]) (h_need_column : FE K mg "need_column" s_need_column ["known", "name", "earlier"]) (h_checked_pair : FE K mg "checked_pair" s_checked_pair ["known", "value"]) (h__law_cell : FE K mg "_law_cell" s__law_cell ["script", "k"]) (h__law_box : FE K mg "_law_box" s__law_box ["great"]) (h__law_take : FE K mg "_law_take" s__law_take ["box", "many"]) (h__law_mixed : FE K mg "_law_mixed" s__law_mixed ["box", "items"]) (h__law_same : FE K mg "_law_same" s__law_same ["given", "due"]) (h__law_words : FE K mg "_law_words" s__law_words []) (h__law_raise : FE K mg "_law_raise" s__law_raise ["word", "values", "by_name"]) (h__law_raise_more : FE K mg "_law_raise_more" s__law_raise_more ["word", "values", "by_name"]) (h__law_caught : FE K mg "_law_caught" s__law_caught ["word", "values", "by_name"]) (h__law_caught_back : FE K mg "_law_caught_back" s__law_caught_back ["word", "values", "by_name"]) (h__law_base : FE K mg "_law_base" s__law_base ["word", "values", "by_name"]) (h__law_values : FE K mg "_law_values" s__law_values ["box"]) (h_law : FE K mg "law" s_law ["script"]) (h_Order_init : ∃ fd, MD K "__init__" "Order.__init__" s_Order_init m_Order_init fd ["self", "columns"]) (h_Order_repr : ∃ fd, MD K "__repr__" "Order.__repr__" s_Order_repr m_Order_repr fd ["self"]) (h_Dependencies_init : ∃ fd, MD K "__init__" "Dependencies.__init__" s_Dependencies_init m_Dependencies_init fd ["self", "columns", "pairs"]) (h_Dependencies_repr : ∃ fd, MD K "__repr__" "Dependencies.__repr__" s_Dependencies_repr m_Dependencies_repr fd ["self"]) (h_SearchError : BsF K mg "SearchError" C16 veT "ValueError.__init__") (h_MissingError : BsF K mg "MissingError" C17 keT "KeyError.__init__") (h_StateError : BsF K mg "StateError" C18 leT "LookupError.__init__") (h_InvalidPairs : ∃ fd, ExF K mg "InvalidPairs" "InvalidPairs.__init__" s_InvalidPairs C0 I0 fd ["value"] (.ref C16 :: veT) "ValueError.__new__") (h_InvalidPair : ∃ fd, ExF K mg "InvalidPair" "InvalidPair.__init__" s_InvalidPair C1 I1 fd ["value"] (.ref C16 :: veT) "ValueError.__new__") (h_InvalidDependencies : ∃ fd, ExF K mg "InvalidDependencies" "InvalidDependencies.__init__" s_InvalidDependencies C2 I2 fd ["value"] (.ref C16 :: veT) "ValueError.__new__") (h_InvalidWide : ∃ fd, ExF K mg "InvalidWide" "InvalidWide.__init__" s_InvalidWide C3 I3 fd ["value"] (.ref C16 :: veT) "ValueError.__new__") (h_InvalidRequest : ∃ fd, ExF K mg "InvalidRequest" "InvalidRequest.__init__" s_InvalidRequest C4 I4 fd ["value"] (.ref C16 :: veT) "ValueError.__new__") (h_InvalidRequests : ∃ fd, ExF K mg "InvalidRequests" "InvalidRequests.__init__" s_InvalidRequests C5 I5 fd ["value"] (.ref C16 :: veT) "ValueError.__new__") (h_DuplicateRequest : ∃ fd, ExF K mg "DuplicateRequest" "DuplicateRequest.__init__" s_DuplicateRequest C6 I6 fd ["request"] (.ref C16 :: veT) "ValueError.__new__") (h_InvalidKept : ∃ fd, ExF K mg "InvalidKept" "InvalidKept.__init__" s_InvalidKept C7 I7 fd ["value"] (.ref C16 :: veT) "ValueError.__new__") (h_InvalidJoin : ∃ fd, ExF K mg "InvalidJoin" "InvalidJoin.__init__" s_InvalidJoin C8 I8 fd ["value"] (.ref C16 :: veT) "ValueError.__new__") (h_InvalidJoins : ∃ fd, ExF K mg "InvalidJoins" "InvalidJoins.__init__" s_InvalidJoins C9 I9 fd ["value"] (.ref C16 :: veT) "ValueError.__new__") (h_InvalidTables : ∃ fd, ExF K mg "InvalidTables" "InvalidTables.__init__" s_InvalidTables C10 I10 fd ["value"] (.ref C16 :: veT) "ValueError.__new__") (h_Ring : ∃ fd, ExF K mg "Ring" "Ring.__init__" s_Ring C11 I11 fd ["index"] (.ref C16 :: veT) "ValueError.__new__") (h_UnknownPair : ∃ fd, ExF K mg "UnknownPair" "UnknownPair.__init__" s_UnknownPair C12 I12 fd ["pair"] (.ref C17 :: keT) "LookupError.__new__") (h_NotJoined : ∃ fd, ExF K mg "NotJoined" "NotJoined.__init__" s_NotJoined C13 I13 fd ["one", "other"] (.ref C17 :: keT) "LookupError.__new__") (h_Broken : ∃ fd, ExF K mg "Broken" "Broken.__init__" s_Broken C14 I14 fd ["pair", "one", "other"] (.ref C18 :: leT) "LookupError.__new__") (h_PairKept : ∃ fd, ExF K mg "PairKept" "PairKept.__init__" s_PairKept C15 I15 fd ["pair"] (.ref C18 :: leT) "LookupError.__new__") (h_Order : OwnC K "Order" C19 m_Order_init m_Order_repr ["own_columns"]) (h_Dependencies : OwnC K "Dependencies" C20 m_Dependencies_init m_Dependencies_repr ["own_columns", "own_pairs"]) (z_bool : PySem.W.nsIn K mainGlobals "bool" = some none) (z_int : PySem.W.nsIn K mainGlobals "int" = some none) (z_str : PySem.W.nsIn K mainGlobals "str" = some none) (z_list : PySem.W.nsIn K mainGlobals "list" = some none) (z_tuple : PySem.W.nsIn K mainGlobals "tuple" = some none) (z_len : PySem.W.nsIn K mainGlobals "len" = some none) (z_isinstance : PySem.W.nsIn K mainGlobals "isinstance" = some none) (z_all : PySem.W.nsIn K mainGlobals "all" = some none) (z_sorted : PySem.W.nsIn K mainGlobals "sorted" = some none) (z_enumerate : PySem.W.nsIn K mainGlobals "enumerate" = some none) (z_max : PySem.W.nsIn K mainGlobals "max" = some none) (z_min : PySem.W.nsIn K mainGlobals "min" = some none) (z_range : PySem.W.nsIn K mainGlobals "range" = some none) (z_sum : PySem.W.nsIn K mainGlobals "sum" = some none) (z_repr : PySem.W.nsIn K mainGlobals "repr" = some none) (z_abs : PySem.W.nsIn K mainGlobals "abs" = some none) (z_ValueError : PySem.W.nsIn K mainGlobals "ValueError" = some none) (z_KeyError : PySem.W.nsIn K mainGlobals "KeyError" = some none) (z_LookupError : PySem.W.nsIn K mainGlobals "LookupError" = some none) {t0 : Tok} (c_LETTERS : PySem.W.nsIn K mainGlobals "LETTERS" = some (some (.str "abcdefghijklmnopqrstuvwxyz" t0))) {t1 : Tok} (c_LONGEST_NAME : PySem.W.nsIn K mainGlobals "LONGEST_NAME" = some (some (.int 8 t1))) {t2 : Tok} (c_MOST_COLUMNS : PySem.W.nsIn K mainGlobals "MOST_COLUMNS" = some (some (.int 5 t2))) {t3 : Tok} (c_MOST_PAIRS : PySem.W.nsIn K mainGlobals "MOST_PAIRS" = some (some (.int 10 t3))) (hn : PySem.W.specialIn K (.builtin "object.__class__") "__get__" = some (some (.builtin "getset_descriptor.__get__"))) (ht : PySem.W.takesIn K (.builtin "object.__class__") = some true) (hnd : [C0, C1, C2, C3, C4, C5, C6, C7, C8, C9, C10, C11, C12, C13, C14, C15, C16, C17, C18, C19, C20].Nodup) : ∃ (a : Nat → Addr) (d : Nat → FuncData) (tk : Nat → Tok) (c ci : Nat → Addr) (di : Nat → FuncData), All K mg a d tk c ci di := by
  obtain ⟨f0, d0, g0⟩ := h_is_name
  obtain ⟨f1, d1, g1⟩ := h_is_list
  obtain ⟨f2, d2, g2⟩ := h_checked_columns
  obtain ⟨f3, d3, g3⟩ := h_need_column
  obtain ⟨f4, d4, g4⟩ := h_checked_pair
  obtain ⟨f5, d5, g5⟩ := h__law_cell
  obtain ⟨f6, d6, g6⟩ := h__law_box
  obtain ⟨f7, d7, g7⟩ := h__law_take
  obtain ⟨f8, d8, g8⟩ := h__law_mixed
  obtain ⟨f9, d9, g9⟩ := h__law_same
  obtain ⟨f10, d10, g10⟩ := h__law_words
  obtain ⟨f11, d11, g11⟩ := h__law_raise
  obtain ⟨f12, d12, g12⟩ := h__law_raise_more
  obtain ⟨f13, d13, g13⟩ := h__law_caught
  obtain ⟨f14, d14, g14⟩ := h__law_caught_back
  obtain ⟨f15, d15, g15⟩ := h__law_base
  obtain ⟨f16, d16, g16⟩ := h__law_values
  obtain ⟨f17, d17, g17⟩ := h_law
  obtain ⟨d18, g18⟩ := h_Order_init
  obtain ⟨d19, g19⟩ := h_Order_repr
  obtain ⟨d20, g20⟩ := h_Dependencies_init
  obtain ⟨d21, g21⟩ := h_Dependencies_repr
  obtain ⟨e0, x0⟩ := h_InvalidPairs
  obtain ⟨e1, x1⟩ := h_InvalidPair
  obtain ⟨e2, x2⟩ := h_InvalidDependencies
  obtain ⟨e3, x3⟩ := h_InvalidWide
  obtain ⟨e4, x4⟩ := h_InvalidRequest
  obtain ⟨e5, x5⟩ := h_InvalidRequests
  obtain ⟨e6, x6⟩ := h_DuplicateRequest
  obtain ⟨e7, x7⟩ := h_InvalidKept
  obtain ⟨e8, x8⟩ := h_InvalidJoin
  obtain ⟨e9, x9⟩ := h_InvalidJoins
  obtain ⟨e10, x10⟩ := h_InvalidTables
  obtain ⟨e11, x11⟩ := h_Ring
  obtain ⟨e12, x12⟩ := h_UnknownPair
  obtain ⟨e13, x13⟩ := h_NotJoined
  obtain ⟨e14, x14⟩ := h_Broken
  obtain ⟨e15, x15⟩ := h_PairKept
  refine ⟨fun i => match i with | 0 => f0 | 1 => f1 | 2 => f2 | 3 => f3 | 4 => f4 | 5 => f5 | 6 => f6 | 7 => f7 | 8 => f8 | 9 => f9 | 10 => f10 | 11 => f11 | 12 => f12 | 13 => f13 | 14 => f14 | 15 => f15 | 16 => f16 | 17 => f17 | 18 => m_Order_init | 19 => m_Order_repr | 20 => m_Dependencies_init | 21 => m_Dependencies_repr | _ => f0, fun i => match i with | 0 => d0 | 1 => d1 | 2 => d2 | 3 => d3 | 4 => d4 | 5 => d5 | 6 => d6 | 7 => d7 | 8 => d8 | 9 => d9 | 10 => d10 | 11 => d11 | 12 => d12 | 13 => d13 | 14 => d14 | 15 => d15 | 16 => d16 | 17 => d17 | 18 => d18 | 19 => d19 | 20 => d20 | 21 => d21 | _ => d0, fun i => match i with | 0 => t0 | 1 => t1 | 2 => t2 | 3 => t3 | _ => t0, fun i => ([C0, C1, C2, C3, C4, C5, C6, C7, C8, C9, C10, C11, C12, C13, C14, C15, C16, C17, C18, C19, C20] : List Addr).getD i 0, fun i => match i with | 0 => I0 | 1 => I1 | 2 => I2 | 3 => I3 | 4 => I4 | 5 => I5 | 6 => I6 | 7 => I7 | 8 => I8 | 9 => I9 | 10 => I10 | 11 => I11 | 12 => I12 | 13 => I13 | 14 => I14 | 15 => I15 | _ => I0, fun i => match i with | 0 => e0 | 1 => e1 | 2 => e2 | 3 => e3 | 4 => e4 | 5 => e5 | 6 => e6 | 7 => e7 | 8 => e8 | 9 => e9 | 10 => e10 | 11 => e11 | 12 => e12 | 13 => e13 | 14 => e14 | 15 => e15 | _ => e0, ?_⟩
  exact {
    n_bool := PySem.W.mg_none_of X G z_bool
    n_int := PySem.W.mg_none_of X G z_int
    n_str := PySem.W.mg_none_of X G z_str
    n_list := PySem.W.mg_none_of X G z_list
    n_tuple := PySem.W.mg_none_of X G z_tuple
    n_len := PySem.W.mg_none_of X G z_len
    n_isinstance := PySem.W.mg_none_of X G z_isinstance
    n_all := PySem.W.mg_none_of X G z_all
    n_sorted := PySem.W.mg_none_of X G z_sorted
    n_enumerate := PySem.W.mg_none_of X G z_enumerate
    n_max := PySem.W.mg_none_of X G z_max
    n_min := PySem.W.mg_none_of X G z_min
    n_range := PySem.W.mg_none_of X G z_range
    n_sum := PySem.W.mg_none_of X G z_sum
    n_repr := PySem.W.mg_none_of X G z_repr
    n_abs := PySem.W.mg_none_of X G z_abs
    n_ValueError := PySem.W.mg_none_of X G z_ValueError
    n_KeyError := PySem.W.mg_none_of X G z_KeyError
    n_LookupError := PySem.W.mg_none_of X G z_LookupError
    c_LETTERS := PySem.W.mg_of X G c_LETTERS
    c_LONGEST_NAME := PySem.W.mg_of X G c_LONGEST_NAME
    c_MOST_COLUMNS := PySem.W.mg_of X G c_MOST_COLUMNS
    c_MOST_PAIRS := PySem.W.mg_of X G c_MOST_PAIRS
    F_is_name := g0
    F_is_list := g1
    F_checked_columns := g2
    F_need_column := g3
    F_checked_pair := g4
    F__law_cell := g5
    F__law_box := g6
    F__law_take := g7
    F__law_mixed := g8
    F__law_same := g9
    F__law_words := g10
    F__law_raise := g11
    F__law_raise_more := g12
    F__law_caught := g13
    F__law_caught_back := g14
    F__law_base := g15
    F__law_values := g16
    F_law := g17
    F_Order_init := g18
    F_Order_repr := g19
    F_Dependencies_init := g20
    F_Dependencies_repr := g21
    B_SearchError := h_SearchError
    B_MissingError := h_MissingError
    B_StateError := h_StateError
    X_InvalidPairs := x0
    X_InvalidPair := x1
    X_InvalidDependencies := x2
    X_InvalidWide := x3
    X_InvalidRequest := x4
    X_InvalidRequests := x5
    X_DuplicateRequest := x6
    X_InvalidKept := x7
    X_InvalidJoin := x8
    X_InvalidJoins := x9
    X_InvalidTables := x10
    X_Ring := x11
    X_UnknownPair := x12
    X_NotJoined := x13
    X_Broken := x14
    X_PairKept := x15
    inj := fun i j hi hj e => nd_inj hnd i j (Nat.lt_of_lt_of_le hi (show 19 ≤ 21 by decide)) (Nat.lt_of_lt_of_le hj (show 19 ≤ 21 by decide)) e
    hn := hn
    ht := ht
    m_Order := PySem.W.mg_of X G h_Order.n
    C_Order := ⟨h_Order.pg, h_Order.hd, h_Order.po, h_Order.sa⟩
    M_Order := ⟨h_Order.mks, h_Order.i, h_Order.fi, h_Order.kc⟩
    R_Order := ⟨h_Order.r, h_Order.fr, h_Order.kr⟩
    A_Order_own_columns := h_Order.no.1
    H_Order := h_Order.hc
    O_Order := h_Order.ob
    S_Order_bool := h_Order.sb
    S_Order_int := h_Order.si
    S_Order_str := h_Order.ss
    S_Order_list := h_Order.sl
    S_Order_tuple := h_Order.st
    m_Dependencies := PySem.W.mg_of X G h_Dependencies.n
    C_Dependencies := ⟨h_Dependencies.pg, h_Dependencies.hd, h_Dependencies.po, h_Dependencies.sa⟩
    M_Dependencies := ⟨h_Dependencies.mks, h_Dependencies.i, h_Dependencies.fi, h_Dependencies.kc⟩
    R_Dependencies := ⟨h_Dependencies.r, h_Dependencies.fr, h_Dependencies.kr⟩
    A_Dependencies_own_columns := h_Dependencies.no.1
    A_Dependencies_own_pairs := h_Dependencies.no.2.1
    H_Dependencies := h_Dependencies.hc
    O_Dependencies := h_Dependencies.ob
    S_Dependencies_bool := h_Dependencies.sb
    S_Dependencies_int := h_Dependencies.si
    S_Dependencies_str := h_Dependencies.ss
    S_Dependencies_list := h_Dependencies.sl
    S_Dependencies_tuple := h_Dependencies.st
  }
theorem walk {l : PySem.W.OpenLaw} {q : Program} {loose : List Str} {XP : (Str → Option Value) → Heap → Prop} {YP : World → Heap → Prop} {d : DefRec} {K : Params → PySem.W.Frag} (hn : l.most = some 63) (hdf : d.params.defaults = []) (hd : d.name = "law")
    (hY : ∀ (w : World) (h : Heap), YP w h → (K w.params).In h)
    (F : ∀ (w : World) (mg : Str → Option Value) (h : Heap), (K w.params).In h → h.Ns mainGlobals mg → ∃ (a : Nat → Addr) (d : Nat → FuncData) (tk : Nat → Tok) (c ci : Nat → Addr) (di : Nat → FuncData), All (K w.params) mg a d tk c ci di) :
    PySem.W.WalkO q loose XP YP l.row.toRowW d [] (fun f vs => PySem.call f vs) := by
  refine walk_ofG (n := 63) (k := 11) (x := "script") (CX := fun _ => CX0) (sp := fun w => sp_law (K w.params)) hn (by decide) hdf ⟨rfl, by decide, by decide⟩ hY (fun w mg fa h KX G hmg => ?_) (fun _ _ a ns hl _ hS => ⟨a, ns, rfl, hS, hl, fun _ => rfl⟩) fun _ _ _ _ _ z => z
  obtain ⟨a, d', tk, c, ci, di, T⟩ := F w mg h KX G
  rw [hd] at hmg
  have e := hmg.symm.trans T.F_law.m
  cases e
  refine ⟨d' 17, fun s u => ?_, fun base _ _ => ok_law T⟩
  obtain ⟨oc, od, kV, doc, pm, an, cdv, ct, osl, h1, _, _⟩ := T.F_law.fn.ex
  rw [h1]
  exact .of_eq rfl
end Mv
set_option maxHeartbeats 200000
open PySem PySem.W PyProof.Rows in
set_option maxRecDepth 100000 in
set_option maxHeartbeats 0 in
theorem PySem.Challenge.cw_orderwide_k00_faults_holds : PySem.Challenge.rw_orderwide_k00_faults.Holds := by
  w_on; o_law; k_head; (case hw => w_witness2)
  k_fill
  refine Mv.walk (l := PySem.Challenge.rw_orderwide_k00_faults) rfl rfl rfl (fun w h Y => PySem.W.kIn_of Y) ?F
  case F =>
    intro w mg h KX G
    refine' Mv.all_mk KX G ?h_is_name ?h_is_list ?h_checked_columns ?h_need_column ?h_checked_pair ?h__law_cell ?h__law_box ?h__law_take ?h__law_mixed ?h__law_same ?h__law_words ?h__law_raise ?h__law_raise_more ?h__law_caught ?h__law_caught_back ?h__law_base ?h__law_values ?h_law ?h_Order_init ?h_Order_repr ?h_Dependencies_init ?h_Dependencies_repr ?h_SearchError ?h_MissingError ?h_StateError ?h_InvalidPairs ?h_InvalidPair ?h_InvalidDependencies ?h_InvalidWide ?h_InvalidRequest ?h_InvalidRequests ?h_DuplicateRequest ?h_InvalidKept ?h_InvalidJoin ?h_InvalidJoins ?h_InvalidTables ?h_Ring ?h_UnknownPair ?h_NotJoined ?h_Broken ?h_PairKept ?h_Order ?h_Dependencies ?z_bool ?z_int ?z_str ?z_list ?z_tuple ?z_len ?z_isinstance ?z_all ?z_sorted ?z_enumerate ?z_max ?z_min ?z_range ?z_sum ?z_repr ?z_abs ?z_ValueError ?z_KeyError ?z_LookupError ?c_LETTERS ?c_LONGEST_NAME ?c_MOST_COLUMNS ?c_MOST_PAIRS ?hn ?ht ?hnd
    case h_is_name =>
      refine' Mv.fe_mk KX G ?a ?l ?c ?k ?b
      (case a => k_is)
      (case l => k_is)
      (case c => k_is)
      (case k => k_is)
      (case b => exact Mv.b_is_name)
    case h_is_list =>
      refine' Mv.fe_mk KX G ?a ?l ?c ?k ?b
      (case a => k_is)
      (case l => k_is)
      (case c => k_is)
      (case k => k_is)
      (case b => exact Mv.b_is_list)
    case h_checked_columns =>
      refine' Mv.fe_mk KX G ?a ?l ?c ?k ?b
      (case a => k_is)
      (case l => k_is)
      (case c => k_is)
      (case k => k_is)
      (case b => exact Mv.b_checked_columns)
    case h_need_column =>
      refine' Mv.fe_mk KX G ?a ?l ?c ?k ?b
      (case a => k_is)
      (case l => k_is)
      (case c => k_is)
      (case k => k_is)
      (case b => exact Mv.b_need_column)
    case h_checked_pair =>
      refine' Mv.fe_mk KX G ?a ?l ?c ?k ?b
      (case a => k_is)
      (case l => k_is)
      (case c => k_is)
      (case k => k_is)
      (case b => exact Mv.b_checked_pair)
    case h__law_cell =>
      refine' Mv.fe_mk KX G ?a ?l ?c ?k ?b
      (case a => k_is)
      (case l => k_is)
      (case c => k_is)
      (case k => k_is)
      (case b => exact Mv.b__law_cell)
    case h__law_box =>
      refine' Mv.fe_mk KX G ?a ?l ?c ?k ?b
      (case a => k_is)
      (case l => k_is)
      (case c => k_is)
      (case k => k_is)
      (case b => exact Mv.b__law_box)
    case h__law_take =>
      refine' Mv.fe_mk KX G ?a ?l ?c ?k ?b
      (case a => k_is)
      (case l => k_is)
      (case c => k_is)
      (case k => k_is)
      (case b => exact Mv.b__law_take)
    case h__law_mixed =>
      refine' Mv.fe_mk KX G ?a ?l ?c ?k ?b
      (case a => k_is)
      (case l => k_is)
      (case c => k_is)
      (case k => k_is)
      (case b => exact Mv.b__law_mixed)
    case h__law_same =>
      refine' Mv.fe_mk KX G ?a ?l ?c ?k ?b
      (case a => k_is)
      (case l => k_is)
      (case c => k_is)
      (case k => k_is)
      (case b => exact Mv.b__law_same)
    case h__law_words =>
      refine' Mv.fe_mk KX G ?a ?l ?c ?k ?b
      (case a => k_is)
      (case l => k_is)
      (case c => k_is)
      (case k => k_is)
      (case b => exact Mv.b__law_words)
    case h__law_raise =>
      refine' Mv.fe_mk KX G ?a ?l ?c ?k ?b
      (case a => k_is)
      (case l => k_is)
      (case c => k_is)
      (case k => k_is)
      (case b => exact Mv.b__law_raise)
    case h__law_raise_more =>
      refine' Mv.fe_mk KX G ?a ?l ?c ?k ?b
      (case a => k_is)
      (case l => k_is)
      (case c => k_is)
      (case k => k_is)
      (case b => exact Mv.b__law_raise_more)
    case h__law_caught =>
      refine' Mv.fe_mk KX G ?a ?l ?c ?k ?b
      (case a => k_is)
      (case l => k_is)
      (case c => k_is)
      (case k => k_is)
      (case b => exact Mv.b__law_caught)
    case h__law_caught_back =>
      refine' Mv.fe_mk KX G ?a ?l ?c ?k ?b
      (case a => k_is)
      (case l => k_is)
      (case c => k_is)
      (case k => k_is)
      (case b => exact Mv.b__law_caught_back)
    case h__law_base =>
      refine' Mv.fe_mk KX G ?a ?l ?c ?k ?b
      (case a => k_is)
      (case l => k_is)
      (case c => k_is)
      (case k => k_is)
      (case b => exact Mv.b__law_base)
    case h__law_values =>
      refine' Mv.fe_mk KX G ?a ?l ?c ?k ?b
      (case a => k_is)
      (case l => k_is)
      (case c => k_is)
      (case k => k_is)
      (case b => exact Mv.b__law_values)
    case h_law =>
      refine' Mv.fe_mk KX G ?a ?l ?c ?k ?b
      (case a => k_is)
      (case l => k_is)
      (case c => k_is)
      (case k => k_is)
      (case b => exact Mv.b_law)
    case h_Order =>
      refine' { n := ?q_n, pg := ?q_pg, hd := ?q_hd, po := ?q_po, sa := ?q_sa, mks := ?q_mks, i := ?q_i, fi := ?q_fi, kc := ?q_kc, r := ?q_r, fr := ?q_fr, kr := ?q_kr, hc := ?q_hc, ob := ?q_ob, sb := ?q_sb, si := ?q_si, ss := ?q_ss, sl := ?q_sl, st := ?q_st, no := ?q_no }
      (case q_n => k_is)
      (case q_pg => k_is)
      (case q_hd => k_is)
      (case q_po => k_is)
      (case q_sa => k_is)
      (case q_mks => k_is)
      (case q_i => k_is)
      (case q_fi => k_is)
      (case q_kc => k_is)
      (case q_r => k_is)
      (case q_fr => k_is)
      (case q_kr => k_is)
      (case q_hc => k_is)
      (case q_ob => k_is)
      (case q_sb => k_is)
      (case q_si => k_is)
      (case q_ss => k_is)
      (case q_sl => k_is)
      (case q_st => k_is)
      (case q_no => refine' ⟨?n0, trivial⟩; (case n0 => k_is))
    case h_Dependencies =>
      refine' { n := ?q_n, pg := ?q_pg, hd := ?q_hd, po := ?q_po, sa := ?q_sa, mks := ?q_mks, i := ?q_i, fi := ?q_fi, kc := ?q_kc, r := ?q_r, fr := ?q_fr, kr := ?q_kr, hc := ?q_hc, ob := ?q_ob, sb := ?q_sb, si := ?q_si, ss := ?q_ss, sl := ?q_sl, st := ?q_st, no := ?q_no }
      (case q_n => k_is)
      (case q_pg => k_is)
      (case q_hd => k_is)
      (case q_po => k_is)
      (case q_sa => k_is)
      (case q_mks => k_is)
      (case q_i => k_is)
      (case q_fi => k_is)
      (case q_kc => k_is)
      (case q_r => k_is)
      (case q_fr => k_is)
      (case q_kr => k_is)
      (case q_hc => k_is)
      (case q_ob => k_is)
      (case q_sb => k_is)
      (case q_si => k_is)
      (case q_ss => k_is)
      (case q_sl => k_is)
      (case q_st => k_is)
      (case q_no => refine' ⟨?n0, ?n1, trivial⟩; (case n0 => k_is); (case n1 => k_is))
    case h_Order_init =>
      refine' Mv.md_mk ?l ?c ?b
      (case l => k_is)
      (case c => k_is)
      (case b => exact Mv.b_Order_init)
    case h_Order_repr =>
      refine' Mv.md_mk ?l ?c ?b
      (case l => k_is)
      (case c => k_is)
      (case b => exact Mv.b_Order_repr)
    case h_Dependencies_init =>
      refine' Mv.mdT_mk ?l ?c ?t ?b
      (case l => k_is)
      (case c => k_is)
      (case t => k_is)
      (case b => exact Mv.b_Dependencies_init)
    case h_Dependencies_repr =>
      refine' Mv.md_mk ?l ?c ?b
      (case l => k_is)
      (case c => k_is)
      (case b => exact Mv.b_Dependencies_repr)
    case h_SearchError =>
      refine' Mv.bsf_mk KX G ?n ?l ?r ?g ?f
      (case n => k_is)
      (case l => k_is)
      (case r => k_is)
      (case g => k_is)
      (case f => k_is)
    case h_MissingError =>
      refine' Mv.bsf_mk KX G ?n ?l ?r ?g ?f
      (case n => k_is)
      (case l => k_is)
      (case r => k_is)
      (case g => k_is)
      (case f => k_is)
    case h_StateError =>
      refine' Mv.bsf_mk KX G ?n ?l ?r ?g ?f
      (case n => k_is)
      (case l => k_is)
      (case r => k_is)
      (case g => k_is)
      (case f => k_is)
    case h_InvalidPairs =>
      refine' Mv.exf_mk KX G ?q_n ?q_lC ?q_sa ?q_ga ?q_gg ?q_iC ?q_tI ?q_kC ?q_ha ?q_no ?q_l ?q_c ?q_k ?q_b ?q_kb
      (case q_n => k_is)
      (case q_lC => k_is)
      (case q_sa => k_is)
      (case q_ga => k_is)
      (case q_gg => k_is)
      (case q_iC => k_is)
      (case q_tI => k_is)
      (case q_kC => k_is)
      (case q_ha => k_is)
      (case q_no => refine' ⟨?n0, trivial⟩; (case n0 => k_is))
      (case q_l => k_is)
      (case q_c => k_is)
      (case q_k => k_is)
      (case q_b => exact Mv.b_InvalidPairs)
      (case q_kb => exact Mv.kb_InvalidPairs)
    case h_InvalidPair =>
      refine' Mv.exf_mk KX G ?q_n ?q_lC ?q_sa ?q_ga ?q_gg ?q_iC ?q_tI ?q_kC ?q_ha ?q_no ?q_l ?q_c ?q_k ?q_b ?q_kb
      (case q_n => k_is)
      (case q_lC => k_is)
      (case q_sa => k_is)
      (case q_ga => k_is)
      (case q_gg => k_is)
      (case q_iC => k_is)
      (case q_tI => k_is)
      (case q_kC => k_is)
      (case q_ha => k_is)
      (case q_no => refine' ⟨?n0, trivial⟩; (case n0 => k_is))
      (case q_l => k_is)
      (case q_c => k_is)
      (case q_k => k_is)
      (case q_b => exact Mv.b_InvalidPair)
      (case q_kb => exact Mv.kb_InvalidPair)
    case h_InvalidDependencies =>
      refine' Mv.exf_mk KX G ?q_n ?q_lC ?q_sa ?q_ga ?q_gg ?q_iC ?q_tI ?q_kC ?q_ha ?q_no ?q_l ?q_c ?q_k ?q_b ?q_kb
      (case q_n => k_is)
      (case q_lC => k_is)
      (case q_sa => k_is)
      (case q_ga => k_is)
      (case q_gg => k_is)
      (case q_iC => k_is)
      (case q_tI => k_is)
      (case q_kC => k_is)
      (case q_ha => k_is)
      (case q_no => refine' ⟨?n0, trivial⟩; (case n0 => k_is))
      (case q_l => k_is)
      (case q_c => k_is)
      (case q_k => k_is)
      (case q_b => exact Mv.b_InvalidDependencies)
      (case q_kb => exact Mv.kb_InvalidDependencies)
    case h_InvalidWide =>
      refine' Mv.exf_mk KX G ?q_n ?q_lC ?q_sa ?q_ga ?q_gg ?q_iC ?q_tI ?q_kC ?q_ha ?q_no ?q_l ?q_c ?q_k ?q_b ?q_kb
      (case q_n => k_is)
      (case q_lC => k_is)
      (case q_sa => k_is)
      (case q_ga => k_is)
      (case q_gg => k_is)
      (case q_iC => k_is)
      (case q_tI => k_is)
      (case q_kC => k_is)
      (case q_ha => k_is)
      (case q_no => refine' ⟨?n0, trivial⟩; (case n0 => k_is))
      (case q_l => k_is)
      (case q_c => k_is)
      (case q_k => k_is)
      (case q_b => exact Mv.b_InvalidWide)
      (case q_kb => exact Mv.kb_InvalidWide)
    case h_InvalidRequest =>
      refine' Mv.exf_mk KX G ?q_n ?q_lC ?q_sa ?q_ga ?q_gg ?q_iC ?q_tI ?q_kC ?q_ha ?q_no ?q_l ?q_c ?q_k ?q_b ?q_kb
      (case q_n => k_is)
      (case q_lC => k_is)
      (case q_sa => k_is)
      (case q_ga => k_is)
      (case q_gg => k_is)
      (case q_iC => k_is)
      (case q_tI => k_is)
      (case q_kC => k_is)
      (case q_ha => k_is)
      (case q_no => refine' ⟨?n0, trivial⟩; (case n0 => k_is))
      (case q_l => k_is)
      (case q_c => k_is)
      (case q_k => k_is)
      (case q_b => exact Mv.b_InvalidRequest)
      (case q_kb => exact Mv.kb_InvalidRequest)
    case h_InvalidRequests =>
      refine' Mv.exf_mk KX G ?q_n ?q_lC ?q_sa ?q_ga ?q_gg ?q_iC ?q_tI ?q_kC ?q_ha ?q_no ?q_l ?q_c ?q_k ?q_b ?q_kb
      (case q_n => k_is)
      (case q_lC => k_is)
      (case q_sa => k_is)
      (case q_ga => k_is)
      (case q_gg => k_is)
      (case q_iC => k_is)
      (case q_tI => k_is)
      (case q_kC => k_is)
      (case q_ha => k_is)
      (case q_no => refine' ⟨?n0, trivial⟩; (case n0 => k_is))
      (case q_l => k_is)
      (case q_c => k_is)
      (case q_k => k_is)
      (case q_b => exact Mv.b_InvalidRequests)
      (case q_kb => exact Mv.kb_InvalidRequests)
    case h_DuplicateRequest =>
      refine' Mv.exf_mk KX G ?q_n ?q_lC ?q_sa ?q_ga ?q_gg ?q_iC ?q_tI ?q_kC ?q_ha ?q_no ?q_l ?q_c ?q_k ?q_b ?q_kb
      (case q_n => k_is)
      (case q_lC => k_is)
      (case q_sa => k_is)
      (case q_ga => k_is)
      (case q_gg => k_is)
      (case q_iC => k_is)
      (case q_tI => k_is)
      (case q_kC => k_is)
      (case q_ha => k_is)
      (case q_no => refine' ⟨?n0, trivial⟩; (case n0 => k_is))
      (case q_l => k_is)
      (case q_c => k_is)
      (case q_k => k_is)
      (case q_b => exact Mv.b_DuplicateRequest)
      (case q_kb => exact Mv.kb_DuplicateRequest)
    case h_InvalidKept =>
      refine' Mv.exf_mk KX G ?q_n ?q_lC ?q_sa ?q_ga ?q_gg ?q_iC ?q_tI ?q_kC ?q_ha ?q_no ?q_l ?q_c ?q_k ?q_b ?q_kb
      (case q_n => k_is)
      (case q_lC => k_is)
      (case q_sa => k_is)
      (case q_ga => k_is)
      (case q_gg => k_is)
      (case q_iC => k_is)
      (case q_tI => k_is)
      (case q_kC => k_is)
      (case q_ha => k_is)
      (case q_no => refine' ⟨?n0, trivial⟩; (case n0 => k_is))
      (case q_l => k_is)
      (case q_c => k_is)
      (case q_k => k_is)
      (case q_b => exact Mv.b_InvalidKept)
      (case q_kb => exact Mv.kb_InvalidKept)
    case h_InvalidJoin =>
      refine' Mv.exf_mk KX G ?q_n ?q_lC ?q_sa ?q_ga ?q_gg ?q_iC ?q_tI ?q_kC ?q_ha ?q_no ?q_l ?q_c ?q_k ?q_b ?q_kb
      (case q_n => k_is)
      (case q_lC => k_is)
      (case q_sa => k_is)
      (case q_ga => k_is)
      (case q_gg => k_is)
      (case q_iC => k_is)
      (case q_tI => k_is)
      (case q_kC => k_is)
      (case q_ha => k_is)
      (case q_no => refine' ⟨?n0, trivial⟩; (case n0 => k_is))
      (case q_l => k_is)
      (case q_c => k_is)
      (case q_k => k_is)
      (case q_b => exact Mv.b_InvalidJoin)
      (case q_kb => exact Mv.kb_InvalidJoin)
    case h_InvalidJoins =>
      refine' Mv.exf_mk KX G ?q_n ?q_lC ?q_sa ?q_ga ?q_gg ?q_iC ?q_tI ?q_kC ?q_ha ?q_no ?q_l ?q_c ?q_k ?q_b ?q_kb
      (case q_n => k_is)
      (case q_lC => k_is)
      (case q_sa => k_is)
      (case q_ga => k_is)
      (case q_gg => k_is)
      (case q_iC => k_is)
      (case q_tI => k_is)
      (case q_kC => k_is)
      (case q_ha => k_is)
      (case q_no => refine' ⟨?n0, trivial⟩; (case n0 => k_is))
      (case q_l => k_is)
      (case q_c => k_is)
      (case q_k => k_is)
      (case q_b => exact Mv.b_InvalidJoins)
      (case q_kb => exact Mv.kb_InvalidJoins)
    case h_InvalidTables =>
      refine' Mv.exf_mk KX G ?q_n ?q_lC ?q_sa ?q_ga ?q_gg ?q_iC ?q_tI ?q_kC ?q_ha ?q_no ?q_l ?q_c ?q_k ?q_b ?q_kb
      (case q_n => k_is)
      (case q_lC => k_is)
      (case q_sa => k_is)
      (case q_ga => k_is)
      (case q_gg => k_is)
      (case q_iC => k_is)
      (case q_tI => k_is)
      (case q_kC => k_is)
      (case q_ha => k_is)
      (case q_no => refine' ⟨?n0, trivial⟩; (case n0 => k_is))
      (case q_l => k_is)
      (case q_c => k_is)
      (case q_k => k_is)
      (case q_b => exact Mv.b_InvalidTables)
      (case q_kb => exact Mv.kb_InvalidTables)
    case h_Ring =>
      refine' Mv.exf_mk KX G ?q_n ?q_lC ?q_sa ?q_ga ?q_gg ?q_iC ?q_tI ?q_kC ?q_ha ?q_no ?q_l ?q_c ?q_k ?q_b ?q_kb
      (case q_n => k_is)
      (case q_lC => k_is)
      (case q_sa => k_is)
      (case q_ga => k_is)
      (case q_gg => k_is)
      (case q_iC => k_is)
      (case q_tI => k_is)
      (case q_kC => k_is)
      (case q_ha => k_is)
      (case q_no => refine' ⟨?n0, trivial⟩; (case n0 => k_is))
      (case q_l => k_is)
      (case q_c => k_is)
      (case q_k => k_is)
      (case q_b => exact Mv.b_Ring)
      (case q_kb => exact Mv.kb_Ring)
    case h_UnknownPair =>
      refine' Mv.exf_mk KX G ?q_n ?q_lC ?q_sa ?q_ga ?q_gg ?q_iC ?q_tI ?q_kC ?q_ha ?q_no ?q_l ?q_c ?q_k ?q_b ?q_kb
      (case q_n => k_is)
      (case q_lC => k_is)
      (case q_sa => k_is)
      (case q_ga => k_is)
      (case q_gg => k_is)
      (case q_iC => k_is)
      (case q_tI => k_is)
      (case q_kC => k_is)
      (case q_ha => k_is)
      (case q_no => refine' ⟨?n0, trivial⟩; (case n0 => k_is))
      (case q_l => k_is)
      (case q_c => k_is)
      (case q_k => k_is)
      (case q_b => exact Mv.b_UnknownPair)
      (case q_kb => exact Mv.kb_UnknownPair)
    case h_NotJoined =>
      refine' Mv.exf_mk KX G ?q_n ?q_lC ?q_sa ?q_ga ?q_gg ?q_iC ?q_tI ?q_kC ?q_ha ?q_no ?q_l ?q_c ?q_k ?q_b ?q_kb
      (case q_n => k_is)
      (case q_lC => k_is)
      (case q_sa => k_is)
      (case q_ga => k_is)
      (case q_gg => k_is)
      (case q_iC => k_is)
      (case q_tI => k_is)
      (case q_kC => k_is)
      (case q_ha => k_is)
      (case q_no => refine' ⟨?n0, ?n1, trivial⟩; (case n0 => k_is); (case n1 => k_is))
      (case q_l => k_is)
      (case q_c => k_is)
      (case q_k => k_is)
      (case q_b => exact Mv.b_NotJoined)
      (case q_kb => exact Mv.kb_NotJoined)
    case h_Broken =>
      refine' Mv.exf_mk KX G ?q_n ?q_lC ?q_sa ?q_ga ?q_gg ?q_iC ?q_tI ?q_kC ?q_ha ?q_no ?q_l ?q_c ?q_k ?q_b ?q_kb
      (case q_n => k_is)
      (case q_lC => k_is)
      (case q_sa => k_is)
      (case q_ga => k_is)
      (case q_gg => k_is)
      (case q_iC => k_is)
      (case q_tI => k_is)
      (case q_kC => k_is)
      (case q_ha => k_is)
      (case q_no => refine' ⟨?n0, ?n1, ?n2, trivial⟩; (case n0 => k_is); (case n1 => k_is); (case n2 => k_is))
      (case q_l => k_is)
      (case q_c => k_is)
      (case q_k => k_is)
      (case q_b => exact Mv.b_Broken)
      (case q_kb => exact Mv.kb_Broken)
    case h_PairKept =>
      refine' Mv.exf_mk KX G ?q_n ?q_lC ?q_sa ?q_ga ?q_gg ?q_iC ?q_tI ?q_kC ?q_ha ?q_no ?q_l ?q_c ?q_k ?q_b ?q_kb
      (case q_n => k_is)
      (case q_lC => k_is)
      (case q_sa => k_is)
      (case q_ga => k_is)
      (case q_gg => k_is)
      (case q_iC => k_is)
      (case q_tI => k_is)
      (case q_kC => k_is)
      (case q_ha => k_is)
      (case q_no => refine' ⟨?n0, trivial⟩; (case n0 => k_is))
      (case q_l => k_is)
      (case q_c => k_is)
      (case q_k => k_is)
      (case q_b => exact Mv.b_PairKept)
      (case q_kb => exact Mv.kb_PairKept)
    (case z_bool => k_is)
    (case z_int => k_is)
    (case z_str => k_is)
    (case z_list => k_is)
    (case z_tuple => k_is)
    (case z_len => k_is)
    (case z_isinstance => k_is)
    (case z_all => k_is)
    (case z_sorted => k_is)
    (case z_enumerate => k_is)
    (case z_max => k_is)
    (case z_min => k_is)
    (case z_range => k_is)
    (case z_sum => k_is)
    (case z_repr => k_is)
    (case z_abs => k_is)
    (case z_ValueError => k_is)
    (case z_KeyError => k_is)
    (case z_LookupError => k_is)
    (case c_LETTERS => k_is)
    (case c_LONGEST_NAME => k_is)
    (case c_MOST_COLUMNS => k_is)
    (case c_MOST_PAIRS => k_is)
    (case hn => k_is)
    (case ht => k_is)
    (case hnd => decide +kernel)
#print axioms PySem.Challenge.cw_orderwide_k00_faults_holds
