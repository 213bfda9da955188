import PyProof.Rows.All
import Wide.All
import OpenK.AllK
import Wide.FinOn
import PyProof.NeKinds
import PyProof.ReprRoads
import HandS.ForMost
import HandS.Deep
import HandS.TupSets
import KE.GoesEnum
import KE.GoesMore
import HandS.Walk
import PyProof.DictCompW
import HandS.DictComp
import HandS.SetBool
import HandS.Strs
import KE.KMinKey
import KE.KDictWalk
import HandS.TupMul
import HandS.SortKw
import Wide.Seal
import PyProof.Rows.SortShell
import PyProof.Rows.SortKey
import KE.KSortTup
import PyProof.IsInstanceT
import PyProof.IsiTuple
import PyProof.MinMaxWalk
import PyProof.DictWalks
import PyProof.DictRoads
import PyProof.DictStraight
import PyProof.WalksMore
import PyProof.ListOps
import KE.KDictPairs
import KE.KDictKeyed
import HandS.Conv
import PyProof.TupleCall
import HandS.Ends
import HandS.Evl
import HandS.IsInst
import HandS.Wide
import HandS.Style
import HandS.TryOnly
import HandS.Star
import HandS.TupLe
import HandS.Defaults
import HandS.GenCall
import PyProof.P3Eq
import PyProof.ReprLen
import KE.KRevSl
import HandS.NoneIn
import PySem.Challenge.RW_orderwide_k48_papers_and_plans_forged
set_option Elab.async false
set_option linter.all false
set_option maxRecDepth 100000
set_option maxHeartbeats 4000000
/-! Further rules over the hand layer: either of two walks, lists held against [], the texts of nested data. -/
namespace Mv
open PySem PySem.Spec PyProof.Rows L2
section
variable {X : Cx}
/-- either of two ways to walk one thing -/
theorem pi_either {tg it : Expr} {w1 w2 : TI} (a : PI X tg it w1) (b : PI X tg it w2) : PI X tg it (fun σ H R => w1 σ H R ∨ w2 σ H R) :=
  ⟨fun pins s σ H R I h => h.elim (a.run pins s σ H R I) (b.run pins s σ H R I)⟩
theorem pe_either {e : Expr} {t1 t2 : TE} (a : PE X e t1) (b : PE X e t2) : PE X e (fun σ H Q => t1 σ H Q ∨ t2 σ H Q) :=
  ⟨fun pins s σ H Q I h => h.elim (a.run pins s σ H Q I) (b.run pins s σ H Q I)⟩
/-- a list or a tuple, walked -/
def iSeq (K : PySem.W.Frag) (tl : TE) : TI := fun σ H R => iList K tl σ H R ∨ iTup K tl σ H R
theorem pi_seq {tg l : Expr} {tl : TE} (h : PE X l tl) : PI X tg l (iSeq X.K tl) := pi_either (pi_list h) (pi_tup h)

/-! ### a list against an empty one -/
def rNilEq (K : PySem.W.Frag) (neg : Bool) : R2 := fun x y H Q => ∃ (a b : Addr) (xs : List V), x = .ref a ∧ y = .ref b ∧ SqL K H a xs ∧ SqL K H b [] ∧ Q (.bl (if neg = true then !xs.isEmpty else xs.isEmpty)) H
theorem nil_raw {pins : List (Addr × Obj)} {σ : L2.St} {H : Hp} {s : Shared} {a : Addr} {xs : List V} (I : Inv X pins σ H s) (h : SqL X.K H a xs) :
    ∃ its : Array Value, s.heap.IsList a its ∧ its.size = xs.length := by
  obtain ⟨its, r, p, _⟩ := I.list h
  exact ⟨its.toArray, p.isList, by rw [List.size_toArray]; exact r.length.symm⟩
theorem op_eqNil (hu : X.A.units < cLine) : OpR X (compareOp .Eq) (rNilEq X.K false) := by
  intro pins s σ H x y v u Q I rx ry h
  obtain ⟨a, b, xs, rfl, rfl, ha, hb, q⟩ := h
  cases rx
  cases ry
  obtain ⟨i1, l1, z1⟩ := nil_raw I ha
  obtain ⟨i2, l2, z2⟩ := nil_raw I hb
  have z2 : i2.size = 0 := z2
  cases xs with
  | nil =>
    have z1 : i1.size = 0 := z1
    refine PySem.SeqAt.eq_listAt (e := fun _ => true) l1 l2 (z1.trans z2.symm) hu (fun j h1 _ => absurd h1 (by omega)) ⟨.bl _, H, I, rfl, ?_⟩
    have e : ((List.range i1.size).all fun _ => true) = true := by simp
    rw [e]
    exact q
  | cons x r =>
    have z1 : i1.size = r.length + 1 := z1
    exact PySem.SeqAt.eq_list_lengthsAt l1 l2 (by rw [bne_iff_ne]; omega) hu ⟨.bl _, H, I, rfl, q⟩
theorem op_neNil (hu : X.A.units < cLine) : OpR X (compareOp .NotEq) (rNilEq X.K true) := by
  intro pins s σ H x y v u Q I rx ry h
  obtain ⟨a, b, xs, rfl, rfl, ha, hb, q⟩ := h
  cases rx
  cases ry
  obtain ⟨i1, l1, z1⟩ := nil_raw I ha
  obtain ⟨i2, l2, z2⟩ := nil_raw I hb
  have z2 : i2.size = 0 := z2
  cases xs with
  | nil =>
    have z1 : i1.size = 0 := z1
    have e : ((List.range i1.size).all fun _ => true) = true := by simp
    refine PySem.SeqAt.RcNeAt.lists (e := fun _ => true) l1 l2 (z1.trans z2.symm) hu (fun j h1 _ => absurd h1 (by omega)) _ _ _ _ ⟨.bl _, H, I, rfl, ?_⟩
    rw [e]
    exact q
  | cons x r =>
    have z1 : i1.size = r.length + 1 := z1
    exact PySem.SeqAt.RcNeAt.lists_lengths l1 l2 (by rw [bne_iff_ne]; omega) hu _ _ _ _ ⟨.bl _, H, I, rfl, q⟩

/-! ### the text of nested data (nothing else is being written out) -/
def rRepr (K : PySem.W.Frag) : List V → Hp → VK → Prop := fun xs H Q => ∃ (a : Addr) (d : PyData), xs = [.ref a] ∧ Dp K H (.ref a) d ∧ d.showable = true ∧ d.hasDict = false ∧ d.depth ≤ 60 ∧ d.shown.length ≤ sizeLine ∧ Q (.str d.shown) H
theorem call_repr (hg : X.A.guards = some []) (hu : X.A.units + 64 < cLine) : CallR X (.builtin "repr") (rRepr X.K) := by
  intro pins s σ H xs us Q I r h
  obtain ⟨a, d, rfl, hd, hs, hn, hz, hl, q⟩ := h
  cases r with
  | cons ra rt =>
    cases rt
    cases ra
    obtain ⟨as, rd⟩ := Dp.reads I d _ _ hd rfl
    exact repr_of_reads' rd hs (fun z => by rw [hn] at z; cases z) hg (by omega) (fun b o e => e) (fun h' u tk k => ⟨.str d.shown, H, I.kept k, ⟨u, rfl⟩, q⟩) hl
end
end Mv
/-! enumerate of a tuple that stays. -/
namespace Mv
open PySem PySem.Spec PyProof.Rows L2
open AutoSeq1 (wpAny_loadPart')
/-- what enumerate(a tuple) makes: its own record behind the tuple's iterator -/
theorem enum_new_tup (l : Addr) (items : Array Value) :
    Meets (Builtin.«enumerate.__new__» ⟨[.type "enumerate", .ref l], []⟩) (fun _ R s => s.heap.IsTuple l items ∧
      R (.ok (.ret (.ref (s.heap.push { cls := .type "tuple_iterator", data := .fields #[.ref l, .int 0 0] }).objs.size)))
        { s with heap := (s.heap.push { cls := .type "tuple_iterator", data := .fields #[.ref l, .int 0 0] }).push { cls := .type "enumerate", data := .fields #[.none, .bool false, .ref s.heap.objs.size, rawInt 0, .none, .none] } }) :=
  .of_wp fun prog w A R s h => by
    obtain ⟨hp, g, d, tk, os⟩ := s
    obtain ⟨hl, h⟩ := h
    have hsub := sub_enumerate
    have q1 : ∀ {A' : Around} {E : Value → Shared → Prop} {Q : Value → Shared → Prop}, Q (.ref hp.objs.size) ⟨hp.push { cls := .type "tuple_iterator", data := .fields #[.ref l, .int 0 0] }, g, d, tk, os⟩ →
        wpAny (model prog w) A' (pyIter (.ref l)) Q E ⟨hp, g, d, tk, os⟩ := fun q => (begins_tuple l items).iter prog w _ _ ⟨hp, g, d, tk, os⟩ _ hl q
    wp_walk using q1
    refine wpAny_stack_any fun st => wpAny_pure ?_
    split
    · rename_i c _ _ _ _ _
      cases (c == Value.type "enumerate") <;> (wp_walk using q1; exact ⟨_, rfl, h⟩)
    · wp_walk using q1
      exact ⟨_, rfl, h⟩
theorem enum_call_tup {prog : Program} {w : World} {A : Around} {E : Value → Shared → Prop} {s : Shared} {l : Addr} {items : Array Value} {Q : Value → Shared → Prop} (hL : s.heap.IsTuple l items)
    (h : ∀ h', IsEnum h' (s.heap.objs.size + 1) s.heap.objs.size 0 .none → h'.IsTupleIter s.heap.objs.size l 0 → (∀ b o, s.heap.get? b = some o → h'.get? b = some o) → Q (.ref (s.heap.objs.size + 1)) { s with heap := h' }) :
    wpAny (model prog w) A (call (.type "enumerate") [.ref l]) Q E s := by
  refine callType_new F.called_enumerate (by decide) (F.typeCall_enumerate_1 _) (F.newCall_enumerate_1 _) (fun obj => F.args_object_init_2 obj _) F.entry_enumerate_new (enum_new_tup l items) ⟨hL, ?_⟩
  generalize ho1 : ({ cls := .type "tuple_iterator", data := .fields #[.ref l, .int 0 0] } : Obj) = o1
  generalize ho2 : ({ cls := .type "enumerate", data := .fields #[.none, .bool false, .ref s.heap.objs.size, rawInt 0, .none, .none] } : Obj) = o2
  have hz : (s.heap.push o1).objs.size = s.heap.objs.size + 1 := Heap.size_push ..
  show _ ∧ _
  rw [hz]
  have g2 : ((s.heap.push o1).push o2).get? (s.heap.objs.size + 1) = some o2 := by
    rw [← hz]
    exact Heap.get?_push_size _ (by rw [← ho2] <;> rfl)
  have g1 : ((s.heap.push o1).push o2).get? s.heap.objs.size = some o1 := Heap.get?_push_of_some _ (Heap.get?_push_size _ (by rw [← ho1] <;> rfl))
  have he : IsEnum ((s.heap.push o1).push o2) (s.heap.objs.size + 1) s.heap.objs.size 0 .none := by
    rw [← ho2] at g2 ⊢
    exact g2
  exact ⟨⟨_, he, rfl⟩, h _ he ⟨o1, g1, by rw [← ho1], by rw [← ho1] <;> rfl⟩ fun b o x => Heap.get?_push_of_some _ (Heap.get?_push_of_some _ x)⟩

/-- turn i gives out a new pair of i and the i-th item -/
def ItU (K : PySem.W.Frag) (a : Addr) : It where
  go i H := ∃ (xs : List V) (x : V), SqT K H a xs ∧ xs[i]? = some x
  yld i H v H' := ∃ (T : Addr) (x : V), v = .ref T ∧ H T = none ∧ H' = upd H T (.tup [.int (i : Nat), x]) ∧ ∀ xs, SqT K H a xs → xs[i]? = some x
  stop i H := ∃ xs : List V, SqT K H a xs ∧ xs.length = i
structure EnSt (a e it : Addr) (i : Nat) (h : Heap) : Prop where
  en : ∃ old, IsEnum h e it (i : Nat) old
  ti : h.IsTupleIter it a i
  n1 : e ≠ it
  n2 : a ≠ it
  n3 : a ≠ e
theorem turn_enumU {P : Program} {w : World} {K : PySem.W.Frag} {elts : List Expr} {kk : Nat} {tpos : Pos} (a e it : Addr) : Turn P w K (.Tuple elts kk tpos) (ItU K a) [e, it] e (EnSt a e it) where
  mem := List.mem_cons_self
  obj i h st b hb := by
    obtain ⟨old, he⟩ := st.en
    rcases List.mem_cons.mp hb with z | z
    · rw [z]
      exact ⟨_, he, fun v q => nomatch q⟩
    · rw [List.mem_singleton.mp z]
      obtain ⟨o, ho, _, hd⟩ := st.ti
      exact ⟨o, ho, fun v q => by rw [hd] at q; cases q⟩
  keep i h h' st k := by
    obtain ⟨old, he⟩ := st.en
    exact ⟨⟨old, k e List.mem_cons_self _ he⟩, st.ti.at fun o q => k it (by simp) o q, st.n1, st.n2, st.n3⟩
  item := by
    intro X hP hw hK hc i pins s σ H E I hf st hg
    subst hP hw hK
    obtain ⟨old, he⟩ := st.en
    obtain ⟨xs, x, hq, hx⟩ := hg
    obtain ⟨its, rv, p, hz⟩ := I.tuple hq
    obtain ⟨u, hu, ru⟩ := rv.get hx
    have p : s.heap.IsTuple a its.toArray := p
    have hin : i < its.toArray.size := by
      rw [List.size_toArray]
      exact (List.getElem?_eq_some_iff.mp hu).1
    have lt1 : e < s.heap.objs.size := Heap.lt_size he
    have lt2 : it < s.heap.objs.size := let ⟨_, q, _⟩ := st.ti; Heap.lt_size q
    have nfp : e ∉ [it, a] := by
      intro z
      rcases List.mem_cons.mp z with z | z
      · exact st.n1 z
      · exact st.n3 (List.mem_singleton.mp z).symm
    refine wpAny_pyNext_enum_itemC (Draws.tuple (prog := X.prog) (w := X.w) (A := X.A.in1) (show X.A.in1.handled = none from I.ok.hd hc) it a st.n2 its.toArray) he ⟨st.ti, p⟩ hin st.n1 nfp fun y h' tk hy ho hst hT hsz hk => ?_
    have ey : y = u := by
      have hy' : its[i]? = some y := by simpa using hy
      rw [hu] at hy'
      exact (Option.some.inj hy').symm
    subst ey
    refine ⟨_, rfl, wpAny_letOwnedTupleGo_enum (s := { s with heap := h', toks := tk + 1 }) ho fun h'' he' sb => ?_⟩
    have far : ∀ b o, b ∉ [e, it] → s.heap.get? b = some o → h''.get? b = some o := fun b o hb q =>
      (sb.2 b fun z => hb (by simp [z])).trans (hk b o (fun z => hb (by simp [z])) (fun z => hb (by simp [z])) q)
    have hT2 := (sb.2 _ (Nat.ne_of_gt lt1)).trans hT
    have I1 : Inv X pins σ (upd H s.heap.objs.size (.tup [.int (i : Nat), x])) { s with heap := h'', toks := tk + 1 } :=
      I.turnedNew far hf (Nat.le_refl _) ⟨by show 2 ≤ sizeLine; decide, [.int i tk, y], .cons ⟨tk, rfl⟩ (.cons ru .nil), ⟨_, hT2, rfl, _, rfl⟩⟩
    refine ⟨.ref s.heap.objs.size, _, I1, rfl, ⟨_, x, rfl, I.hok.fresh (Nat.le_refl _), rfl, fun ys hy => by rw [I.tuple_inj hy hq]; exact hx⟩, ⟨⟨y, ?_⟩, hst.1.at fun o q => (sb.2 it st.n1.symm).trans q, st.n1, st.n2, st.n3⟩, fun b hb => ?_⟩
    · have e1 : ((i + 1 : Nat) : Int) = (i : Int) + 1 := Int.natCast_succ i
      rw [e1]
      exact he'
    · have : b < s.heap.objs.size := by
        rcases List.mem_cons.mp hb with z | z
        · rw [z]; exact lt1
        · rw [List.mem_singleton.mp z]; exact lt2
      rw [upd_ne (Nat.ne_of_lt this)]
      exact (hf b hb).1
  done := by
    intro X hP hw hK hc i pins s σ H E I hf st hg
    subst hP hw hK
    obtain ⟨old, he⟩ := st.en
    obtain ⟨xs, hq, hx⟩ := hg
    obtain ⟨its, rv, p, hz⟩ := I.tuple hq
    obtain ⟨f0, f1, f2, f3, f4, f5⟩ := hf it (by simp)
    have hn : its.toArray.size = i := by rw [List.size_toArray, ← rv.length, hx]
    have hst : s.heap.IsTupleIter it a its.toArray.size ∧ s.heap.IsTuple a its.toArray := by
      rw [hn]
      exact ⟨st.ti, p⟩
    exact wpAny_pyNext_enum_endD (Draws.tuple (prog := X.prog) (w := X.w) (A := X.A.in1) (show X.A.in1.handled = none from I.ok.hd hc) it a st.n2 its.toArray) he hst fun h' eb => ⟨rfl, I.turned (t' := s.toks) (fun b o hb q => eb b o hb q) f0 f1 f3 f4 f5⟩
  self := fun A i s Q E st h => let ⟨_, he⟩ := st.en; wpAny_pyIter_enum he h
def iEnumU (K : PySem.W.Frag) (ta : TA) : TI := fun σ H R => ta σ H fun vs H1 => ∃ a xs, vs = [.ref a] ∧ SqT K H1 a xs ∧ R (ItU K a) H1
theorem pi_enumU {X : Cx} {e : Expr} {ta : TA} {p pos tpos : Pos} {elts : List Expr} {kk : Nat} (hg : Gl X "enumerate") (hm : X.mg "enumerate" = none) (ha : PA X [e] ta) (hs : starEach [e] X.env = [(false, eval e X.env)] := by rfl) :
    PI X (.Tuple elts kk tpos) (.Call (.Name "enumerate" p) [e] [] pos) (iEnumU X.K ta) where
  run pins s σ H R I h := by
    refine Call_ (ld_blt I hg hm boot_enumerate (PyProof.Rows.callWith_type1 (thn (ha.run pos pins s σ H _ I h) fun us s1 ⟨vs, H1, I1, r1, a, xs, ex, hq, q⟩ => ?_) hs rfl))
    subst ex
    cases r1 with
    | cons r rr =>
      cases rr
      cases r
      obtain ⟨its, rv, p', hz⟩ := I1.tuple hq
      have p' : s1.heap.IsTuple a its.toArray := p'
      have la : a < s1.heap.objs.size := let ⟨_, o, _⟩ := p'; Heap.lt_size o
      refine enum_call_tup p' fun h' he hit hk => wpAny_pyIter_enum he ?_
      have I2 : Inv X pins σ H1 { s1 with heap := h' } := I1.kept (t' := s1.toks) hk
      refine ⟨_, [s1.heap.objs.size + 1, s1.heap.objs.size], _, _, H1, rfl, I2, turn_enumU a (s1.heap.objs.size + 1) s1.heap.objs.size,
        ⟨⟨.none, he⟩, hit, Nat.succ_ne_self _, Nat.ne_of_lt la, Nat.ne_of_lt (Nat.lt_succ_of_lt la)⟩, fun b hb => ?_, q⟩
      have hle : s1.heap.objs.size ≤ b := by
        rcases List.mem_cons.mp hb with z | z
        · rw [z]; exact Nat.le_succ _
        · rw [List.mem_singleton.mp z]; exact Nat.le_refl _
      exact I1.fpOk hle (I1.hok.fresh hle)
theorem walk_enumU {K : PySem.W.Frag} {a : Addr} {xs : List V} : Walk (ItU K a) xs.length (fun H => SqT K H a xs) (YPair (fun i => some (.int (i : Nat))) (fun i => xs[i]?)) where
  goes i _ hi q := ⟨xs, xs[i], q, by simp [hi]⟩
  stops _ q := ⟨xs, q, rfl⟩
  yields i H v H' _ q y := let ⟨T, x, h1, h2, h3, h4⟩ := y; ⟨T, .int (i : Nat), x, h1, h2, h3, rfl, h4 xs q⟩
end Mv
/-! Comprehensions that fill a dict (any keys that the layer tracks) or a set of ints: one walk for both, the sink left open. -/
namespace Mv
open PySem PySem.Spec PyProof.Rows L2
/-- what an element does to the thing that is made, in a block: Nx is wanted of the heap behind it -/
abbrev TK := Addr → L2.St → Hp → (Hp → Prop) → Prop
/-- {.. for tg in iter if ..}: ob0 D the empty thing at D -/
def tCm (ob0 : Addr → HO) (wi : TI) (g : TG) (tt : TT) (tk : TK) (vs : List Nat) : TE := fun σ H Q => wi σ H fun J H1 => ∀ D, H1 D = none → ∃ W : Nat → Nat → Hp → Prop, (∃ m, W 0 m (upd H1 D (ob0 D))) ∧
  ∀ i m H, W i m H → (J.stop i H ∧ Q (.ref D) H) ∨ (J.go i H ∧ ∃ Nx : Hp → Prop, (∀ H', Nx H' → ∃ m', m' < m ∧ W (i + 1) m' H') ∧
    ∀ x H', J.yld i H x H' → g x (wipe σ vs) H' fun σ2 H2 => wipe σ2 vs = wipe σ vs ∧ tt σ2 H2 fun b H3 => if b = true then tk D σ2 H3 Nx else Nx H3)
abbrev Stp := Env → Addr → (Shared → Prop) → (Value → Shared → Prop) → Shared → Prop
/-- the model's own turn of such a comprehension c over one clause, its element's effect as stp -/
structure CmRun (P : Program) (w : World) (A : Around) (c tg : Expr) (ifs : List Expr) (stp : Stp) : Prop where
  loop : ∀ (R : Result → Shared → Prop) (s : Shared) (it : Value) (D : Addr) (env : Env) (In : Nat → Shared → Prop),
    (∀ n s, In n s → wpAny (model P w) A (pyNext it) (fun r s₁ => match r with
      | none => R (.ok .next) s₁
      | some v => wpAny (model P w) A (letOwnedTupleGo tg it v) (fun _ s₁' => wpAny (model P w) A (assign tg env v) (fun _ s₂ =>
          wpAny (model P w) A (forIn ifs true fun c r => if r = true then do let ok ← isTrue c env (eval c env); pure (ForInStep.yield ok) else pure (ForInStep.yield r)) (fun ok s₃ =>
            if ok = true then stp env D (fun s₆ => ∃ m, m < n ∧ In m s₆) (notedBy (model P w) A env fun e s' => R (.error e) s') s₃
            else ∃ m, m < n ∧ In m s₃) (notedBy (model P w) A env fun e s' => R (.error e) s') s₂) (notedBy (model P w) A env fun e s' => R (.error e) s') s₁') (notedBy (model P w) A env fun e s' => R (.error e) s') s₁) (notedBy (model P w) A env fun e s' => R (.error e) s') s) →
    ∀ n, In n s → codeAny (model P w) A (.compLoop c 0 it (.ref D) env) R s
  start : ∀ (R : Result → Shared → Prop) (s : Shared) (it acc : Value) (env : Env), codeAny (model P w) A (.compLoop c 0 it acc env) R s →
    wpAny (model P w) A (pyIter it) (fun it' s' => codeAny (model P w) A (.compLoop c 0 it' acc env) R s') (notedBy (model P w) A env fun x s' => R (.error x) s') s → codeAny (model P w) A (.compStart c 0 it acc env) R s
section
variable {X : Cx}
theorem cm_core {pins : List (Addr × Obj)} {s : Shared} {σ : L2.St} {H : Hp} {Q : VK} {c tg iter : Expr} {ifs : List Expr} {scope : Scope} {own : List (Str × Nat)} {pos' : Pos} {wi : TI} {g : TG} {tt : TT} {tk : TK}
    {ob0 : Addr → HO} {obj : Obj} {new : Sem Value} {stp : Stp} {Qf : Value → Shared → Prop} (hcl : clausesOf c = [⟨tg, iter, ifs, 0⟩])
    (hc : X.calm = true) (hN : X.N.Nodup) (I : Inv X pins σ H s) (hi : PI X tg iter wi) (ok : BlkOk X.N X.env.scope scope own)
    (hnew : ∀ (s : Shared) (Q : Value → Shared → Prop) (E : Value → Shared → Prop), Q (.ref s.heap.objs.size) { s with heap := s.heap.push obj } → wpAny (model X.prog X.w) X.A new Q E s) (hfr : obj.isFreed = false)
    (hob : ∀ (H : Hp) (h : Heap), sysModules < h.objs.size → ObjOk X.prog X.w H (h.push obj) h.objs.size (ob0 h.objs.size))
    (run : CmRun X.prog X.w X.A c tg ifs stp)
    (hg : ∀ (s : Shared) (H : Hp) (C : Addr) (cl : List (Str × Addr)) (fp : List Addr), PG (X.blk s H scope (compEnvC scope cl C X.env) fp) tg g)
    (ht : ∀ (s : Shared) (H : Hp) (C : Addr) (cl : List (Str × Addr)) (fp : List Addr), PTs (X.blk s H scope (compEnvC scope cl C X.env) fp) ifs tt)
    (hk : ∀ (s : Shared) (H : Hp) (C : Addr) (cl : List (Str × Addr)) (fp : List Addr) (pn : List (Addr × Obj)) (s2 : Shared) (σ2 : L2.St) (H2 : Hp) (D : Addr) (Nx : Hp → Prop) (Pq : Shared → Prop) (E : Value → Shared → Prop),
      Inv (X.blk s H scope (compEnvC scope cl C X.env) fp) pn σ2 H2 s2 → tk D σ2 H2 Nx → (∀ s' H', Inv (X.blk s H scope (compEnvC scope cl C X.env) fp) pn σ2 H' s' → Nx H' → Pq s') → stp (compEnvC scope cl C X.env) D Pq E s2)
    (hs : ∀ x, foldedSetIterable iter X.env x = pure x) (h : tCm ob0 wi g tt tk (own.map (·.2)) σ H Q)
    (back : ∀ D C s' m H', Inv X pins σ H' s' → Q (.ref D) H' → s'.heap.Ns C m → FpOk X pins H' C → compPost (model X.prog X.w) X.A X.xe none Qf (.ref D) C (.ok .next) s') :
    wpAny (model X.prog X.w) X.A (comprehension c scope X.env pos' new false (eval iter X.env) none) Qf X.xe s := by
  have hfree : ∀ y ∈ scope.names, y.2 = .free → ∃ a, X.env.cells.lookup y.1 = some a := fun y hy e => (ok.free y hy e).elim (fun k => I.ok.has _ (.inl k)) fun k => I.ok.has _ (.inr k)
  refine wpAny_comprehension_free (use := none) hcl hs (closure_ok hfree) ok.kind (fun y hy e => by rw [ok.uniq y hy, e]) (thn (hi.run pins s σ H _ I h) fun xv s1 hx => thn hx fun itv s2 h2 => ?_)
  obtain ⟨it, fp, tn, J, H2, rfl, I2, T, st2, f2, q⟩ := h2
  refine hnew s2 _ _ (newEnv_comp ?_)
  generalize hD : s2.heap.objs.size = D
  obtain ⟨W, ⟨m0, w0⟩, turn⟩ := q D (I2.hok.fresh (Nat.le_of_eq hD))
  generalize hs3 : ({ s2 with heap := s2.heap.push obj } : Shared) = s3
  have h3 : s3.heap = s2.heap.push obj := by rw [← hs3]
  have up : ∀ b o, s2.heap.get? b = some o → s3.heap.get? b = some o := fun b o e => by
    rw [h3]
    exact Heap.get?_push_of_some _ e
  have I3 : Inv X pins σ (upd H2 D (ob0 D)) s3 := by
    rw [← hs3]
    refine I2.laid (t' := s2.toks) (fun b o e => Heap.get?_push_of_some _ e) (Nat.le_of_eq hD) ?_
    rw [← hD]
    exact hob _ s2.heap I2.big
  have f3 : ∀ b ∈ fp, FpOk X pins (upd H2 D (ob0 D)) b ∧ b < s3.heap.objs.size := fun b hb => by
    obtain ⟨o, e, _⟩ := T.obj _ _ st2 b hb
    have lt : b < s2.heap.objs.size := Heap.lt_size e
    have ne : b ≠ D := hD ▸ Nat.ne_of_lt lt
    exact ⟨⟨(upd_ne ne).trans (f2 b hb).1, (f2 b hb).2⟩, by rw [h3, Heap.size_push]; exact Nat.lt_succ_of_lt lt⟩
  have st3 : tn 0 s3.heap := T.keep _ _ _ st2 fun b _ => up b
  have I4 := block_start I3 ok hN f3
  show codeAny _ _ (.compStart c 0 (.ref it) (.ref D) (compEnvC scope (cellsFrom (s3.heap.objs.size + 1) scope.names (cloFrom X.env.cells scope.names [])) s3.heap.objs.size X.env)) (compPost (model X.prog X.w) X.A X.xe none Qf (.ref D) s3.heap.objs.size)
    { s3 with heap := pushCells (s3.heap.push { cls := .type "dict", data := .dict #[] }) scope.names }
  generalize hcl : cellsFrom (s3.heap.objs.size + 1) scope.names (cloFrom X.env.cells scope.names []) = cells at I4 ⊢
  generalize hH3 : upd H2 D (ob0 D) = H3 at I3 I4 w0 f3
  have pg := hg s3 H3 s3.heap.objs.size cells fp
  have pt := ht s3 H3 s3.heap.objs.size cells fp
  have pk := hk s3 H3 s3.heap.objs.size cells fp
  generalize hce : compEnvC scope cells s3.heap.objs.size X.env = ce at I4 pg pt pk ⊢
  have cL : ce.locals = s3.heap.objs.size := by rw [← hce] <;> rfl
  generalize hs4 : ({ s3 with heap := pushCells (s3.heap.push { cls := .type "dict", data := .dict #[] }) scope.names } : Shared) = s4 at I4 ⊢
  have st4 : tn 0 s4.heap := T.keep _ _ _ st3 fun b _ o e => by
    rw [← hs4]
    exact pushCells_keeps _ _ _ _ (Heap.get?_push_of_some _ e)
  have stat : ∀ {σ' : L2.St} {H' : Hp} {s' : Shared}, Inv (X.blk s3 H3 scope ce fp) [] σ' H' s' → (∀ b ∈ fp, H' b = none) → ∀ b ∈ fp, FpOk (X.blk s3 H3 scope ce fp) [] H' b := fun I' hn b hb =>
    ⟨hn b hb, (I'.ok.exf b hb).1, I'.ok.exfs b hb, .inl hb, fun x a e => (I'.ok.exf b hb).2 x a e, fun p hp => nomatch (show p ∈ ([] : List (Addr × Obj)) from hp)⟩
  have loop : codeAny (model X.prog X.w) X.A (.compLoop c 0 (.ref it) (.ref D) ce) (compPost (model X.prog X.w) X.A X.xe none Qf (.ref D) s3.heap.objs.size) s4 := by
    refine run.loop _ s4 _ D ce (fun n s' => ∃ i H', Inv (X.blk s3 H3 scope ce fp) [] (wipe σ (own.map (·.2))) H' s' ∧ tn i s'.heap ∧ (∀ b ∈ fp, H' b = none) ∧ W i n H') ?_ m0 ⟨0, H3, I4, st4, fun b hb => (f3 b hb).1.1, w0⟩
    rintro n s5 ⟨i, H5, I5, st5, n5, w5⟩
    rcases turn i n H5 w5 with ⟨stop, qq⟩ | ⟨go, Nx, hNx, step⟩
    · refine thnF (T.done (X.blk s3 H3 scope ce fp) rfl rfl rfl hc i [] s5 _ H5 (fun _ _ => False) I5 (stat I5 n5) st5 stop) fun r s6 ⟨hr, I6⟩ => ?_
      subst hr
      have I7 : Inv X pins σ H5 s6 := I3.call' (ch := fp) I6.os I6.base I6.hok I6.bare fun b hb => let f := (f3 b hb).1; ⟨f.2.2.2.1, f.2.1, f.2.2.2.2.1, f.2.2.2.2.2⟩
      have nC : H5 ce.locals = none := I6.free
      obtain ⟨m, hn, _⟩ := I6.loc
      have hn : s6.heap.Ns ce.locals m := hn
      rw [cL] at nC hn
      exact back D _ s6 m H5 I7 qq hn (I3.fpOk (Nat.le_refl _) nC)
    · refine thnF (T.item (X.blk s3 H3 scope ce fp) rfl rfl rfl hc i [] s5 _ H5 (fun _ _ => False) I5 (stat I5 n5) st5 go) fun r s6 ⟨u, hr, h6⟩ => ?_
      subst hr
      refine thnF h6 fun _ s7 ⟨x, H7, I7, r7, y7, st7, n7⟩ => ?_
      refine thnF (pg.run _ s7 _ H7 x u _ (I7.pinned (stat I7 n7) (T.obj _ _ st7)) r7 (step x H7 y7)) fun _ s8 ⟨σ8, H8, I8, hw8, q8⟩ => ?_
      refine thnF (pt.run _ s8 σ8 H8 _ I8 q8) fun b s9 ⟨H9, I9, q9⟩ => ?_
      have fin : ∀ (s' : Shared) (H' : Hp), Inv (X.blk s3 H3 scope ce fp) ([] ++ pinsAt fp s7.heap) σ8 H' s' → Nx H' → ∃ m, m < n ∧ ∃ i H', Inv (X.blk s3 H3 scope ce fp) [] (wipe σ (own.map (·.2))) H' s' ∧ tn i s'.heap ∧ (∀ b ∈ fp, H' b = none) ∧ W i m H' := fun s' H' I' nx => by
        obtain ⟨m', hm, w'⟩ := hNx H' nx
        have pin : ∀ b ∈ fp, ∀ o, s7.heap.get? b = some o → s'.heap.get? b = some o ∧ H' b = none := fun b hb o e =>
          let z := I'.pin (b, o) (List.mem_append_right _ (List.mem_append_right _ (mem_pinsAt hb e))); ⟨z.1, z.2.1⟩
        refine ⟨m', hm, i + 1, H', (I'.unpinned (pins := [])).weak (by rw [← hw8, wipe_length]) (fun j v e => ?_), T.keep _ _ _ st7 fun b hb o e => (pin b hb o e).1, fun b hb => ?_, w'⟩
        · rw [← hw8] at e
          exact (wipe_some e).1
        · obtain ⟨o, e, _⟩ := T.obj _ _ st7 b hb
          exact (pin b hb o e).2
      cases b with
      | false => exact fin s9 H9 I9 q9
      | true => exact pk _ s9 σ8 H9 D Nx _ _ I9 q9 fin
  exact run.start _ _ _ _ _ loop (T.self X.A 0 _ _ _ st4 loop)
end
end Mv
namespace Mv
open PySem PySem.Spec PyProof.Rows L2
section
variable {X : Cx}
/-! ### a dict by a comprehension -/
theorem dictSet_put {pins : List (Addr × Obj)} {σ : L2.St} {H H' : Hp} {s : Shared} {E : Value → Shared → Prop} {D : Addr} {y v : V} {u r : Value} {Q : Unit → Shared → Prop} (hu : X.A.units < cLine) (I : Inv X pins σ H s) (g : DPut H D y v H') (ry : RelV y u) (rv : RelV v r)
    (h : ∀ s', Inv X pins σ H' s' → Q () s') : wpAny (model X.prog X.w) X.A (dictSet D u r) Q E s := by
  rcases g with ⟨kvs, k, e, rfl, l, rfl⟩ | ⟨kvs, k, b, e, rfl, eb, l, rfl⟩
  · exact d_dictSet I e l ry rv h
  · cases (show u = Value.ref b from ry)
    obtain ⟨z, hd, xs, rel, dd⟩ := dt_of I.hok e
    have hz : xs.length ≤ sizeLine := Paired.length rel ▸ z
    have hl : (putK kvs k v).length ≤ sizeLine := Nat.le_trans (length_putK kvs k v) l
    refine wpAny_dictSet_heap (hsz := hz) (knd := tupleKind (mixKind X.prog X.w)) hu (key_of I.hok eb) dd fun h' dd' hs => h _ ?_
    obtain ⟨q, es, ep, hq, h2, h3, h4, _, h5⟩ := dd'
    refine d_write I (by rw [e]; exact True.intro) hs ⟨q, hq⟩ ⟨hl, hd, _, (rel.put k eb rv).keeps fun c ys ec => ?_, q, es, ep, hq, h2, h3, h4, h5⟩
    exact (upd_ne (ne_of ec e (fun z => nomatch z))).trans ec
def kDict (tk tv : TE) : TK := fun D σ H Nx => tk σ H fun y H1 => tv σ H1 fun z H2 => ∃ H3, DPut H2 D y z H3 ∧ Nx H3
/-- {k: v for ..} whose keys are tuples -/
theorem pe_dcT {kx vx tg iter : Expr} {ifs : List Expr} {scope : Scope} {own : List (Str × Nat)} {pos : Pos} {wi : TI} {g : TG} {tt : TT} {tk tv : TE} (hu : X.A.units < cLine) (hc : X.calm = true) (hN : X.N.Nodup) (hi : PI X tg iter wi) (ok : BlkOk X.N X.env.scope scope own)
    (hg : ∀ (s : Shared) (H : Hp) (C : Addr) (cl : List (Str × Addr)) (fp : List Addr), PG (X.blk s H scope (compEnvC scope cl C X.env) fp) tg g)
    (ht : ∀ (s : Shared) (H : Hp) (C : Addr) (cl : List (Str × Addr)) (fp : List Addr), PTs (X.blk s H scope (compEnvC scope cl C X.env) fp) ifs tt)
    (hk : ∀ (s : Shared) (H : Hp) (C : Addr) (cl : List (Str × Addr)) (fp : List Addr), PE (X.blk s H scope (compEnvC scope cl C X.env) fp) kx tk)
    (he : ∀ (s : Shared) (H : Hp) (C : Addr) (cl : List (Str × Addr)) (fp : List Addr), PE (X.blk s H scope (compEnvC scope cl C X.env) fp) vx tv) (hs : ∀ x, foldedSetIterable iter X.env x = pure x := by intro _; rfl) :
    PE X (.DictComp kx vx [⟨tg, iter, ifs, 0⟩] scope pos) (tCm (fun _ => .dT []) wi g tt (kDict tk tv) (own.map (·.2))) where
  run pins s σ H Q I h := by
    rw [arm_eval_DictComp]
    refine cm_core (obj := { cls := .type "dict", data := .dict #[] }) (stp := fun env D Pq E s => wpAny (model X.prog X.w) X.A (eval kx env) (fun kv s₄ => wpAny (model X.prog X.w) X.A (eval vx env) (fun vv s₅ => wpAny (model X.prog X.w) X.A (dictSet D kv vv) (fun _ => Pq) E s₅) E s₄) E s)
      rfl hc hN I hi ok (fun s Q E q => wpAny_newObj_type q) rfl (fun H h hb => dt_empty h hb) ⟨fun R s it D env In turn n hn => compLoop_anyD In turn n hn, fun R s it acc env a b => codeAny_compStart_dict a b⟩ hg ht
      (fun s1 H1 C cl fp pn s2 σ2 H2 D Nx Pq E I2 q k => ?_) hs h fun D C s' m H' I' q hn f => ⟨m, hn, fun h'' sb => ?_⟩
    · refine thnF ((hk s1 H1 C cl fp).run _ s2 σ2 H2 _ I2 q |> fun z => wpAny_mono z (fun _ _ z => z) fun _ _ z => z) fun u s3 ⟨y, H3, I3, r3, q3⟩ => ?_
      refine thnF ((he s1 H1 C cl fp).run _ s3 σ2 H3 _ I3 q3) fun u2 s4 ⟨z, H4, I4, r4, H5, put, nx⟩ => ?_
      exact dictSet_put (X := X.blk s1 H1 scope (compEnvC scope cl C X.env) fp) hu I4 put r3 r4 fun s5 I5 => k s5 H5 I5 nx
    · obtain ⟨f0, f1, f2, f3, f4, f5⟩ := f
      exact ⟨.ref D, H', I'.turned (t' := s'.toks) (fun b o hb e => (sb.2 b hb).trans e) f0 f1 f3 f4 f5, rfl, q⟩

/-! ### a set of ints by a comprehension -/
def kSetI (w : World) (te : TE) : TK := fun D σ H Nx => te σ H fun y H1 => ∃ (k : Int) (S : Int → Bool) (n : Nat), y = .int k ∧ H1 D = some (SetO w D S n) ∧ n + 1 < scanBound ∧
  Nx (upd H1 D (SetO w D (fun j => S j || decide (j = k)) (if S k = true then n else n + 1)))
theorem pe_scI {elt tg iter : Expr} {ifs : List Expr} {scope : Scope} {own : List (Str × Nat)} {pos : Pos} {wi : TI} {g : TG} {tt : TT} {te : TE} (hc : X.calm = true) (hN : X.N.Nodup) (hi : PI X tg iter wi) (ok : BlkOk X.N X.env.scope scope own)
    (hg : ∀ (s : Shared) (H : Hp) (C : Addr) (cl : List (Str × Addr)) (fp : List Addr), PG (X.blk s H scope (compEnvC scope cl C X.env) fp) tg g)
    (ht : ∀ (s : Shared) (H : Hp) (C : Addr) (cl : List (Str × Addr)) (fp : List Addr), PTs (X.blk s H scope (compEnvC scope cl C X.env) fp) ifs tt)
    (he : ∀ (s : Shared) (H : Hp) (C : Addr) (cl : List (Str × Addr)) (fp : List Addr), PE (X.blk s H scope (compEnvC scope cl C X.env) fp) elt te) (hs : ∀ x, foldedSetIterable iter X.env x = pure x := by intro _; rfl) :
    PE X (.SetComp elt [⟨tg, iter, ifs, 0⟩] scope pos) (tCm (fun D => SetO X.w D (fun _ => false) 0) wi g tt (kSetI X.w te) (own.map (·.2))) where
  run pins s σ H Q I h := by
    rw [PpSet.eval_SetComp]
    refine cm_core (obj := { cls := .type "set", dict := none, data := .set #[] 0 (.fresh 0 0 (!X.w.params.followText "set-order")) }) (stp := fun env D Pq E s => wpAny (model X.prog X.w) X.A (eval elt env) (fun v s₄ => wpAny (model X.prog X.w) X.A (call (.builtin "set.add") [.ref D, v]) (fun _ => Pq) E s₄) E s)
      rfl hc hN I hi ok (fun s Q E q => PpSet.newSet_ok q) rfl (fun H h _ => setO_new (setR_fresh X.w)) ⟨fun R s it D env In turn n hn => PpSet.compLoopS_any In turn n hn, fun R s it acc env a b => PpSet.codeAny_compStart_set a b⟩ hg ht
      (fun s1 H1 C cl fp pn s2 σ2 H2 D Nx Pq E I2 q k => ?_) hs h fun D C s' m H' I' q hn f => ⟨m, hn, fun h'' sb => ?_⟩
    · refine thnF ((he s1 H1 C cl fp).run _ s2 σ2 H2 _ I2 q) fun u s3 ⟨y, H3, I3, r3, j, S, n, ey, hD, room, nx⟩ => ?_
      subst ey
      obtain ⟨tk, rfl⟩ := r3
      refine setR_add (setO_get (X := X.blk s1 H1 scope (compEnvC scope cl C X.env) fp) I3 hD) room fun h' sb new => k _ _ (I3.write (e := D) (t' := s3.toks + 1) (by rw [hD]; trivial) (.inl rfl) (fun b u hb hu => (sb.2 b hb).trans hu) ?_ (setO_new new)) nx
      obtain ⟨o, _, _, _, ho, _⟩ := new
      exact ⟨o, ho⟩
    · obtain ⟨f0, f1, f2, f3, f4, f5⟩ := f
      exact ⟨.ref D, H', I'.turned (t' := s'.toks) (fun b o hb e => (sb.2 b hb).trans e) f0 f1 f3 f4 f5, rfl, q⟩

/-! ### how many a set holds -/
def rLenSetI (w : World) : List V → Hp → VK → Prop := fun xs H Q => ∃ (a : Addr) (S : Int → Bool) (n : Nat), xs = [.ref a] ∧ H a = some (SetO w a S n) ∧ Q (.int n) H
theorem call_lenSetI : CallR X (.builtin "len") (rLenSetI X.w) := by
  intro pins s σ H xs us Q I r h
  obtain ⟨a, S, n, rfl, ha, q⟩ := h
  rw [Vals.ref1 r]
  obtain ⟨o, es, ep, t, ho, hex, hd, _, _, _, hz, hf, hn, _⟩ := setO_get I ha
  have hb : es.size < 2 ^ 63 := Nat.lt_trans hz (by decide)
  refine call_len_set ho hex hd hf (by omega) ⟨.int n, H, I.tok _, ⟨_, by rw [hn]⟩, q⟩
def rLenSetT (P : Program) (w : World) : List V → Hp → VK → Prop := fun xs H Q => ∃ (a : Addr) (L : List (Addr × List Int)), xs = [.ref a] ∧ H a = some (SetTO P w a L) ∧ (∀ p ∈ L, H p.1 = some (.tup (p.2.map V.int))) ∧ ((L.map (·.2)).Nodup → Q (.int L.length) H)
theorem call_lenSetT : CallR X (.builtin "len") (rLenSetT X.prog X.w) := by
  intro pins s σ H xs us Q I r h
  obtain ⟨a, L, rfl, ha, ht, q⟩ := h
  rw [Vals.ref1 r]
  obtain ⟨es, ep, t, R⟩ := SetT0.full (I.hok a _ ha).1 fun p hp => I.isT (SqT.of (ht p hp))
  obtain ⟨o, ho, hex, hd⟩ := R.ob
  have hn := R.size
  have hf := R.few
  refine call_len_set ho hex hd R.fits (by omega) ⟨.int L.length, H, I.tok _, ⟨_, by rw [hn]⟩, q R.nd⟩
end
end Mv
namespace Mv
open PySem PySem.Spec PyProof.Rows L2
/-! ### the greatest of a walk's ints, or what is handed in for none -/
def mxOf (f : Nat → Int) : Nat → Option Int
  | 0 => none
  | n + 1 => some (match mxOf f n with | none => f n | some m => if f n > m then f n else m)
theorem mxOf_spec (f : Nat → Int) : ∀ n, (n = 0 ∧ mxOf f n = none) ∨ ∃ m, mxOf f n = some m ∧ (∃ i, i < n ∧ f i = m) ∧ ∀ i, i < n → f i ≤ m
  | 0 => .inl ⟨rfl, rfl⟩
  | n + 1 => by
    right
    rcases mxOf_spec f n with ⟨rfl, e⟩ | ⟨m, e, ⟨i, hi, hm⟩, hb⟩
    · refine ⟨f 0, by simp [mxOf], ⟨0, by omega, rfl⟩, fun i hi => ?_⟩
      obtain rfl : i = 0 := by omega
      exact Int.le_refl _
    · by_cases c : f n > m
      · refine ⟨f n, by simp [mxOf, e, c], ⟨n, by omega, rfl⟩, fun j hj => ?_⟩
        rcases Nat.lt_or_ge j n with h | h
        · have := hb j h; omega
        · obtain rfl : j = n := by omega
          exact Int.le_refl _
      · refine ⟨m, by simp [mxOf, e, c], ⟨i, by omega, hm⟩, fun j hj => ?_⟩
        rcases Nat.lt_or_ge j n with h | h
        · exact hb j h
        · obtain rfl : j = n := by omega
          omega
/-- what the loop's state list holds -/
def MxSt (h : Heap) (S : Addr) (o : Option Int) : Prop := ∃ c, (o = none ∧ h.get? S = some { cls := .type "list", dict := none, data := .seq #[] c, slots := #[] }) ∨
  ∃ m t, o = some m ∧ h.get? S = some { cls := .type "list", dict := none, data := .seq #[.int m t, .int m t] c, slots := #[] }
section
variable {prog : Program} {w : World} {A : Around} {R : Result → Shared → Prop} {I : Addr} {fp wr : List Addr} {n : Nat} {P : Nat → Value → Prop} {St : Nat → Heap → Prop}
theorem int_gt {i j : Int} {t u : Tok} {s : Shared} {Q E : Value → Shared → Prop} (h : Q (.bool (decide (i > j))) s) : wpAny (model prog w) A (richCompare .Gt (.int i t) (.int j u)) Q E s :=
  CmpOf.ints_gt (prog := prog) (w := w) (A := A) (P := fun k v => (k = 0 ∧ v = .int i t) ∨ (k = 1 ∧ v = .int j u)) (fun k => if k = 0 then i else j)
    (fun k v hv => by rcases hv with ⟨rfl, rfl⟩ | ⟨rfl, rfl⟩ <;> exact ⟨_, rfl⟩) 0 1 _ _ s Q E (.inl ⟨rfl, rfl⟩) (.inr ⟨rfl, rfl⟩) (by simpa using h)
theorem max_loop (W : Walks prog w A.in1 I fp wr n P St) (f : Nat → Int) (hv : ∀ i v, P i v → ∃ t, v = .int (f i) t) (kw : List (Str × Value)) (hkw : ∃ nm d, kw = [(nm, d)]) (S : Addr) (hSf : S ∉ fp) :
    ∀ (k i : Nat) (s : Shared), n - i = k → i ≤ n → St i s.heap → MxSt s.heap S (mxOf f i) →
    (∀ v h' tk, (match mxOf f n with | none => ∃ nm, kw = [(nm, v)] | some m => ∃ t, v = .int m t) → (∀ b o, b ∉ wr → b ≠ S → s.heap.get? b = some o → h'.get? b = some o) → R (.ok (.ret v)) { s with heap := h', toks := tk }) →
    codeAny (model prog w) A (.builtin "max.loop" ⟨[.ref I, .none, .ref S], kw⟩) R s := by
  have hSw : S ∉ wr := fun h => hSf (W.sub _ h)
  obtain ⟨nm, dflt, rfl⟩ := hkw
  have hname : (toString "max" ++ toString ".loop" : String) = "max.loop" := by decide
  intro k
  induction k with
  | zero =>
    intro i s hk hi hst hS hR
    obtain rfl : i = n := by omega
    refine codeAny_builtin PySem.F.entry_max_loop ?_
    rw [Around.under_plainId PySem.F.plain_max_loop _]
    obtain ⟨c, ⟨em, hS⟩ | ⟨m, t, em, hS⟩⟩ := hS
    · show wpAny _ A.in1 (seqItems? (.ref S) >>= _) _ _ s
      refine wpAny_bind (wpAny_seqItems hS rfl ?_)
      show wpAny _ A.in1 (tryCatch (pyNext (.ref I)) _ >>= _) _ _ s
      refine wpAny_bind (wpAny_tryCatch (W.done s _ _ hst fun h' tk hk' => ?_))
      show wpAny _ A.in1 (rule _ >>= _) _ _ _
      refine wpAny_bind (wpAny_rule (wpAny_pure (hR dflt h' tk ?_ fun b o hbw _ e => hk' b o hbw e)))
      rw [em]
      exact ⟨nm, rfl⟩
    · show wpAny _ A.in1 (seqItems? (.ref S) >>= _) _ _ s
      refine wpAny_bind (wpAny_seqItems hS rfl ?_)
      show wpAny _ A.in1 (tryCatch (pyNext (.ref I)) _ >>= _) _ _ s
      refine wpAny_bind (wpAny_tryCatch (W.done s _ _ hst fun h' tk hk' => ?_))
      have hS' := hk' S _ hSw hS
      show wpAny _ A.in1 (updateSeq S (fun _ => #[]) >>= _) _ _ _
      refine wpAny_bind (wpAny_updateSeq hS' rfl (wpAny_bind (wpAny_letGo (wpAny_pure (hR _ _ tk ?_ fun b o hbw hbS e => ?_)))))
      · rw [em]
        exact ⟨t, rfl⟩
      · exact (Heap.get?_update_other _ _ (Ne.symm hbS)).trans (hk' b o hbw e)
  | succ k ih =>
    intro i s hk hi hst hS hR
    have hlt : i < n := by omega
    refine codeAny_builtin PySem.F.entry_max_loop ?_
    rw [Around.under_plainId PySem.F.plain_max_loop _]
    obtain ⟨c, ⟨em, hS⟩ | ⟨m, t, em, hS⟩⟩ := hS
    · show wpAny _ A.in1 (seqItems? (.ref S) >>= _) _ _ s
      refine wpAny_bind (wpAny_seqItems hS rfl ?_)
      show wpAny _ A.in1 (tryCatch (pyNext (.ref I)) _ >>= _) _ _ s
      refine wpAny_bind (wpAny_tryCatch (W.item i s _ _ hlt hst fun v h' tk hP hst' hk' => ?_))
      have hS' := hk' S _ hSw hS
      obtain ⟨tv, rfl⟩ := hv i v hP
      show wpAny _ A.in1 (updateSeq S (fun _ => #[_, _]) >>= _) _ _ _
      refine wpAny_bind (wpAny_updateSeq hS' rfl ?_)
      rw [hname]
      refine wpAny_pure ⟨plainId_quiet PySem.F.plain_max_loop _, ih (i + 1) _ (by omega) hlt (W.frame _ _ _ hst' fun b hbf o e => ?_) ⟨_, .inr ⟨f i, tv, by simp [mxOf, em], Heap.get?_update_self _ hS' rfl⟩⟩ fun v' h'' tk'' hv' hk'' => ?_⟩
      · exact (Heap.get?_update_other _ _ (fun h : S = b => hSf (by rw [h]; exact hbf))).trans e
      · exact hR v' h'' tk'' hv' fun b o hbw hbS e => hk'' b o hbw hbS ((Heap.get?_update_other _ _ (Ne.symm hbS)).trans (hk' b o hbw e))
    · show wpAny _ A.in1 (seqItems? (.ref S) >>= _) _ _ s
      refine wpAny_bind (wpAny_seqItems hS rfl ?_)
      show wpAny _ A.in1 (tryCatch (pyNext (.ref I)) _ >>= _) _ _ s
      refine wpAny_bind (wpAny_tryCatch (W.item i s _ _ hlt hst fun v h' tk hP hst' hk' => ?_))
      have hS' := hk' S _ hSw hS
      obtain ⟨tv, rfl⟩ := hv i v hP
      show wpAny _ A.in1 (tryCatch (holding [_, _] (richCompare .Gt _ _ >>= _)) _ >>= _) _ _ _
      refine wpAny_bind (wpAny_tryCatch (wpAny_holding (wpAny_bind (int_gt ?_))))
      refine wpAny_bind (wpAny_holding (wpAny_truthy_bool ?_))
      refine wpAny_bind (wpAny_letGo (wpAny_pure ?_))
      by_cases hb : f i > m
      · rw [decide_eq_true hb]
        simp only [if_true]
        refine wpAny_bind (wpAny_updateSeq hS' rfl (wpAny_bind (wpAny_letGo ?_)))
        rw [hname]
        refine wpAny_pure ⟨plainId_quiet PySem.F.plain_max_loop _, ih (i + 1) _ (by omega) hlt (W.frame _ _ _ hst' fun b hbf o e => ?_) ⟨_, .inr ⟨f i, tv, by simp [mxOf, em, hb], Heap.get?_update_self _ hS' rfl⟩⟩ fun v' h'' tk'' hv' hk'' => ?_⟩
        · exact (Heap.get?_update_other _ _ (fun h : S = b => hSf (by rw [h]; exact hbf))).trans e
        · exact hR v' h'' tk'' hv' fun b o hbw hbS e => hk'' b o hbw hbS ((Heap.get?_update_other _ _ (Ne.symm hbS)).trans (hk' b o hbw e))
      · rw [decide_eq_false hb]
        simp only [Bool.false_eq_true, if_false]
        refine wpAny_bind (wpAny_letGo ?_)
        rw [hname]
        refine wpAny_pure ⟨plainId_quiet PySem.F.plain_max_loop _, ih (i + 1) _ (by omega) hlt hst' ⟨_, .inr ⟨m, t, by simp [mxOf, em, hb], hS'⟩⟩ fun v' h'' tk'' hv' hk'' => ?_⟩
        exact hR v' h'' tk'' hv' fun b o hbw hbS e => hk'' b o hbw hbS (hk' b o hbw e)
end
section
variable {prog : Program} {w : World} {A : Around} {E : Value → Shared → Prop} {s : Shared}
theorem args_max_dflt (a v : Value) : argsOk "max" ⟨[a], [(Str.ofString "default", v)]⟩ := by unfold argsOk; kernel_rfl
theorem call_max_dflt {x dv : Value} {Q : Value → Shared → Prop}
    (h : wpAny (model prog w) A.in1 (pyIter x) (fun it s₂ => ∃ I fp wr n P St f, it = .ref I ∧ Walks prog w A.in1 I fp wr n P St ∧ St 0 s₂.heap ∧ (∀ b ∈ fp, b < s₂.heap.objs.size) ∧ (∀ i v, P i v → ∃ t, v = .int (f i) t) ∧
      ∀ v h' tk, (match mxOf f n with | none => v = dv | some m => ∃ t, v = .int m t) → (∀ b o, b ∉ wr → s₂.heap.get? b = some o → h'.get? b = some o) → Q v { s₂ with heap := h', toks := tk }) E s) :
    wpAny (model prog w) A (call (.builtin "max") [x] [(Str.ofString "default", dv)]) Q E s := by
  have hname : (toString "max" ++ toString ".loop" : String) = "max.loop" := by decide
  refine PyProof.Rows.kmk_tree PySem.F.kind_max PySem.F.plain_max PySem.F.entry_max (args_max_dflt _ _) ?_
  show wpAny _ A.in1 (Builtin.Builtins.bindParams "max" ["key", "default"] 0 ⟨[], [(Str.ofString "default", dv)]⟩ >>= _) _ _ s
  refine wpAny_bind (wpAny_of_eq (show Builtin.Builtins.bindParams "max" ["key", "default"] 0 ⟨[], [(Str.ofString "default", dv)]⟩ = pure [none, some dv] from rfl) ?_)
  refine wpAny_bind (wpAny_pure ?_)
  refine wpAny_bind (wpAny_mono h (fun it s₂ h₂ => ?_) fun _ _ e => e)
  obtain ⟨I, fp, wr, n, P, St, f, rfl, W, hst, hfp, hv, hQ⟩ := h₂
  refine wpAny_bind (wpAny_newObj_type ?_)
  have hSf : s₂.heap.objs.size ∉ fp := fun hm => Nat.lt_irrefl _ (hfp _ hm)
  rw [hname]
  refine wpAny_pure ⟨plainId_quiet PySem.F.plain_max_loop _, max_loop W f hv _ ⟨_, dv, rfl⟩ s₂.heap.objs.size hSf n 0 _ (Nat.sub_zero _) (Nat.zero_le _) (W.frame _ _ _ hst fun b _ o e => Heap.get?_push_of_some _ e) ⟨_, .inl ⟨rfl, Heap.get?_push_size _ rfl⟩⟩ fun v h' tk hP hk => ?_⟩
  refine hQ v h' tk ?_ fun b o hbw e => hk b o hbw (Nat.ne_of_lt (Heap.lt_size e)) (Heap.get?_push_of_some _ e)
  cases em : mxOf f n with
  | none =>
    rw [em] at hP
    obtain ⟨nm, e⟩ := hP
    simp only [Option.toList, List.map_cons, List.map_nil, List.cons.injEq, Prod.mk.injEq, and_true] at e
    exact e.2.symm
  | some m =>
    rw [em] at hP
    exact hP
end

/-! ### d.values() of a dict with tuple keys; its greatest -/
def valuesO (p d : Addr) : HO := .ext fun h => h.IsValuesView p d
theorem valuesO_ok {P : Program} {w : World} {H : Hp} {h : Heap} {p d : Addr} (e : h.get? p = some { cls := .type "dict_values", data := .fields #[.ref d] }) : ObjOk P w H h p (valuesO p d) :=
  ⟨⟨_, e, rfl, rfl⟩, ⟨_, e⟩, fun h1 h2 x k => let ⟨o, ho, r⟩ := x; ⟨o, k o ho, r⟩⟩
section
variable {X : Cx}
theorem raw_of {pins : List (Addr × Obj)} {σ : L2.St} {H : Hp} {s : Shared} {a : Addr} {kvs : List (List Key × V)} (I : Inv X pins σ H s) (ha : H a = some (.dT kvs)) :
    (a == sysModules) = false ∧ ∃ (es : Array DictEntry) (ep : Nat), s.heap.DictRaw a es ep ∧ es.size = kvs.length ∧ ∀ (i : Nat) (hi : i < es.size), ∃ k v, kvs[i]? = some (k, v) ∧ RelV v es[i].val := by
  obtain ⟨z, hd, xs, rel, o, es, ep, ho, hx, hdat, hes, _, _⟩ := dt_of I.hok ha
  have hl : es.size = xs.length := by
    have q := congrArg List.length hes
    rw [Array.length_toList, List.length_map] at q
    exact q
  have hl2 : kvs.length = xs.length := Paired.length rel
  refine ⟨hd, es, ep, ⟨o, ho, hx, hdat⟩, hl.trans hl2.symm, fun i hi => ?_⟩
  have get : ∀ {kvs : List (List Key × V)} {xs : List (List Key × Addr × Value)} (_ : KT H kvs xs) (i : Nat) (y : List Key × Addr × Value), xs[i]? = some y → ∃ v, kvs[i]? = some (y.1, v) ∧ RelV v y.2.2 := by
    intro kvs xs r
    induction r with
    | nil => intro i y e; simp at e
    | cons hh t ih =>
      intro i y e
      cases i with
      | zero =>
        cases (Option.some.inj (show some _ = some y from e))
        exact ⟨_, congrArg some (Prod.ext hh.1 rfl), hh.2.2⟩
      | succ i => exact ih i y e
  have hx' : i < xs.length := hl ▸ hi
  obtain ⟨v, e1, e2⟩ := get rel i xs[i] (List.getElem?_eq_getElem hx')
  have ev : es[i].val = (xs[i]).2.2 := by
    have q : es.toList[i]? = (xs.map (entryOfKey (tupleKind (mixKind X.prog X.w))))[i]? := by rw [hes]
    rw [Array.getElem?_toList, List.getElem?_map, List.getElem?_eq_getElem hx', Array.getElem?_eq_getElem hi] at q
    have q := Option.some.inj q
    rw [q] <;> rfl
  exact ⟨_, v, e1, by rw [ev]; exact e2⟩
def rValuesT : V → List V → Hp → VK → Prop := fun x xs H Q => ∃ (a : Addr) (kvs : List (List Key × V)), x = .ref a ∧ xs = [] ∧ H a = some (.dT kvs) ∧ ∀ p, H p = none → Q (.ref p) (upd H p (valuesO p a))
theorem mt_valuesT : MtR X "dict.values" rValuesT := by
  intro pins s σ H x xs v us Q I rx rxs h
  obtain ⟨a, kvs, rfl, rfl, ha, q⟩ := h
  cases rx
  cases rxs
  obtain ⟨hd, es, ep, hr, _⟩ := raw_of I ha
  refine call_meetsIn F.slot_dict_values hr.typeIs F.entry_dict_values (F.args_dict_values_1 _) (meets_dict_values_raw a hd) ⟨⟨es, ep, hr⟩, ?_⟩
  exact ⟨.ref s.heap.objs.size, upd H s.heap.objs.size (valuesO s.heap.objs.size a), I.laid (t' := s.toks) (fun b u e => Heap.get?_push_of_some _ e) (Nat.le_refl _) (valuesO_ok (Heap.get?_push_size _ rfl)), rfl, q _ (I.hok.fresh (Nat.le_refl _))⟩
/-- what a view's walk asks and gives -/
theorem view_walk {pins : List (Addr × Obj)} {σ : L2.St} {H : Hp} {s : Shared} {p a : Addr} {kvs : List (List Key × V)} {is : List Int} {A : Around} {E : Value → Shared → Prop} (hh : A.handled = none) (I : Inv X pins σ H s) (hp : H p = some (valuesO p a)) (ha : H a = some (.dT kvs))
    (hi : kvs.map (·.2) = is.map V.int) {Q : Value → Shared → Prop}
    (h : ∀ I fp wr P St s₂ n, n = is.length → Walks X.prog X.w A I fp wr n P St → St 0 s₂.heap → (∀ b ∈ fp, b < s₂.heap.objs.size) → (∀ i v, P i v → ∃ t, v = .int (is.getD i 0) t) → (∀ b o, s.heap.get? b = some o → s₂.heap.get? b = some o ∧ b ∉ wr) →
      (∃ h₂, s₂ = { s with heap := h₂ }) → Q (.ref I) s₂) : wpAny (model X.prog X.w) A (pyIter (.ref p)) Q E s := by
  obtain ⟨hd, es, ep, hr, hz, hv⟩ := raw_of I ha
  have hpv : s.heap.IsValuesView p a := (I.hok p _ hp).1
  have hlt : a < s.heap.objs.size := let ⟨_, o, _⟩ := hr; Heap.lt_size o
  have hlen : kvs.length = is.length := by
    have q := congrArg List.length hi
    rwa [List.length_map, List.length_map] at q
  refine wpAny_pyIter_values_raw hpv hr ?_
  generalize ho : ({ cls := .type "dict_valueiterator", data := .fields #[.ref a, .int 0 0, .int es.size 0, .int ep 0] } : Obj) = o1
  have W := Walks.rawValues (prog := X.prog) (w := X.w) hh s.heap.objs.size a (Nat.ne_of_lt hlt) es ep
  have g1 : (s.heap.push o1).get? s.heap.objs.size = some o1 := Heap.get?_push_size _ (by rw [← ho] <;> rfl)
  refine h s.heap.objs.size [s.heap.objs.size, a] [s.heap.objs.size] _ _ _ _ (hz.trans hlen) W ⟨?_, hr.at fun o e => Heap.get?_push_of_some _ e⟩ (fun b hb => ?_) (fun i v hP => ?_) (fun b o e => ⟨Heap.get?_push_of_some _ e, fun z => ?_⟩) ⟨_, rfl⟩
  · exact ⟨o1, g1, by rw [← ho] <;> rfl, by rw [← ho] <;> rfl⟩
  · show b < (s.heap.push o1).objs.size
    rw [Heap.size_push]
    rcases List.mem_cons.mp hb with z | z
    · rw [z]; exact Nat.lt_succ_self _
    · rw [List.mem_singleton.mp z]; exact Nat.lt_succ_of_lt hlt
  · obtain ⟨hi', rfl⟩ := hP
    obtain ⟨k, v, e1, e2⟩ := hv i hi'
    have e3 : (kvs.map (·.2))[i]? = some v := by rw [List.getElem?_map, e1] <;> rfl
    rw [hi, List.getElem?_map] at e3
    obtain ⟨j, hj, e4⟩ := Option.map_eq_some_iff.mp e3
    subst e4
    obtain ⟨t, e5⟩ := e2
    exact ⟨t, by rw [e5, List.getD_eq_getElem?_getD, hj] <;> rfl⟩
  · exact absurd (Heap.lt_size e) (by rw [List.mem_singleton.mp z]; exact Nat.lt_irrefl _)
def IsMax (is : List Int) (m : Int) : Prop := m ∈ is ∧ ∀ j ∈ is, j ≤ m
def rMaxV : List V → Hp → VK → Prop := fun vs H Q => ∃ (p a : Addr) (kvs : List (List Key × V)) (is : List Int), vs = [.ref p] ∧ H p = some (valuesO p a) ∧ H a = some (.dT kvs) ∧ kvs.map (·.2) = is.map V.int ∧ is ≠ [] ∧ ∀ m, IsMax is m → Q (.int m) H
theorem cr_maxV (hc : X.calm = true) : CallR X (.builtin "max") rMaxV := by
  intro pins s σ H vs us Q I r h
  obtain ⟨p, a, kvs, is, rfl, hp, ha, hi, hne, q⟩ := h
  rw [Vals.ref1 r]
  refine call_max_walk (view_walk (A := X.A.in1) (show X.A.in1.handled = none from I.ok.hd hc) I hp ha hi fun It fp wr P St s₂ n en W st hfp hv k es2 => ?_)
  have hl : 0 < is.length := List.length_pos_iff.mpr hne
  subst en
  refine ⟨It, fp, wr, is.length, P, St, _, rfl, W, st, hfp, hl, CmpOf.ints_gt (fun i => is.getD i 0) hv, fun v h' tk hP hk => ?_⟩
  obtain ⟨t, rfl⟩ := hv _ v hP
  obtain ⟨h₂, rfl⟩ := es2
  obtain ⟨b1, b2⟩ := argBest_gt (fun i => is.getD i 0) (is.length - 1)
  have hb : argBest (fun i j => decide (is.getD i 0 > is.getD j 0)) (is.length - 1) < is.length := by omega
  refine ⟨.int _, H, I.kept (t' := tk) fun b u e => hk b u (k b u e).2 (k b u e).1, ⟨t, rfl⟩, q _ ⟨?_, fun j hj => ?_⟩⟩
  · rw [List.getD_eq_getElem?_getD, List.getElem?_eq_getElem hb]
    exact List.getElem_mem hb
  · obtain ⟨i, hi, e⟩ := List.mem_iff_getElem.mp hj
    have e2 : is.getD i 0 = j := by rw [List.getD_eq_getElem?_getD, List.getElem?_eq_getElem hi, ← e] <;> rfl
    rw [← e2]
    exact b2 i (by omega)
/-- max(d.values(), default=e) -/
def rMaxVD : List V → List V → Hp → VK → Prop := fun vs zs H Q => ∃ (p a : Addr) (kvs : List (List Key × V)) (is : List Int) (d : V), vs = [.ref p] ∧ zs = [d] ∧ H p = some (valuesO p a) ∧ H a = some (.dT kvs) ∧ kvs.map (·.2) = is.map V.int ∧ (is = [] → Q d H) ∧ ∀ m, IsMax is m → Q (.int m) H
theorem crk_maxV (hc : X.calm = true) : CallRK X (.builtin "max") [Str.ofString "default"] rMaxVD := by
  intro pins s σ H vs zs us ws Q I r rz h
  obtain ⟨p, a, kvs, is, d, rfl, rfl, hp, ha, hi, q0, q⟩ := h
  rw [Vals.ref1 r]
  cases rz with
  | cons rd rt =>
    cases rt
    rename_i dv
    refine call_max_dflt (view_walk (A := X.A.in1) (show X.A.in1.handled = none from I.ok.hd hc) I hp ha hi fun It fp wr P St s₂ n en W st hfp hv k es2 => ?_)
    subst en
    refine ⟨It, fp, wr, is.length, P, St, fun i => is.getD i 0, rfl, W, st, hfp, hv, fun v h' tk hP hk => ?_⟩
    obtain ⟨h₂, rfl⟩ := es2
    have J : Inv X pins σ H { s with heap := h', toks := tk } := I.kept (t' := tk) fun b u e => hk b u (k b u e).2 (k b u e).1
    rcases mxOf_spec (fun i => is.getD i 0) is.length with ⟨e0, em⟩ | ⟨m, em, ⟨i, hi', ei⟩, hb⟩
    · rw [em] at hP
      subst hP
      exact ⟨d, H, J, rd, q0 (List.length_eq_zero_iff.mp e0)⟩
    · rw [em] at hP
      obtain ⟨t, rfl⟩ := hP
      refine ⟨.int m, H, J, ⟨t, rfl⟩, q m ⟨?_, fun j hj => ?_⟩⟩
      · rw [← ei, List.getD_eq_getElem?_getD, List.getElem?_eq_getElem hi']
        exact List.getElem_mem hi'
      · obtain ⟨i2, hi2, e⟩ := List.mem_iff_getElem.mp hj
        have e2 : is.getD i2 0 = j := by rw [List.getD_eq_getElem?_getD, List.getElem?_eq_getElem hi2, ← e] <;> rfl
        rw [← e2]
        exact hb i2 hi2

/-! ### a store into a dict, as one of several targets -/
theorem set_dict (hu : X.A.units + 1 < cLine) : PSet X (fun o i v H Q => ∃ (a : Addr) (H' : Hp), o = .ref a ∧ DPut H a i v H' ∧ Q H') := by
  intro pins s σ H o i v ov iv u Q I ro ri rv h
  obtain ⟨a, H', rfl, put, q⟩ := h
  cases ro
  exact d_setItem hu I put ri rv fun s' I' => ⟨H', I', q⟩
end
end Mv
/-! set and sorted of a tuple of tuples of ints. -/
namespace Mv
open PySem PySem.Spec PyProof.Rows L2
section
variable {P : Program} {w : World} {A : Around} {E : Value → Shared → Prop} {s : Shared}
set_option maxHeartbeats 6400000 in
theorem call_set_tupsU {l : Addr} {items : Array Value} (ks : List (Addr × List Int)) {Q : Value → Shared → Prop} (hh : A.handled = none) (hl : s.heap.IsTuple l items) (hit : items.toList = ks.map fun p => Value.ref p.1)
    (hk : ∀ p ∈ ks, IsT P w s.heap p.2 p.1) (hfew : ks.length < 64) (hu : A.units + 3 < cLine)
    (h : ∀ (h' : Heap) (tk : Nat) L es ep t, SetTR P w h' s.heap.objs.size L es ep t → Got ks ks.length L → (∀ b o, s.heap.get? b = some o → h'.get? b = some o) → Q (.ref s.heap.objs.size) { s with heap := h', toks := tk }) :
    wpAny (model P w) A (call (.type "set") [.ref l]) Q E s := by
  have hisz : items.size = ks.length := by
    have q := congrArg List.length hit
    rw [Array.length_toList, List.length_map] at q
    exact q
  obtain ⟨c, tl, hmro⟩ := F.called_set.mro
  have hmade := F.called_set.made
  have hsub := F.called_set.sub
  refine wpAny_call (codeAny_of_tree ?_)
  show wpAny _ _ (callAny (.type "set") _) _ _ _
  refine wpAny_pure ⟨Code.quiet_builtin _ (by decide +kernel), codeAny_builtin F.entry_type_call ?_⟩
  rw [Around.under_plain (weight_type_call_type "set" [.ref l] []) rfl]
  have h1 := F.called_set.notType
  have h2 := F.called_set.canCreate
  have hct := F.typeCall_set_1 (.ref l)
  repeat (any_goals (first | assumption | wp_step))

  refine codeAny_mono (code_set_led1 (.ref l) (E := E) (Q₁ := fun obj s₁ => obj = .ref s.heap.objs.size ∧ s₁ = { s with heap := s.heap.push { cls := .type "set", dict := none, data := .set #[] 0 (.fresh 0 0 (!w.params.followText "set-order")) } }) ⟨rfl, rfl⟩) fun r s₁ hr => ?_
  cases r with
  | error e => exact hr
  | ok fl =>
    cases fl with
    | ret obj =>
      obtain ⟨rfl, rfl⟩ := hr
      have hS : (s.heap.push { cls := .type "set", dict := none, data := .set #[] 0 (.fresh 0 0 (!w.params.followText "set-order")) }).get? s.heap.objs.size = some { cls := .type "set", dict := none, data := .set #[] 0 (.fresh 0 0 (!w.params.followText "set-order")) } := Heap.get?_push_size _ rfl
      have hT : Shared.TypeIs { s with heap := s.heap.push { cls := .type "set", dict := none, data := .set #[] 0 (.fresh 0 0 (!w.params.followText "set-order")) } } (.ref s.heap.objs.size) "set" := ⟨_, hS, rfl⟩
      have hli := F.called_set.init.lookup
      have hbi := F.called_set.init.bind (.ref s.heap.objs.size)
      repeat (any_goals (first | assumption | wp_step))

      refine codeAny_mono (codeAny_call_builtin (R := wants (fun r s₂ => r = .none ∧ ∃ h' tk L es ep t, s₂ = { s with heap := h', toks := tk } ∧ SetTR P w h' s.heap.objs.size L es ep t ∧ Got ks ks.length L ∧
          (∀ b o, s.heap.get? b = some o → h'.get? b = some o)) E) F.called_set.init.plain F.entry_set_init (check_set_init_1 hT ?_)) fun r₂ s₂ hr₂ => ?_
      · obtain ⟨ol, hol, hcl, nl, hdl⟩ := hl
        obtain ⟨ocls, odict, odata, oslots⟩ := ol
        simp only at hcl hdl
        subst hcl; subst hdl
        have hol' : (s.heap.push { cls := .type "set", dict := none, data := .set #[] 0 (.fresh 0 0 (!w.params.followText "set-order")) }).get? l = some { cls := .type "tuple", dict := odict, data := .seq items nl, slots := oslots } := Heap.get?_push_of_some _ hol
        have hsls := F.sub_tuple_set
        have hslf := F.sub_tuple_frozenset
        have hne : (Value.type "tuple" == Value.type "dict") = false := by decide
        have hl1 : (s.heap.push { cls := .type "set", dict := none, data := .set #[] 0 (.fresh 0 0 (!w.params.followText "set-order")) }).IsTuple l items := ⟨_, hol', rfl, nl, rfl⟩
        unfold Builtin.«set.__init__» noKeywords Builtin.Frozenset.updateFrom
        generalize hPI : pyIter = PI
        wp_walk
        subst hPI

        refine wpAny_pyIter_tuple hl1 ?_
        refine wpAny_bind (wpAny_runValue ?_)
        have hlS : l < s.heap.objs.size := Heap.lt_size hol
        have hh3 : A.in1.in1.in1.handled = none := by simp [hh]
        have hz1 : (s.heap.push { cls := .type "set", dict := none, data := .set #[] 0 (.fresh 0 0 (!w.params.followText "set-order")) }).objs.size = s.heap.objs.size + 1 := Heap.size_push ..
        have hneI : l ≠ (s.heap.push { cls := .type "set", dict := none, data := .set #[] 0 (.fresh 0 0 (!w.params.followText "set-order")) }).objs.size := by
          rw [Heap.size_push]; exact Nat.ne_of_lt (Nat.lt_succ_of_lt hlS)
        have hSf : s.heap.objs.size ∉ [(s.heap.push { cls := .type "set", dict := none, data := .set #[] 0 (.fresh 0 0 (!w.params.followText "set-order")) }).objs.size, l] := by
          rw [Heap.size_push]; simp only [List.mem_cons, List.mem_singleton, List.not_mem_nil, or_false, not_or]
          exact ⟨Nat.ne_of_lt (Nat.lt_succ_self _), Nat.ne_of_gt hlS⟩
        have hval : ∀ (i : Nat) (v : Value), items[i]? = some v → ∃ p, ks[i]? = some p ∧ v = .ref p.1 := fun i v hv => by
          have q : items.toList[i]? = some v := by rw [Array.getElem?_toList]; exact hv
          rw [hit, List.getElem?_map] at q
          cases hq : ks[i]? with
          | none => rw [hq] at q; cases q
          | some p =>
            rw [hq] at q
            exact ⟨p, rfl, (Option.some.inj q).symm⟩
        have none_of : ∀ b, s.heap.objs.size ≤ b → s.heap.get? b = none := fun b hb => by
          cases q : s.heap.get? b with
          | none => rfl
          | some o => exact absurd (Nat.lt_of_lt_of_le (Heap.lt_size q) hb) (Nat.lt_irrefl _)
        refine set_update_tups ((Walks.tuple hh3 _ l hneI items).toS) s.heap.objs.size
          hSf ks hisz hfew hval s.heap hk (none_of _ (Nat.le_refl _)) (fun b hb => none_of b (by
            rw [List.mem_singleton.mp hb, Heap.size_push]
            exact Nat.le_succ _)) hu (items.size - 0) 0 _ (by omega) (Nat.zero_le _)
          ⟨⟨_, Heap.get?_push_size _ rfl, rfl, rfl⟩, (hl1.push _)⟩ (fun b o e => Heap.get?_push_of_some _ (Heap.get?_push_of_some _ e)) ?hS0 ?hR
        case hS0 =>
          have hget : ((s.heap.push { cls := .type "set", dict := none, data := .set #[] 0 (.fresh 0 0 (!w.params.followText "set-order")) }).push { cls := .type "tuple_iterator", data := .fields #[.ref l, .int 0 0] }).get? s.heap.objs.size
              = some { cls := .type "set", dict := none, data := .set #[] 0 (.fresh 0 0 (!w.params.followText "set-order")) } := Heap.get?_push_of_some _ hS
          exact ⟨[], #[], 0, _, setTR_fresh hget, Got.zero ks⟩
        case hR =>
          intro s' L es ep t hm hS' g' hkp
          obtain ⟨h', g2, d', tk', os'⟩ := s'
          have eg : g2 = s.gens := hm.gens
          have ed : d' = s.drawn := hm.drawn
          have eo : os' = s.os := hm.os
          subst eg; subst ed; subst eo
          show wpAny _ _ _ _ _ _
          refine wpAny_pure ?_
          show wpAny _ _ (ret Value.none) _ _ _
          rw [hisz] at g'
          exact wpAny_pure ⟨rfl, h', tk', L, es, ep, t, rfl, hS', g', hkp⟩

      · cases r₂ with
        | error e => exact hr₂
        | ok fl₂ =>
          cases fl₂ with
          | ret r =>
            obtain ⟨rfl, h', tk, L, es, ep, t, rfl, hS', g', hk'⟩ := hr₂
            repeat (any_goals (first | assumption | wp_step))
            exact h _ _ _ _ _ _ hS' g' hk'
          | _ => exact hr₂.elim
    | _ => exact hr.elim
end
section
variable {X : Cx}
/-- set(xs), xs a tuple of tuples of ints -/
def rSetOfTU (K : PySem.W.Frag) (P : Program) (w : World) : List V → Hp → VK → Prop := fun xs H Q => ∃ (l : Addr) (ks : List (Addr × List Int)), xs = [V.ref l] ∧ SqT K H l (ks.map fun p => V.ref p.1) ∧ (∀ p ∈ ks, SqT K H p.1 (p.2.map V.int)) ∧ ks.length < 64 ∧
  ∀ a L, H a = none → (∀ p ∈ L, p ∈ ks) → (∀ p ∈ ks, p.2 ∈ L.map (·.2)) → Q (.ref a) (upd H a (SetTO P w a L))
theorem cr_setOfTU (hc : X.calm = true) (hu : X.A.units + 64 < cLine) : CallR X (.type "set") (rSetOfTU X.K X.prog X.w) := by
  intro pins s σ H xs us Q I r h
  obtain ⟨l, ks, rfl, hl, hk, hf, q⟩ := h
  rw [Vals.ref1 r]
  obtain ⟨its, rv, pl, hz⟩ := I.tuple hl
  have pl : s.heap.IsTuple l its.toArray := pl
  have hn : H s.heap.objs.size = none := I.hok.fresh (Nat.le_refl _)
  refine call_set_tupsU (P := X.prog) (w := X.w) ks (I.ok.hd hc) pl (by simpa using refs_of_vals rv) (fun p hp => I.isT (hk p hp)) hf (by omega) fun h' tk L es ep t R g k => ?_
  refine ⟨.ref s.heap.objs.size, upd H s.heap.objs.size (SetTO X.prog X.w s.heap.objs.size L), I.laid (t' := tk) k (Nat.le_refl _) (setTO_new R.t0), rfl, q _ L hn (fun p hp => ?_) fun p hp => ?_⟩
  · exact List.mem_of_mem_take (g.sub p hp)
  · exact g.all p (by rw [List.take_length]; exact hp)
end
end Mv
/-! sorted of a tuple of tuples of ints; sum of lists; a tuple once. -/
namespace Mv
open PySem PySem.Spec PyProof.Rows L2
section
variable {prog : Program} {w : World} {A : Around} {E : Value → Shared → Prop} {s : Shared}
theorem collect_tup {l : Addr} {vs : List Value} {Q : List Value → Shared → Prop} (hl : s.heap.IsTuple l vs.toArray)
    (h : Q vs { s with heap := (s.heap.push (seqObj "list" #[] 0)).update s.heap.objs.size (Obj.mapSeq (· ++ vs.toArray)) }) (hsz : vs.length ≤ sizeLine := by size_fits) :
    wpAny (model prog w) A (collect (.ref l)) Q E s := by
  obtain ⟨o, ho, hc, n, hd⟩ := id hl
  unfold collect
  refine wpAny_bind (wpAny_runValue (codeAny_builtin entry_proto_collect' ?_))
  show wpAny _ _ (do again (.builtin "list.__iadd__" ⟨[← newList [], .ref l], []⟩)) _ _ s
  refine wpAny_bind (wpAny_newList (wpAny_pure ⟨Code.quiet_builtin _ (by decide +kernel), codeAny_builtin entry_list_iadd' ?_⟩))
  show wpAny _ _ (Builtin.List.listExtendWith (.ref s.heap.objs.size) (.ref l) (.ref s.heap.objs.size)) _ _ { s with heap := s.heap.push (seqObj "list" #[] 0) }
  unfold Builtin.List.listExtendWith
  have ho' : (s.heap.push (seqObj "list" #[] 0)).get? l = some o := Heap.get?_push_of_some _ ho
  refine wpAny_bind (wpAny_typeOf (T := "tuple") ⟨o, ho', hc⟩ ?_)
  have ht : (Value.type "tuple" == Value.type "tuple") = true := by rfl
  rw [if_pos (by rw [ht]; simp)]
  refine wpAny_bind (listItems_at ho' hd ?_)
  refine wpAny_bind (listItems_at (xs := #[]) (n := 0) (Heap.get?_push_size _ rfl) rfl ?_)
  rw [if_neg (by simp)]
  refine wpAny_bind (listUpdate_at (xs := #[]) (n := 0) (Heap.get?_push_size _ rfl) rfl ?_ (Nat.zero_le _) (by show (#[] ++ vs.toArray).size ≤ sizeLine + 1; simp only [Array.size_append, List.size_toArray, List.length_nil]; omega))
  refine wpAny_pure ?_
  show wpAny (model prog w) A (do
      let o ← load s.heap.objs.size
      match o.data with
      | .seq xs _ => pure xs.toList
      | _ => unsupported "internal:collect") Q E { s with heap := (s.heap.push (seqObj "list" #[] 0)).update s.heap.objs.size (Obj.mapSeq (· ++ vs.toArray)) }
  refine wpAny_bind (wpAny_load (get?_update_seq (Heap.get?_push_size _ rfl) _) ?_)
  show wpAny _ _ (pure ((#[] : Array Value) ++ vs.toArray).toList) Q E _
  rw [show ((#[] : Array Value) ++ vs.toArray).toList = vs by simp]
  exact wpAny_pure h
theorem sorted_tupsU {l : Addr} {vs : List Value} {d : Nat} {B : Int} {Q : Value → Shared → Prop} (hl : s.heap.IsTuple l vs.toArray) (h64 : vs.length < 64) (hd : 1 ≤ d) (x : TS.TupsOk s.heap d B vs)
    (h : ∀ out : Array Value, out.toList.Perm vs → out.toList.Pairwise (fun u v => TS.code B (TS.intsOf s.heap u) ≤ TS.code B (TS.intsOf s.heap v)) → Q (.ref (s.heap.objs.size + 1)) { s with heap := sortedAll s.heap vs out }) :
    wpAny (model prog w) A (call (.builtin "sorted") [.ref l]) Q E s := by
  refine Calls.call_function_entry kind_sorted plain_sorted entry_sorted (args_sorted1 _) ?_
  unfold Builtin.«sorted»
  refine wpAny_bind (m := checkCount "sorted" 1 1 _) (wpAny_pure ?_)
  refine wpAny_bind (collect_tup hl ?_ (by rw [sizeLine_eq]; omega))
  refine wpAny_bind (wpAny_newList ?_ (by rw [sizeLine_eq]; omega))
  have hsz : ((s.heap.push (seqObj "list" #[] 0)).update s.heap.objs.size (Obj.mapSeq (· ++ vs.toArray))).objs.size = s.heap.objs.size + 1 := by
    rw [Heap.size_update, size_push']
  have hoL : (((s.heap.push (seqObj "list" #[] 0)).update s.heap.objs.size (Obj.mapSeq (· ++ vs.toArray))).push (seqObj "list" vs.toArray 0)).get? (s.heap.objs.size + 1) = some (seqObj "list" vs.toArray 0) := by
    rw [← hsz]; exact Heap.get?_push_size _ rfl
  have keep : ∀ b o, s.heap.get? b = some o → o.cls = .type "tuple" → (((s.heap.push (seqObj "list" #[] 0)).update s.heap.objs.size (Obj.mapSeq (· ++ vs.toArray))).push (seqObj "list" vs.toArray 0)).get? b = some o := fun b o q _ => by
    have hlt : b < s.heap.objs.size := Heap.lt_size q
    rw [Heap.get?_push_ne _ _ _ (by rw [hsz]; exact Nat.ne_of_lt (Nat.lt_succ_of_lt hlt)), Heap.get?_update_ne _ _ _ _ (Nat.ne_of_lt hlt), Heap.get?_push_ne _ _ _ (Nat.ne_of_lt hlt)]
    exact q
  show wpAny _ _ _ _ _ { s with heap := ((s.heap.push (seqObj "list" #[] 0)).update s.heap.objs.size (Obj.mapSeq (· ++ vs.toArray))).push (seqObj "list" vs.toArray 0) }
  rw [hsz]
  refine wpAny_bind (wpAny_holding (wpAny_call_entry slot_list_sort ⟨_, hoL, rfl⟩ entry_list_sort (TS.sort_tups hoL h64 hd (x.keeps keep) (fun v => TS.code B (TS.intsOf s.heap v)) (fun v hv ns t => ?_) fun out a1 a2 => ⟨_, rfl, ?_⟩) (args_list_sort _)))
  · obtain ⟨ns0, t0, _⟩ := x v hv
    have e : ns = ns0 := t.ints.symm.trans (t0.keeps keep).ints
    rw [e]
    show TS.code B (TS.intsOf s.heap v) = TS.code B ns0
    rw [t0.ints]
  · exact wpAny_pure ⟨_, rfl, h out a1 a2⟩

end
section
variable {X : Cx} {pins : List (Addr × Obj)} {σ : L2.St} {H : Hp} {s : Shared}
def rSortUU (K : PySem.W.Frag) (d : Nat) (B : Int) : List V → Hp → VK → Prop := fun vs H Q => ∃ (a : Addr) (xs : List V), vs = [V.ref a] ∧ SqT K H a xs ∧ xs.length < 64 ∧ (∀ x ∈ xs, ∃ ns, TupI K H x ns ∧ ns.length = d ∧ TS.Bd B ns) ∧
  ∀ (ys : List V) (p : Addr), ys.Perm xs → ys.Pairwise (fun x y => ∀ n m, TupI K H x n → TupI K H y m → TS.code B n ≤ TS.code B m) → H p = none → Q (.ref p) (upd H p (.lst ys))
theorem cr_sortTU {d : Nat} {B : Int} (hd : 1 ≤ d) : CallR X (.builtin "sorted") (rSortUU X.K d B) := by
  intro pins s σ H vs us Q I r h
  obtain ⟨a, xs, rfl, hs, h64, hx, q⟩ := h
  obtain ⟨its, rv, hl, hz⟩ := I.tuple hs
  rw [Vals.ref1 r]
  obtain ⟨e1, e2⟩ := bkV_refs rv fun x m => by
    obtain ⟨ns, ⟨t, e, _⟩, _⟩ := hx x m
    exact ⟨t, e⟩
  refine sorted_tupsU (d := d) (B := B) (show s.heap.IsTuple a its.toArray from hl) (by rw [← rv.length]; exact h64) hd (fun v hv => ?_) fun out h1 h2 => ?_
  · obtain ⟨t, rfl⟩ := e2 v hv
    have hm : V.ref t ∈ xs := by
      rw [e1]
      exact List.mem_map.mpr ⟨_, hv, rfl⟩
    obtain ⟨ns, ⟨t', e, ht⟩, hn, hb⟩ := hx _ hm
    cases e
    exact ⟨ns, tupI_raw I ht, hn, hb⟩
  · obtain ⟨ep, he'⟩ := PyProof.Rows.sortedAll_at s.heap its out
    have h3 : ∀ u ∈ out.toList, ∃ a, u = Value.ref a := fun u hu => e2 u (h1.mem_iff.mp hu)
    have hp : (out.toList.map bkV).Perm xs := by
      rw [e1]
      exact h1.map bkV
    have hlen : (out.toList.map bkV).length ≤ sizeLine := by
      rw [hp.length_eq]
      exact hz
    refine ⟨.ref _, upd H (s.heap.objs.size + 1) (.lst (out.toList.map bkV)), I.laid (t' := s.toks) (fun _ _ => PyProof.Rows.sortedAll_old) (Nat.le_succ _) ⟨hlen, out.toList, ep, bkV_vals h3, he'⟩, rfl, q _ _ hp ?_ (I.hok.fresh (Nat.le_succ _))⟩
    rw [List.pairwise_map]
    refine List.Pairwise.imp (fun {u v} huv n m hn hm => ?_) h2
    obtain ⟨t, et, ht⟩ := hn
    obtain ⟨t', et', ht'⟩ := hm
    have eu := bkV_ref et
    have ev := bkV_ref et'
    have i1 : TS.intsOf s.heap u = n := by
      rw [eu]
      exact (tupI_raw I ht).ints
    have i2 : TS.intsOf s.heap v = m := by
      rw [ev]
      exact (tupI_raw I ht').ints
    rw [← i1, ← i2]
    exact huv

end
/-! ### sum(xs, ys) of lists -/
section
variable {prog : Program} {w : World} {A : Around} {E : Value → Shared → Prop}
theorem args_sum2 (a b : Value) : argsOk "sum" ⟨[a, b], []⟩ := by unfold argsOk; kernel_rfl
def flat (ls : List (Addr × List Value)) : List Value := (ls.map (·.2)).flatten
theorem sum_loopL {R : Result → Shared → Prop} (hh : A.in1.handled = none) (I ax S : Addr) (h0 : Heap) (ls : List (Addr × List Value)) (hI0 : h0.get? I = none) (hS0 : h0.get? S = none) (hax : ∃ o, h0.get? ax = some o) (hIS : I ≠ S)
    (hl : ∀ p ∈ ls, ∃ c, IsL h0 p.1 p.2.toArray c) (items : Array Value) (hit : items.toList = ls.map fun p => Value.ref p.1) :
    ∀ (k i : Nat) (s : Shared) (t : Addr) (acc : List Value) (c cc : Nat), ls.length - i = k → i ≤ ls.length → s.heap.IsListIter I ax i → s.heap.IsList ax items → (∀ b o, h0.get? b = some o → s.heap.get? b = some o) → h0.objs.size ≤ s.heap.objs.size →
      IsL s.heap S #[.ref t] cc → IsL s.heap t acc.toArray c → t ≠ I → t ≠ S → acc.length + (flat (ls.drop i)).length ≤ sizeLine →
      (∀ h' tk t' c', (∀ b o, h0.get? b = some o → h'.get? b = some o) → (i = ls.length → t' = t) → (i < ls.length → h0.objs.size ≤ t') → IsL h' t' (acc ++ flat (ls.drop i)).toArray c' → R (.ok (.ret (.ref t'))) { s with heap := h', toks := tk }) →
      codeAny (model prog w) A (.builtin "sum.loop" ⟨[.ref I, .ref S, rawInt 2, rawInt 0], []⟩) R s := by
  obtain ⟨oax, hax⟩ := hax
  have nai : ax ≠ I := fun e => by rw [e, hI0] at hax; cases hax
  have nas : ax ≠ S := fun e => by rw [e, hS0] at hax; cases hax
  have hn : items.size = ls.length := by
    have q := congrArg List.length hit
    rwa [Array.length_toList, List.length_map] at q
  intro k
  induction k with
  | zero =>
    intro i s t acc c cc hk hi hst hax' hkp hsz hS ht h1 h2 hz hR
    have hin : i = ls.length := by omega
    refine codeAny_builtin F.entry_sum_loop ?_
    rw [Around.under_plainId F.plain_sum_loop _]
    show wpAny _ A.in1 (seqItems? (.ref S) >>= _) _ _ s
    refine wpAny_bind (wpAny_seqItems hS rfl ?_)
    show wpAny _ A.in1 (tryCatch (pyNext (.ref I)) _ >>= _) _ _ s
    refine wpAny_bind (wpAny_tryCatch (wpAny_pyNext_list_end hh hst hax' (Array.getElem?_eq_none (by rw [hn]; omega)) fun h' he' => ?_))
    refine wpAny_pure (hR h' s.toks t c (fun b o e => (he' b o (fun z => by rw [z, hI0] at e; cases e) (hkp b o e))) (fun _ => rfl) (fun z => absurd z (by omega)) ?_)
    have e0 : flat (ls.drop i) = [] := by rw [hin, List.drop_length] <;> rfl
    rw [e0, List.append_nil]
    exact he' t _ h1 ht
  | succ k ih =>
    intro i s t acc c cc hk hi hst hax' hkp hsz hS ht h1 h2 hz hR
    have hlt : i < ls.length := by omega
    obtain ⟨p, hp⟩ : ∃ p, ls[i]? = some p := ⟨ls[i], List.getElem?_eq_getElem hlt⟩
    have hx : items[i]? = some (Value.ref p.1) := by
      rw [← Array.getElem?_toList, hit, List.getElem?_map, hp] <;> rfl
    obtain ⟨cp, hlp⟩ := hl p (List.mem_of_getElem? hp)
    have nps : p.1 ≠ S := fun e => by
      have q : h0.get? p.1 = some _ := hlp
      rw [e, hS0] at q; cases q
    have npi : p.1 ≠ I := fun e => by
      have q : h0.get? p.1 = some _ := hlp
      rw [e, hI0] at q; cases q
    have ed : ls.drop i = p :: ls.drop (i + 1) := by
      rw [List.drop_eq_getElem_cons hlt]
      congr 1
      rw [List.getElem?_eq_getElem hlt] at hp
      exact Option.some.inj hp
    have ef : flat (ls.drop i) = p.2 ++ flat (ls.drop (i + 1)) := by rw [ed] <;> rfl
    refine codeAny_builtin F.entry_sum_loop ?_
    rw [Around.under_plainId F.plain_sum_loop _]
    show wpAny _ A.in1 (seqItems? (.ref S) >>= _) _ _ s
    refine wpAny_bind (wpAny_seqItems hS rfl ?_)
    show wpAny _ A.in1 (tryCatch (pyNext (.ref I)) _ >>= _) _ _ s
    refine wpAny_bind (wpAny_tryCatch (wpAny_pyNext_list_item hst hax' hx fun h1' hit' hs' => ?_))
    have hs1 := hs'.extBut
    have hS1 : IsL h1' S #[.ref t] cc := hs1 S _ hIS.symm hS
    have ht1 : IsL h1' t acc.toArray c := hs1 t _ h1 ht
    have hk1 : ∀ b o, h0.get? b = some o → h1'.get? b = some o := fun b o e => hs1 b o (fun z => by rw [z, hI0] at e; cases e) (hkp b o e)
    have hsz1 : h0.objs.size ≤ h1'.objs.size := by rw [hs'.1]; exact hsz
    have hp1 : IsL h1' p.1 p.2.toArray cp := hk1 _ _ hlp
    have hax1 : h1'.IsList ax items := by
      obtain ⟨o, ho, r⟩ := hax'
      exact ⟨o, hs1 ax o nai ho, r⟩
    show wpAny _ A.in1 ((holding [Value.ref p.1] (binaryOp .Add (.ref t) (.ref p.1))).attempt >>= _) _ _ _
    have lsz : acc.length + p.2.length ≤ sizeLine := by
      rw [ef, List.length_append] at hz
      omega
    refine wpAny_bind (wpAny_attempt (wpAny_holding (P.add_list (s := { s with heap := h1' }) ht1 hp1 ?_ (by rw [List.size_toArray, List.size_toArray]; exact lsz))))
    have eap : acc.toArray ++ p.2.toArray = (acc ++ p.2).toArray := by simp
    rw [eap]
    have gT : IsL (h1'.push { cls := .type "list", data := .seq (acc ++ p.2).toArray }) h1'.objs.size (acc ++ p.2).toArray 0 := IsL.new _ _
    have lS : S < h1'.objs.size := Heap.lt_size hS1
    have lI : I < h1'.objs.size := let ⟨_, e, _⟩ := hit'; Heap.lt_size e
    have hS2 : IsL (h1'.push { cls := .type "list", data := .seq (acc ++ p.2).toArray }) S #[.ref t] cc := hS1.push _
    show wpAny _ A.in1 (updateSeq S (fun _ => #[.ref h1'.objs.size]) >>= _) _ _ { s with heap := h1'.push { cls := .type "list", data := .seq (acc ++ p.2).toArray } }
    refine wpAny_bind (wpAny_updateSeq hS2 rfl ?_)
    have hS3 := Heap.get?_update_self (Obj.mapSeq fun _ => #[Value.ref h1'.objs.size]) hS2 rfl
    refine wpAny_bind (wpAny_letGo ?_)
    refine wpAny_bind (wpAny_updateSeq hS3 rfl ?_)
    have hS4 := Heap.get?_update_self (Obj.mapSeq fun _ => #[Value.ref h1'.objs.size]) hS3 rfl
    have up : ∀ b o, b ≠ S → h1'.get? b = some o → (((h1'.push { cls := .type "list", data := .seq (acc ++ p.2).toArray }).update S (Obj.mapSeq fun _ => #[Value.ref h1'.objs.size])).update S (Obj.mapSeq fun _ => #[Value.ref h1'.objs.size])).get? b = some o := fun b o hb e =>
      (Heap.get?_update_other _ _ (Ne.symm hb)).trans ((Heap.get?_update_other _ _ (Ne.symm hb)).trans (Heap.get?_push_of_some _ e))
    refine wpAny_pure ⟨plainId_quiet F.plain_sum_loop _, ih (i + 1) _ h1'.objs.size (acc ++ p.2) 0 _ (by omega) hlt (hit'.at fun o e => up I o hIS e) ?_ (fun b o e => up b o (fun z => by rw [z, hS0] at e; cases e) (hk1 b o e)) (by rw [Heap.size_update, Heap.size_update, Heap.size_push]; exact Nat.le_succ_of_le hsz1) hS4 ?_ (Nat.ne_of_gt lI) (Nat.ne_of_gt lS) ?_ fun h' tk t' c' k1 k2 k3 k4 => ?_⟩
    · obtain ⟨o, ho, r⟩ := hax1
      exact ⟨o, up ax o nas ho, r⟩
    · exact (Heap.get?_update_other _ _ (Nat.ne_of_lt lS)).trans ((Heap.get?_update_other _ _ (Nat.ne_of_lt lS)).trans gT)
    · rw [List.length_append]
      rw [ef, List.length_append] at hz
      omega
    · refine hR h' tk t' c' k1 (fun z => absurd z (by omega)) (fun _ => ?_) ?_
      · rcases Nat.lt_or_ge (i + 1) ls.length with z | z
        · exact k3 z
        · rw [k2 (by omega)]
          exact hsz1
      · rw [ef, ← List.append_assoc]
        exact k4
variable {s : Shared}
theorem call_sumLL {l st : Addr} {acc : List Value} {c : Nat} {Q : Value → Shared → Prop} (hh : A.handled = none) (ls : List (Addr × List Value)) (items : Array Value) (hL : s.heap.IsList l items) (hit : items.toList = ls.map fun p => Value.ref p.1)
    (hl : ∀ p ∈ ls, ∃ c, IsL s.heap p.1 p.2.toArray c) (hst : IsL s.heap st acc.toArray c) (hz : acc.length + (flat ls).length ≤ sizeLine)
    (h : ∀ h' tk t' c', (∀ b o, s.heap.get? b = some o → h'.get? b = some o) → (ls = [] → t' = st) → (ls ≠ [] → s.heap.objs.size ≤ t') → IsL h' t' (acc ++ flat ls).toArray c' → Q (.ref t') { s with heap := h', toks := tk }) :
    wpAny (model prog w) A (call (.builtin "sum") [.ref l, .ref st]) Q E s := by
  refine call_function_tree F.kind_sum F.plain_sum F.entry_sum (args_sum2 _ _) ?_
  unfold Builtin.«sum»
  simp only [List.length_cons, List.length_nil]
  rw [if_neg (by decide)]
  refine wpAny_bind (wpAny_of_eq (show Builtin.Builtins.bindParams "sum" ["start"] 0 ⟨[.ref st], []⟩ = pure [some (.ref st)] from rfl) ?_)
  refine wpAny_bind (wpAny_pyIter_list hL ?_)
  refine wpAny_bind (wpAny_pure ?_)
  have oT : Shared.TypeIs { s with heap := s.heap.push { cls := .type "list_iterator", data := .fields #[.ref l, .int 0 0] } } (.ref st) "list" := ⟨_, hst.push _, rfl⟩
  simp only [List.forIn_cons, List.forIn_nil]
  refine wpAny_bind (wpAny_bind (wpAny_bind (wpAny_isInstance (T := "list") (b := false) oT F.sub_list_str ?_)))
  simp only [Bool.false_eq_true, if_false]
  refine wpAny_pure (wpAny_bind (wpAny_bind (wpAny_isInstance (T := "list") (b := false) oT F.sub_list_bytes ?_)))
  simp only [Bool.false_eq_true, if_false]
  refine wpAny_pure (wpAny_bind (wpAny_bind (wpAny_isInstance (T := "list") (b := false) oT F.sub_list_bytearray ?_)))
  simp only [Bool.false_eq_true, if_false]
  refine wpAny_pure (wpAny_pure ?_)
  refine wpAny_bind (wpAny_newObj_type ?_)
  generalize ho : ({ cls := .type "list_iterator", data := .fields #[.ref l, .int 0 0] } : Obj) = oi at oT ⊢
  have hz1 : (s.heap.push oi).objs.size = s.heap.objs.size + 1 := Heap.size_push ..
  have none_of : ∀ b, s.heap.objs.size ≤ b → s.heap.get? b = none := fun b hb => by
    cases q : s.heap.get? b with
    | none => rfl
    | some o => exact absurd (Nat.lt_of_lt_of_le (Heap.lt_size q) hb) (Nat.lt_irrefl _)
  have gi : (s.heap.push oi).get? s.heap.objs.size = some oi := Heap.get?_push_size _ (by rw [← ho] <;> rfl)
  have hlt : st < s.heap.objs.size := Heap.lt_size hst
  refine wpAny_pure ⟨plainId_quiet F.plain_sum_loop _, sum_loopL (show A.in1.handled = none by simpa using hh) s.heap.objs.size l (s.heap.push oi).objs.size s.heap ls (none_of _ (Nat.le_refl _)) (none_of _ (by rw [hz1]; exact Nat.le_succ _)) (let ⟨o, e, _⟩ := hL; ⟨o, e⟩) (by rw [hz1]; exact Nat.ne_of_lt (Nat.lt_succ_self _)) hl items hit
    ls.length 0 _ st acc c 0 rfl (Nat.zero_le _) ⟨oi, Heap.get?_push_of_some _ gi, by rw [← ho] <;> rfl, by rw [← ho] <;> rfl⟩ (let ⟨o, e, r⟩ := hL; ⟨o, Heap.get?_push_of_some _ (Heap.get?_push_of_some _ e), r⟩) (fun b o e => Heap.get?_push_of_some _ (Heap.get?_push_of_some _ e))
    (by rw [Heap.size_push, Heap.size_push]; omega) (Heap.get?_push_size _ rfl) ((hst.push _).push _) (Nat.ne_of_lt hlt) (by rw [hz1]; exact Nat.ne_of_lt (Nat.lt_succ_of_lt hlt)) (by rw [List.drop_zero]; exact hz) fun h' tk t' c' k1 k2 k3 k4 => ?_⟩
  rw [List.drop_zero] at k4
  exact h h' tk t' c' k1 (fun e => k2 (by rw [e] <;> rfl)) (fun e => k3 (List.length_pos_iff.mpr e)) k4
end
section
variable {X : Cx}
/-- sum(xss, ys) of a list of lists: ys itself where xss is empty, else a new list -/
def rSumL : List V → Hp → VK → Prop := fun vs H Q => ∃ (l st : Addr) (ls : List (Addr × List V)) (ys : List V), vs = [.ref l, .ref st] ∧ H l = some (.lst (ls.map fun p => V.ref p.1)) ∧ (∀ p ∈ ls, H p.1 = some (.lst p.2)) ∧ H st = some (.lst ys) ∧ ys.length + (ls.map (·.2)).flatten.length ≤ sizeLine ∧
  (ls = [] → Q (.ref st) H) ∧ ∀ p, H p = none → Q (.ref p) (upd H p (.lst (ys ++ (ls.map (·.2)).flatten)))
theorem raw_lists {pins : List (Addr × Obj)} {σ : L2.St} {H : Hp} {s : Shared} (I : Inv X pins σ H s) : ∀ ls : List (Addr × List V), (∀ p ∈ ls, H p.1 = some (.lst p.2)) →
    ∃ rs : List (Addr × List Value), rs.map (·.1) = ls.map (·.1) ∧ (∀ p ∈ rs, ∃ c, IsL s.heap p.1 p.2.toArray c) ∧ Vals (ls.map (·.2)).flatten (flat rs)
  | [], _ => ⟨[], rfl, fun _ h => absurd h (by simp), .nil⟩
  | p :: ls, h => by
    obtain ⟨rs, e1, e2, e3⟩ := raw_lists I ls fun q hq => h q (List.mem_cons_of_mem _ hq)
    obtain ⟨z, its, n, r, hl, e⟩ := I.lstM (h p List.mem_cons_self)
    refine ⟨(p.1, its) :: rs, by rw [List.map_cons, List.map_cons, e1], fun q hq => ?_, r.append e3⟩
    rcases List.mem_cons.mp hq with z | z
    · subst z
      exact ⟨n, e⟩
    · exact e2 q z
theorem cr_sumL (hc : X.calm = true) : CallR X (.builtin "sum") rSumL := by
  intro pins s σ H vs us Q I r h
  obtain ⟨l, st, ls, ys, rfl, hl, hls, hst, hz, q0, q⟩ := h
  cases r with
  | cons r1 rt =>
  cases rt with
  | cons r2 rt =>
  cases rt
  cases r1
  cases r2
  obtain ⟨rs, e1, e2, e3⟩ := raw_lists I ls hls
  obtain ⟨z, its, n, rv, hlen, e⟩ := I.lstM hl
  obtain ⟨z2, its2, n2, rv2, hlen2, eS⟩ := I.lstM hst
  have hits : its = rs.map fun p => Value.ref p.1 := by
    have a : Vals ((rs.map (·.1)).map V.ref) its := by
      rw [e1, List.map_map]
      exact rv
    have : ∀ (as : List Addr) (us : List Value), Vals (as.map V.ref) us → us = as.map Value.ref := by
      intro as
      induction as with
      | nil => intro us h; cases h; rfl
      | cons a as ih =>
        intro us h
        cases h with
        | cons r t =>
          cases r
          rw [ih _ t] <;> rfl
    rw [this _ _ a, List.map_map] <;> rfl
  have hf : (flat rs).length = (ls.map (·.2)).flatten.length := e3.length.symm
  refine call_sumLL (I.ok.hd hc) rs its.toArray (IsL.isList e) (by simpa using hits) e2 eS (by rw [← hlen2, hf]; exact hz) fun h' tk t' c' k1 k2 k3 k4 => ?_
  have J : Inv X pins σ H { s with heap := h', toks := tk } := I.kept (t' := tk) k1
  rcases Classical.em (ls = []) with z | z
  · have zr : rs = [] := by
      have := congrArg List.length e1
      rw [z] at this
      exact List.eq_nil_of_length_eq_zero (by simpa using this)
    rw [k2 zr]
    exact ⟨.ref st, H, J, rfl, q0 z⟩
  · have zr : rs ≠ [] := fun q => z (by
      have := congrArg List.length e1
      rw [q] at this
      exact List.eq_nil_of_length_eq_zero (by simpa using this.symm))
    have k5 := k3 zr
    refine ⟨.ref t', _, I.laid (t' := tk) (o := .lst (ys ++ (ls.map (·.2)).flatten)) k1 k5 ⟨by rw [List.length_append]; exact hz, _, c', rv2.append e3, k4⟩, rfl, q _ (I.hok.fresh k5)⟩
end
end Mv
/-! A tuple times one; a dict of pairs with tuple keys. -/
namespace Mv
open PySem PySem.Spec PyProof.Rows L2
theorem tuple_mul1 (l : Addr) (items : Array Value) (n : Nat) (dd : Option Addr) (sl : Array (Option Value)) (u : Tok) :
    Meets (Builtin.«tuple.__mul__» ⟨[.ref l, .int 1 u], []⟩) (fun _ R s => s.heap.get? l = some { cls := .type "tuple", dict := dd, data := .seq items n, slots := sl } ∧ R (.ok (.ret (Value.ref l))) { s with toks := s.toks }) :=
  .of_wp fun prog w A R s h => by
    obtain ⟨hp, g, d, tk, os⟩ := s
    obtain ⟨hl, h⟩ := h
    have f1 := AutoSeq1.idx_int
    have c0 : ¬ (decide ((1 : Int) < -(2 ^ 63)) || decide ((1 : Int) ≥ 2 ^ 63)) = true := by decide
    have c1 : (items.isEmpty || (1 : Int) == 1) = true := by simp
    wp_walk using AutoSeq1.wpAny_loadPart' hl
    repeat (first
      | (refine wpAny_ite_false (decide_eq_false c0) ?_; wp_walk using AutoSeq1.wpAny_loadPart' hl)
      | (refine wpAny_ite_true (decide_eq_true c1) ?_; wp_walk using AutoSeq1.wpAny_loadPart' hl))
    exact ⟨_, rfl, h⟩
/-- a tuple times a small count: the very tuple where it is 1 -/
def rRepU (K : PySem.W.Frag) : R2 := fun x y H Q => ∃ l k xs, x = .ref l ∧ y = .int k ∧ SqT K H l xs ∧ xs ≠ [] ∧ 1 ≤ k ∧ k ≤ 1000 ∧ xs.length ≤ 1000 ∧ (k = 1 → Q (.ref l) H) ∧ (k ≠ 1 → ∀ p, H p = none → Q (.ref p) (upd H p (.tup (List.replicate k.toNat xs).flatten)))
section
variable {X : Cx}
theorem op_repU : OpR X (binaryOp .Mult) (rRepU X.K) := by
  intro pins s σ H x y v u Q I rx ry h
  obtain ⟨l, k, xs, rfl, rfl, hT, hne, h1, h2, hz, q1, q2⟩ := h
  by_cases e : k = 1
  · subst e
    cases rx
    obtain ⟨t, rfl⟩ := ry
    obtain ⟨its, r, ⟨⟨cls, dd, data, sl⟩, ho, hc, n, hd⟩, hs⟩ := I.tuple hT
    simp only at hc hd
    subst hc hd
    refine wpAny_binaryOp_repeat_ref (T := "tuple") (U := "int") (by decide) ⟨_, ho, rfl⟩ (fun s' => typeIs_int s' 1 t) noFill_tuple_mul F.fills_int_mul F.slot_int_rmul repeat_tuple F.slot_int_index.lookup
      (call_meets F.slot_int_rmul (typeIs_int s 1 t) F.entry_int_rmul (F.args_int_rmul_2 _ _) (int_rmul_tuple 1 t l its.toArray n dd sl)
        ⟨ho, rfl, ⟨_, ho, rfl⟩, call_meets F.slot_tuple_mul ⟨_, ho, rfl⟩ F.entry_tuple_mul (F.args_tuple_mul_2 _ _) (tuple_mul1 l its.toArray n dd sl t) ⟨ho, ?_⟩⟩)
    exact ⟨.ref l, H, I, rfl, q1 rfl⟩
  · exact op_repT pins s σ H _ _ _ _ Q I rx ry ⟨l, k, xs, rfl, rfl, hT, hne, by omega, h2, hz, q2 e⟩

/-! ### dict(pairs), the keys tuples -/
theorem raw_pairs {pins : List (Addr × Obj)} {σ : L2.St} {H : Hp} {s : Shared} (I : Inv X pins σ H s) : ∀ ps : List (Addr × List Key × Addr × V), (∀ p ∈ ps, H p.1 = some (.tup [.ref p.2.2.1, p.2.2.2])) →
    ∃ rs : List (Addr × List Key × Addr × Value), rs.map (fun r => Value.ref r.1) = ps.map (fun p => Value.ref p.1) ∧ (∀ r ∈ rs, s.heap.IsTuple r.1 #[.ref r.2.2.1, r.2.2.2]) ∧
      Paired (fun (p : Addr × List Key × Addr × V) (r : Addr × List Key × Addr × Value) => p.1 = r.1 ∧ p.2.1 = r.2.1 ∧ p.2.2.1 = r.2.2.1 ∧ RelV p.2.2.2 r.2.2.2) ps rs
  | [], _ => ⟨[], rfl, fun _ h => absurd h (by simp), .nil⟩
  | p :: ps, h => by
    obtain ⟨rs, e1, e2, e3⟩ := raw_pairs I ps fun q hq => h q (List.mem_cons_of_mem _ hq)
    obtain ⟨its, rv, pl, _⟩ := I.tuple (xs := [.ref p.2.2.1, p.2.2.2]) (.inl (.inl (h p List.mem_cons_self)))
    cases rv with
    | cons r1 rt =>
    cases rt with
    | cons r2 rt =>
    cases rt
    cases r1
    rename_i u2
    refine ⟨(p.1, p.2.1, p.2.2.1, u2) :: rs, by rw [List.map_cons, List.map_cons, e1], fun q hq => ?_, .cons ⟨rfl, rfl, rfl, r2⟩ e3⟩
    rcases List.mem_cons.mp hq with z | z
    · subst z
      exact pl
    · exact e2 q z
def rDictPT : List V → Hp → VK → Prop := fun vs H Q => ∃ (l : Addr) (ps : List (Addr × List Key × Addr × V)), vs = [.ref l] ∧ H l = some (.lst (ps.map fun p => V.ref p.1)) ∧ (∀ p ∈ ps, H p.1 = some (.tup [.ref p.2.2.1, p.2.2.2])) ∧ (∀ p ∈ ps, H p.2.2.1 = some (.tup (p.2.1.map kV))) ∧
  ∀ d, H d = none → Q (.ref d) (upd H d (.dT (ps.foldl (fun acc p => putK acc p.2.1 p.2.2.2) [])))
theorem kt_fold {H : Hp} : ∀ {ps : List (Addr × List Key × Addr × V)} {rs : List (Addr × List Key × Addr × Value)} {kvs : List (List Key × V)} {xs : List (List Key × Addr × Value)},
    Paired (fun (p : Addr × List Key × Addr × V) (r : Addr × List Key × Addr × Value) => p.1 = r.1 ∧ p.2.1 = r.2.1 ∧ p.2.2.1 = r.2.2.1 ∧ RelV p.2.2.2 r.2.2.2) ps rs → (∀ p ∈ ps, H p.2.2.1 = some (.tup (p.2.1.map kV))) → KT H kvs xs →
    KT H (ps.foldl (fun acc p => putK acc p.2.1 p.2.2.2) kvs) (storedAllH xs (rs.map fun r => r.2))
  | _, _, _, _, .nil, _, r => r
  | _, _, _, _, .cons (a := p) (b := q) (l₁ := ps) (l₂ := rs) h t, hk, r => by
    obtain ⟨h1, h2, h3, h4⟩ := h
    have z := KT.put r p.2.1 (hk p List.mem_cons_self) h4
    rw [h2, h3] at z
    have w := kt_fold t (fun x hx => hk x (List.mem_cons_of_mem _ hx)) z
    show KT H (ps.foldl _ (putK _ p.2.1 p.2.2.2)) (storedAllH (storedH _ q.2.1 q.2.2.1 q.2.2.2) (rs.map fun r => r.2))
    rw [h2]
    exact w
theorem paired_at {α β : Type} {F : α → β → Prop} : ∀ {xs : List α} {ys : List β}, Paired F xs ys → ∀ (i : Nat) (y : β), ys[i]? = some y → ∃ x, xs[i]? = some x ∧ F x y
  | _, _, .nil, i, y, h => by simp at h
  | _, _, .cons (a := a) h t, 0, y, e => by
    cases (Option.some.inj (show some _ = some y from e))
    exact ⟨a, rfl, h⟩
  | _, _, .cons h t, i + 1, y, e => paired_at t i y e
theorem cr_dictPT (hc : X.calm = true) (hu : X.A.units + 64 < cLine) : CallR X (.type "dict") rDictPT := by
  intro pins s σ H vs us Q I r h
  obtain ⟨l, ps, rfl, hl, hp, hk, q⟩ := h
  rw [Vals.ref1 r]
  obtain ⟨rs, e1, e2, e3⟩ := raw_pairs I ps hp
  obtain ⟨z, its, n, rv, hlen, e⟩ := I.lstM hl
  have refs : ∀ (as : List Addr) (us : List Value), Vals (as.map V.ref) us → us = as.map Value.ref := by
    intro as
    induction as with
    | nil => intro us h; cases h; rfl
    | cons a as ih =>
      intro us h
      cases h with
      | cons r t =>
        cases r
        rw [ih _ t] <;> rfl
  have hits : its = rs.map fun p => Value.ref p.1 := by
    rw [e1]
    have := refs (ps.map (·.1)) its (by rw [List.map_map]; exact rv)
    rw [this, List.map_map] <;> rfl
  have hpl : ps.length = rs.length := Paired.length e3
  have key : ∀ r ∈ rs, H r.2.2.1 = some (.tup (r.2.1.map kV)) := by
    intro r hr
    obtain ⟨i, hi, ei⟩ := List.mem_iff_getElem.mp hr
    obtain ⟨p, hpi, h1, h2, h3, h4⟩ := paired_at e3 i r (by rw [List.getElem?_eq_getElem hi, ei])
    rw [← h3, ← h2]
    exact hk p (List.mem_of_getElem? hpi)
  have hraw : (rs.map fun r => (Value.ref r.2.2.1, r.2.2.2)).length = rs.length := List.length_map _
  have zlen : rs.length ≤ sizeLine := by
    rw [List.length_map] at z
    omega
  refine call_dict_pairsH (knd := tupleKind (mixKind X.prog X.w)) (ps := rs.map fun r => r.2) (PairArg.list l its.toArray (fun j => (rs.getD j default).1) (rs.map fun r => (Value.ref r.2.2.1, r.2.2.2))) (I.ok.hd hc) (show X.A.units + 2 < cLine by omega) ⟨⟨_, n, e, rfl, rfl, rfl⟩, ?_, ?_⟩ ⟨by rw [List.length_map, List.length_map], ?_⟩ ?_ (by rw [hraw]; exact zlen) fun h' tk hd' hk' => ?_
  · rw [hits, List.size_toArray, List.length_map, List.length_map]
  · intro j k v hj
    rw [List.getElem?_map] at hj
    obtain ⟨r, hr, er⟩ := Option.map_eq_some_iff.mp hj
    have ed : rs.getD j default = r := by rw [List.getD_eq_getElem?_getD, hr] <;> rfl
    cases er
    show its.toArray[j]? = some (Value.ref (rs.getD j default).1) ∧ PairAt s.heap (rs.getD j default).1 _ _
    rw [ed]
    refine ⟨?_, .inl (e2 r (List.mem_of_getElem? hr))⟩
    rw [hits, List.getElem?_toArray, List.getElem?_map, hr] <;> rfl
  · intro i kk v hi
    have hi : (rs.map fun r => (Value.ref r.2.2.1, r.2.2.2))[i]? = some (kk, v) := hi
    rw [List.getElem?_map] at hi
    obtain ⟨r, hr, er⟩ := Option.map_eq_some_iff.mp hi
    cases er
    exact ⟨r.2.1, r.2.2.1, by rw [List.getElem?_map, hr] <;> rfl, rfl⟩
  · intro h' hk' x hx
    obtain ⟨r, hr, rfl⟩ := List.mem_map.mp hx
    have hkey := key_of I.hok (key r hr)
    refine tupleKind_stays.stays (fun b o vs n hb hd => hk' b o (Nat.ne_of_lt (Heap.lt_size hb)) (by simp) hb) hkey
  · have rel : KT H (ps.foldl (fun acc p => putK acc p.2.1 p.2.2.2) []) (storedAllH [] (rs.map fun r => r.2)) := kt_fold e3 hk .nil
    have keep : ∀ b o, s.heap.get? b = some o → h'.get? b = some o := fun b o e => hk' b o (by simp) e
    have hn : H s.heap.objs.size = none := I.hok.fresh (Nat.le_refl _)
    have hl2 : (ps.foldl (fun acc p => putK acc p.2.1 p.2.2.2) ([] : List (List Key × V))).length ≤ sizeLine := by
      have a := Paired.length rel
      have b := storedAllH_length (rs.map fun r => r.2) ([] : List (List Key × Addr × Value))
      rw [List.length_map, List.length_nil] at b
      omega
    obtain ⟨o, es, ep, ho, h2, h3, h4, _, h5⟩ := hd'
    refine ⟨.ref s.heap.objs.size, _, I.laid (t' := tk) (o := .dT (ps.foldl (fun acc p => putK acc p.2.1 p.2.2.2) [])) keep (Nat.le_refl _) ⟨hl2, beq_eq_false_iff_ne.mpr (Ne.symm (Nat.ne_of_lt I.big)), _, rel.keeps fun c ys ec => ?_, o, es, ep, ho, h2, h3, h4, h5⟩, rfl, q _ hn⟩
    exact (upd_ne (fun z => by rw [z, hn] at ec; cases ec)).trans ec
end
end Mv
/-! Defs of which one knows that nothing is being written out when they are called. -/
namespace Mv
open PySem PySem.Spec PyProof.Rows L2
structure FnG (P : Program) (w : World) (K : PySem.W.Frag) (mg : Str → Option Value) (base : Heap) (CX : CXT) (k : Nat) (f : Addr) (fd : FuncData) (ps : List Str) (sp : Sp) : Prop where
  len : ∀ vs H Q E, sp vs H Q E → vs.length = ps.length
  run : ∀ (A : Around) (outer : List Env) (s : Shared) (H : Hp) (args : Args) (us : List Value) (vs : List V) (Q : VK) (E : XK), A.guards = some [] → Room k A → Env0 P w K mg base A outer s H → BindsTo s fd args (ps.zip us) → Vals vs us → sp vs H Q E →
    codeAny (model P w) A (.call (.ref f) args) (CR CX outer P w H s Q E) s
theorem fn_ofG {CX : CXT} {P : Program} {w : World} {K : PySem.W.Frag} {mg : Str → Option Value} {base : Heap} {k : Nat} {f : Addr} {name qual : Str} {params : Arguments} {body : List Stmt} {scope : Scope} {dV kV doc pm cdv ct oc : Value} {an od : Option Addr}
    {osl : Array (Option Value)} {N ps : List Str} {sp : Sp} (lk : K.lookup f = some ⟨oc, od, .func (PySem.W.fnOf name qual params body scope dV kV doc pm an cdv ct), osl⟩) (hcd : PySem.W.codeIn K cdv qual = true) (S : FnScope N ps scope)
    (len : ∀ vs H Q E, sp vs H Q E → vs.length = ps.length)
    (hbody : ∀ (A : Around) (outer : List Env) (s : Shared) (H : Hp) (vs : List V) (Q : VK) (E : XK), A.guards = some [] → Room k (A.deeper (envOfC qual scope s.heap.objs.size f cdv)) → sp vs H Q E →
      ∃ t, PSs (cxOf CX P w K mg base N qual scope f cdv A outer s H E) body t ∧ t { nx := fun _ H' => Q .non H', rt := Q } (start N vs) H) :
    FnG P w K mg base CX (k + 1) f (PySem.W.fnOf name qual params body scope dV kV doc pm an cdv ct) ps sp := by
  refine ⟨len, fun A outer s H args us vs Q E hgd hr e0 hb r hsp => ?_⟩
  have hl := len _ _ _ _ hsp
  have KX : K.In s.heap := e0.mod.kin.keeps fun b o e => (e0.bs b o e).1
  have lim : s.heap.NoLimit := e0.mod.nolimit.keeps fun b o e => (e0.bs b o e).1
  have hkind : ∀ y ∈ ps.zip us, scope.names.lookup y.1 = some .local ∨ (scope.names.lookup y.1 = some .cell ∧ ((cellsFrom (s.heap.objs.size + 1) scope.names []).lookup y.1).isSome = true) := fun ⟨n, v⟩ hy => by
    rcases S.par n (List.of_mem_zip hy).1 with q | q
    · exact .inl q
    · exact .inr ⟨q, PySem.W.cellsFrom_some _ _ _ (.inl q)⟩
  refine codeAny_call_function hr.depth (KX _ _ lk) rfl S.co S.gen rfl (PySem.W.codeRec_of KX hcd) (hb _ _ _ _ ?_)
  refine wpAny_newFunctionEnv_cells S.kind hkind fun env he s1 x => ?_
  subst he
  refine ⟨lim.keeps x.toInCall.keep, codeAny_func ?_⟩
  obtain ⟨t, ht, hq⟩ := hbody A outer s H vs Q E hgd (hr.deeper _) hsp
  have I : Inv (cxOf CX P w K mg base N qual scope f cdv A outer s H E) [] (start N vs) H s1 := inv_start S hr.hd e0 hl r x
  refine wpAny_mono (ht.run [] s1 (start N vs) H _ I hq) (fun fl s' hs => ?_) fun e s' hs => hs
  have fin : ∀ {σ' : L2.St} {H' : Hp} {v : V} {u : Value}, Inv (cxOf CX P w K mg base N qual scope f cdv A outer s H E) [] σ' H' s' → RelV v u → Q v H' → CE outer P w H s Q u s' :=
    fun {σ' H' v u} J rv q => ⟨v, H', J.os, J.bare, J.base, J.hok, rv, q⟩
  cases fl with
  | ret u =>
    obtain ⟨v, σ', H', J, rv, q⟩ := hs
    exact fin J rv q
  | next =>
    obtain ⟨σ', H', J, q⟩ := hs
    exact fin (v := V.non) (u := Value.none) J rfl q
  | brk =>
    obtain ⟨_, _, _, q⟩ := hs
    exact False.elim q
  | cont =>
    obtain ⟨_, _, _, q⟩ := hs
    exact False.elim q

section
variable {X : Cx} {CX : CXT} {k : Nat} {f C : Addr} {fd : FuncData} {ps : List Str} {sp : Sp} {dvs : List V} {ds : List Value} {E : XK} {x m : Str} {p pos apos : Pos} {e o : Expr} {es : List Expr} {ta : TE} {t : TA}
theorem run_fnG {pins : List (Addr × Obj)} {σ : L2.St} {H : Hp} {s : Shared} {Q : VK} {us : List Value} {vs : List V} (F : FnG X.prog X.w X.K X.mg X.base CX k f fd ps sp) (hgd : X.A.guards = some []) (hr : Room k X.A) (hb : Binds X.K fd ps ds) (hd : Vals dvs ds) (hx : Passes CX X E)
    (I : Inv X pins σ H s) (r : Vals vs us) (h : sp (vs ++ dvs) H Q E) : wpAny (model X.prog X.w) X.A (call (.ref f) us) (EP X pins σ Q) X.xe s := by
  have r2 : Vals (vs ++ dvs) (us ++ ds) := r.append hd
  have hl : (us ++ ds).length = ps.length := by rw [← r2.length]; exact F.len _ _ _ _ h
  refine wpAny_call (codeAny_mono (F.run X.A X.stack s H ⟨us, []⟩ (us ++ ds) (vs ++ dvs) Q E hgd hr I.env0 (hb s us I.kIn hl) r2 h) fun r s' hq => ?_)
  cases r with
  | error e => exact hx pins σ H s e s' I hq
  | ok fl =>
    cases fl with
    | ret u => exact I.after hq
    | next => exact False.elim hq
    | brk => exact False.elim hq
    | cont => exact False.elim hq
theorem pe_callG (F : FnG X.prog X.w X.K X.mg X.base CX k f fd ps sp) (hgd : X.A.guards = some []) (hr : Room k X.A) (hg : Gl X x) (hm : X.mg x = some (.ref f)) (hk : PySem.W.keepIn X.K (.ref f) = true) (hb : Binds X.K fd ps ds) (hd : Vals dvs ds) (hx : Passes CX X E)
    (ha : PA X (e :: es) t) (hdb : (x == ("__debug__" : Str)) = false := by decide) (he : starEach (e :: es) X.env = (false, eval e X.env) :: starEach es X.env := by rfl) (hpl : (backTo pos (starEach es X.env)).any (·.1) = false := by rfl) :
    PE X (.Call (.Name x p) (e :: es) [] pos) (tCall sp dvs E t) := by
  refine ⟨fun pins s σ H Q I h => ?_⟩
  refine wpAny_Call_Name_kw (ld_glob I hg hm ?_ hdb)
  refine PySem.W.callWith_K (h₀ := X.base) I.ok.mod.kin hk (thn (ha.run pos pins s σ H _ I h) fun us s1 ⟨vs, H1, I1, r, q⟩ => ⟨I1.kIn, ?_⟩) he hpl
  exact run_fnG F hgd hr hb hd hx I1 r q
end
theorem law_callG {P : Program} {w : World} {K : PySem.W.Frag} {mg mb : Str → Option Value} {CX : CXT} {k : Nat} {fa a : Addr} {fd : FuncData} {x : Str} {sp : Sp} {s₁ : Shared} {vs : List Value} {ns : List Int}
    (KX : K.In s₁.heap) (hns : s₁.heap.Ns mainGlobals mg) (hb : s₁.heap.Ns builtinsNs mb) (hbb : ∀ x : Str, x ≠ "__name__" → mb x = bootBuiltins x) (hlim : s₁.heap.NoLimit) (hg : s₁.gens = #[])
    (ha : s₁.heap.get? a = some { cls := .type "list", data := .seq vs.toArray }) (hi : IntsAre vs ns) (hl : ns.length ≤ sizeLine) (hr : Room k callerA)
    (F : ∀ base : Heap, K.In base → base.Ns mainGlobals mg → FnG P w K mg base CX k fa fd [x] sp) (hbind : ∀ (s : Shared) (u : Value), BindsTo s fd ⟨[u], []⟩ [(x, u)])
    (hsp : ∀ H : Hp, Only H → SqL K H a (ns.map V.int) → sp [.ref a] H (fun v _ => v = .bl true) fun _ _ _ => False)
    (hCX : ∀ H e s', CX [] H s₁ (fun _ _ _ => False) e s' → False) :
    codeAny (model P w) callerA (.call (.ref fa) ⟨[.ref a], []⟩) (fun r s' => r = .ok (.ret (.bool true)) ∧ OldK s₁.heap s'.heap ∧ s'.os = s₁.os ∧ AllBare s'.gens) s₁ := by
  have rv := vals_ints hi
  have lenV := hi.length
  have core : ∀ H : Hp, Only H → SqL K H a (ns.map V.int) → HOk P w H s₁.heap → (∀ b, H b ≠ none → b = a) → (H a ≠ none → K.lookup a = none) →
      codeAny (model P w) callerA (.call (.ref fa) ⟨[.ref a], []⟩) (fun r s' => r = .ok (.ret (.bool true)) ∧ OldK s₁.heap s'.heap ∧ s'.os = s₁.os ∧ AllBare s'.gens) s₁ := by
    intro H hO hS hok hA hK
    have base_of : ∀ {b : Addr} {o : Obj}, s₁.heap.get? b = some o → H b = none → (hidT s₁.heap H).get? b = some o := fun e n => hidT_get e n
    have noA : ∀ {b : Addr} {o : Obj} {es : Array DictEntry} {ep : Nat}, s₁.heap.get? b = some o → o.data = .dict es ep → H b = none := fun {b o es ep} e d => by
      cases q : H b with
      | none => rfl
      | some u =>
        have e' : b = a := hA b (by rw [q]; simp)
        subst e'
        rw [ha] at e; cases e
        have d' : Data.seq vs.toArray _ = Data.dict es ep := d
        cases d'
    have nsK : ∀ {b : Addr} {m : Str → Option Value}, s₁.heap.Ns b m → (hidT s₁.heap H).Ns b m := fun {b m} ⟨o, es, ep, e, d, r⟩ => ⟨o, es, ep, base_of e (noA e d), d, r⟩
    have hKb : K.In (hidT s₁.heap H) := fun b o e => base_of (KX b o e) (by
      cases q : H b with
      | none => rfl
      | some u =>
        have e' : b = a := hA b (by rw [q]; simp)
        subst e'
        rw [hK (by rw [q]; simp)] at e; cases e)
    have hM : Mod K mg (hidT s₁.heap H) := ⟨hKb, nsK hns, ⟨mb, nsK hb, hbb⟩, let ⟨mc, h1, h2⟩ := hlim; ⟨mc, nsK h1, h2⟩⟩
    have e0 : Env0 P w K mg (hidT s₁.heap H) callerA [] s₁ H := ⟨rfl, hM, fun b o e => of_hidT e, Nat.le_of_eq (hidT_size _ _), trivial, fun b hb => absurd (show b ∈ ([] : List Addr) from hb) (by simp), hok, .of_eq hg⟩
    refine codeAny_mono ((F _ hKb (nsK hns)).run callerA [] s₁ H ⟨[.ref a], []⟩ [.ref a] [.ref a] _ _ rfl hr e0 (hbind s₁ (.ref a)) (.cons rfl .nil) (hsp H hO hS)) fun r s' h => ?_
    cases r with
    | error e => exact (hCX H e s' h).elim
    | ok fl =>
      cases fl with
      | next => exact False.elim h
      | brk => exact False.elim h
      | cont => exact False.elim h
      | ret u =>
        obtain ⟨v, H', os, bare, un, hok', r', q⟩ := h
        have q' : v = .bl true := q
        subst q'
        obtain rfl : u = Value.bool true := r'
        refine ⟨rfl, OldK.of_keep fun b o e => ?_, os, bare⟩
        cases q : H b with
        | none => exact un.keep b o e q (by intro z; exact absurd (show b ∈ ([] : List Addr) from z) (by simp)) (by simp)
        | some u =>
          rcases hO b with z | ⟨ob, xs, z⟩
          · rw [q] at z; cases z
          · have z2 := un.frzs b ob _ z
            obtain ⟨e1, _⟩ := hok b _ z
            obtain ⟨e2, _⟩ := hok' b _ z2
            rw [e] at e1; cases e1
            exact e2
  cases hk : K.lookup a with
  | some o =>
    have e := KX a o hk
    rw [ha] at e
    cases e
    refine core (fun _ => none) (fun _ => .inl rfl) (.inr ⟨_, vs.toArray, _, hk, rfl, rfl, rfl, by rw [List.size_toArray, lenV]; exact hl, by simpa using rv⟩) (fun b u z => by have z' : (none : Option HO) = some u := z; cases z') (fun b z => absurd rfl z) fun z => absurd rfl z
  | none =>
    refine core (fun b => if b = a then some (.frz { cls := .type "list", data := .seq vs.toArray } (.lst (ns.map V.int))) else none) (fun b => ?_) (.inl (.inr ⟨{ cls := .type "list", data := .seq vs.toArray }, if_pos rfl⟩)) (fun b u z => ?_) (fun b z => ?_) fun _ => hk
    · by_cases hb : b = a
      · exact .inr ⟨_, _, if_pos hb⟩
      · exact .inl (if_neg hb)
    · by_cases hb : b = a
      · have z' := (if_pos hb).symm.trans z
        cases z'
        subst hb
        exact ⟨ha, by rw [List.length_map]; exact hl, vs, _, rv, ha⟩
      · have z' := (if_neg hb).symm.trans z
        cases z'
    · by_cases hb : b = a
      · exact hb
      · exact absurd (if_neg hb) z

theorem walk_ofG {l : PySem.W.OpenLaw} {n k : Nat} {q : Program} {loose : List Str} {XP : (Str → Option Value) → Heap → Prop} {YP : World → Heap → Prop} {d : DefRec} {K : Params → PySem.W.Frag} {CX : World → CXT} {sp : World → Sp} {x : Str}
    (hn : l.most = some n) (hn2 : n ≤ sizeLine) (hdf : d.params.defaults = []) (hr : Room k callerA)
    (hY : ∀ (w : World) (h : Heap), YP w h → (K w.params).In h)
    (F : ∀ (w : World) (mg : Str → Option Value) (fa : Addr) (h : Heap), (K w.params).In h → h.Ns mainGlobals mg → mg d.name = some (.ref fa) →
      ∃ fd : FuncData, (∀ (s : Shared) (u : Value), BindsTo s fd ⟨[u], []⟩ [(x, u)]) ∧
        ∀ base : Heap, (K w.params).In base → base.Ns mainGlobals mg → FnG l.prog w (K w.params) mg base (CX w) k fa fd [x] (sp w))
    (hsp : ∀ (w : World) (H : Hp) (a : Addr) (ns : List Int), ns.length ≤ n → Only H → SqL (K w.params) H a (ns.map V.int) → sp w [.ref a] H (fun v _ => v = .bl true) fun _ _ _ => False)
    (hCX : ∀ (w : World) (H : Hp) (s : Shared) (e : Value) (s' : Shared), CX w [] H s (fun _ _ _ => False) e s' → False) :
    PySem.W.WalkO q loose XP YP l.row.toRowW d [] (fun f vs => PySem.call f vs) := by
  refine Att.attach_call hn hdf fun w s₀ s₁ mg mb fa o pm cd doc a vs ns G Y ho hd hcd hmg hobj hints hlen hg => ?_
  have KX := hY w _ Y
  obtain ⟨fd, hb, hF⟩ := F w mg fa _ KX G.T.g hmg
  exact law_callG KX G.T.g G.T.b G.T.builtins G.T.nolimit hg hobj hints (Nat.le_trans hlen hn2) hr hF hb (fun H hO hS => hsp w H a ns hlen hO hS) fun H e s' => hCX w H s₁ e s'

end Mv
/-! Either of list and tuple; what is not reached. -/
namespace Mv
open PySem PySem.Spec PyProof.Rows L2
section
variable {X : Cx}
def iEnumS (K : PySem.W.Frag) (ta : TA) : TI := fun σ H R => iEnum K ta σ H R ∨ iEnumU K ta σ H R
theorem pi_enumS {e : Expr} {ta : TA} {p pos tpos : Pos} {elts : List Expr} {kk : Nat} (hg : Gl X "enumerate") (hm : X.mg "enumerate" = none) (ha : PA X [e] ta) (hs : starEach [e] X.env = [(false, eval e X.env)] := by rfl) :
    PI X (.Tuple elts kk tpos) (.Call (.Name "enumerate" p) [e] [] pos) (iEnumS X.K ta) := pi_either (pi_enum hg hm ha hs) (pi_enumU hg hm ha hs)
def rSetS (K : PySem.W.Frag) (P : Program) (w : World) : List V → Hp → VK → Prop := fun xs H Q => rSetOfT K P w xs H Q ∨ rSetOfTU K P w xs H Q
theorem cr_setS (hc : X.calm = true) (hu : X.A.units + 64 < cLine) : CallR X (.type "set") (rSetS X.K X.prog X.w) := (cr_setOfT hc hu).or (cr_setOfTU hc hu)
def rSortS (K : PySem.W.Frag) (d : Nat) (B : Int) : List V → Hp → VK → Prop := fun xs H Q => rSortU K d B xs H Q ∨ rSortUU K d B xs H Q
theorem cr_sortS {d : Nat} {B : Int} (hd : 1 ≤ d) : CallR X (.builtin "sorted") (rSortS X.K d B) := (cr_sortT hd).or (cr_sortTU hd)
theorem pe_bm0K {K : PySem.W.Frag} (hK : X.K = K) {T id : String} {name : Str} {r : V → List V → Hp → VK → Prop} {o : Expr} {to : TE} {apos cpos : Pos} (pa : PlainAttrs T) (slot : Slot T name id) (hty : typeOf (.builtin id) = pure (.type "method_descriptor")) (hm : MtR X id r) (ho : PE X o to)
    (hbase : attributeBase o name X.env (eval o X.env) = eval o X.env := by rfl) (hline : (apos.endLine == cpos.line) = true := by rfl) : PE X (.Call (.Attribute o name apos) [] [] cpos) (tBM0 K T r to) := by
  subst hK
  exact pe_bm0 pa slot hty hm ho hbase hline
theorem pi_seqK {K : PySem.W.Frag} (hK : X.K = K) {tg l : Expr} {tl : TE} (h : PE X l tl) : PI X tg l (iSeq K tl) := by
  subst hK
  exact pi_seq h
def rTupOf (K : PySem.W.Frag) : List V → Hp → VK → Prop := fun xs H Q => ∃ p ys, xs = [.ref p] ∧ ((SqL K H p ys ∧ ∀ l, H l = none → Q (.ref l) (upd H l (.tup ys))) ∨ (SqT K H p ys ∧ Q (.ref p) H))
theorem ps_dead {st : Stmt} : PS X st (fun _ _ _ => False) := ⟨fun _ _ _ _ _ _ h => h.elim⟩
section
variable {CX : CXT} {k : Nat} {f : Addr} {fd : FuncData} {sp : Sp} {E : XK} {x y : Str} {p pos kpos : Pos} {e : Expr} {te : TE}
/-- f(y = e), the one parameter by its name -/
theorem pe_callK1 (F : FnOk X.prog X.w X.K X.mg X.base CX k f fd [y] sp) (hr : Room k X.A) (hg : Gl X x) (hm : X.mg x = some (.ref f)) (hk : PySem.W.keepIn X.K (.ref f) = true) (hb : ∀ (s : Shared) (u : Value), BindsTo s fd ⟨[], [(y, u)]⟩ [(y, u)]) (hx : Passes CX X E)
    (he : PE X e te) (hdb : (x == ("__debug__" : Str)) = false := by decide) :
    PE X (.Call (.Name x p) [] [⟨some y, e, kpos⟩] pos) (fun σ H Q => te σ H fun v H1 => sp [v] H1 Q E) := by
  refine ⟨fun pins s σ H Q I h => ?_⟩
  refine wpAny_Call_Name_kw (ld_glob I hg hm ?_ hdb)
  refine PySem.W.callWith_KW0 (h₀ := X.base) I.ok.mod.kin hk (by rfl) (thn ((pk_cons (nm := some y) (kpos := kpos) he pk_nil).run pos pins s σ H (fun zs H2 => ∃ v, zs = [v] ∧ sp [v] H2 Q E) I ?_) fun ws s2 ⟨zs, H2, I2, rz, v, ez, q2⟩ => ⟨I2.kIn, ?_⟩)
  · show te σ H _
    have : (fun v H1 => sp [v] H1 Q E) = (fun x H1 => tNil σ H1 fun xs H2 => ∃ v, x :: xs = [v] ∧ sp [v] H2 Q E) := by
      funext v H1
      exact propext ⟨fun h => ⟨v, rfl, h⟩, fun ⟨w, e, h⟩ => by cases e; exact h⟩
    rw [this] at h
    exact h
  · subst ez
    cases rz with
    | cons r1 rt =>
      cases rt
      rename_i w _
      show wpAny _ _ (call (.ref f) [] [(y, w)]) _ _ s2
      refine wpAny_call (codeAny_mono (F.run X.A X.stack s2 H2 ⟨[], [(y, w)]⟩ [w] [v] Q E hr I2.env0 (hb s2 w) (.cons r1 .nil) q2) fun r s' hq => ?_)
      cases r with
      | error e => exact hx pins σ H2 s2 e s' I2 hq
      | ok fl =>
        cases fl with
        | ret u => exact I2.after hq
        | next => exact False.elim hq
        | brk => exact False.elim hq
        | cont => exact False.elim hq
end
end
end Mv
/-! The text by places. -/
namespace Mv
open PySem PySem.Spec PyProof.Rows L2
theorem hu65_of {A : Around} {k : Nat} (hr : Room k A) : A.units + 65 < cLine := by have := hr.un; omega
theorem pi_listK {X : Cx} {K : PySem.W.Frag} (hK : X.K = K) {tg l : Expr} {tl : TE} (h : PE X l tl) : PI X tg l (iList K tl) := by
  subst hK
  exact pi_list h
theorem pe_bmK {X : Cx} {K : PySem.W.Frag} (hK : X.K = K) {T id : String} {name : Str} {r : V → List V → Hp → VK → Prop} {o e : Expr} {es : List Expr} {to : TE} {t : TA} {apos cpos : Pos} (pa : PlainAttrs T) (slot : Slot T name id) (hty : typeOf (.builtin id) = pure (.type "method_descriptor")) (hm : MtR X id r) (ho : PE X o to) (ha : PA X (e :: es) t)
    (hbase : attributeBase o name X.env (eval o X.env) = eval o X.env := by rfl)
    (hfew : ((backTo cpos (starEach (e :: es) X.env)).all (fun x => !x.1) && (backToKw cpos (keywordEach [] X.env)).all (fun x => x.1.isSome)
      && decide ((e :: es).length + ([] : List Keyword).length + (if ([] : List Keyword).isEmpty then 0 else 1) < 30)) = true := by rfl)
    (hline : (apos.endLine == cpos.line) = true := by rfl) (hs : starEach (e :: es) X.env = (false, eval e X.env) :: starEach es X.env := by rfl) (hplain : (backTo cpos (starEach es X.env)).any (·.1) = false := by rfl) :
    PE X (.Call (.Attribute o name apos) (e :: es) [] cpos) (tBM K T r to t) := by
  subst hK
  exact pe_bm pa slot hty hm ho ha hbase hfew hline hs hplain
section
variable {X : Cx} {CX : CXT} {k : Nat} {f : Addr} {fd : FuncData} {ps ks : List Str} {sp : Sp} {E : XK} {x : Str} {p pos : Pos} {kws : List Keyword} {tk : TA} {g : List Value → List Value → List Value} {gV : List V → List V → List V}
/-- f(k = v, ..), no value without a name -/
theorem pe_callK0 (F : FnOk X.prog X.w X.K X.mg X.base CX k f fd ps sp) (hr : Room k X.A) (hg : Gl X x) (hm : X.mg x = some (.ref f)) (hk : PySem.W.keepIn X.K (.ref f) = true) (hb : KBn X.K fd ps 0 ks g gV) (hx : Passes CX X E) (hkw : PK X kws tk)
    (hall : (backToKw pos (keywordEach kws X.env)).all (·.1.isSome) = true := by rfl) (hks : (backToKw pos (keywordEach kws X.env)).filterMap (·.1) = ks := by rfl) (hdb : (x == ("__debug__" : Str)) = false := by decide)
    (hpl : ((backTo pos (starEach [] X.env)).any (·.1) || (backToKw pos (keywordEach kws X.env)).any (·.1.isNone)) = false := by rfl) :
    PE X (.Call (.Name x p) [] kws pos) (tCallN 0 ks.length sp gV E tNil tk) := by
  refine ⟨fun pins s σ H Q I h => ?_⟩
  refine wpAny_Call_Name_kw (ld_glob I hg hm ?_ hdb)
  refine PySem.W.callWith_KW0 (h₀ := X.base) I.ok.mod.kin hk hall ?_ hpl
  refine thn (hkw.run pos pins s σ H _ I h) fun ws s2 ⟨zs, H2, I2, rz, l1, l2, q2⟩ => ⟨I2.kIn, ?_⟩
  rw [hks]
  exact run_fnN (us := []) (vs := []) F hr hb hx I2 .nil rz rfl l2 q2
end
abbrev KRev (K : PySem.W.Frag) (fd : FuncData) (ps : List Str) : Prop := KBn K fd ps 0 ps.reverse (fun _ ws => ws.reverse) (fun _ zs => zs.reverse)
theorem vals_rev {vs : List V} {us : List Value} (h : Vals vs us) : Vals vs.reverse us.reverse := by
  induction h with
  | nil => exact .nil
  | cons h1 h2 ih =>
    rw [List.reverse_cons, List.reverse_cons]
    exact ih.append (.cons h1 .nil)
def top (i : Nat) : Stmt := PySem.Challenge.pw_orderwide_k48_papers_and_plans_forged.main.body.getD i (.Pass ⟨0, 0, 0, 0⟩)
abbrev s_is_integer : Stmt := top 6
abbrev s_is_list : Stmt := top 7
abbrev s_is_row : Stmt := top 8
abbrev s_is_any_row : Stmt := top 13
abbrev s_are_rows : Stmt := top 14
abbrev s_need_rows : Stmt := top 15
abbrev s_need_pair : Stmt := top 16
abbrev s_places_of : Stmt := top 17
abbrev s_piles_of : Stmt := top 18
abbrev s_longest_of : Stmt := top 19
abbrev s_stays : Stmt := top 20
abbrev s_falls : Stmt := top 21
abbrev s_rises_in : Stmt := top 22
abbrev s_check_papers : Stmt := top 23
abbrev s_plan_moves : Stmt := top 24
abbrev s_is_move : Stmt := top 25
abbrev s_are_moves : Stmt := top 26
abbrev s_moved : Stmt := top 27
abbrev s_check_moves : Stmt := top 28
abbrev s__law_cell : Stmt := top 30
abbrev s__law_box : Stmt := top 31
abbrev s__law_take : Stmt := top 32
abbrev s__law_mixed : Stmt := top 33
abbrev s__law_rows : Stmt := top 34
abbrev s__law_other : Stmt := top 35
abbrev s__law_longest : Stmt := top 36
abbrev s__law_rising : Stmt := top 37
abbrev s__law_fits : Stmt := top 38
abbrev s__law_done : Stmt := top 39
abbrev s__law_leads : Stmt := top 40
abbrev s__law_bent : Stmt := top 41
abbrev s__law_parts : Stmt := top 42
abbrev s__law_turned : Stmt := top 43
abbrev s__law_own_right : Stmt := top 44
abbrev s__law_long_right : Stmt := top 45
abbrev s__law_things : Stmt := top 46
abbrev s__law_right : Stmt := top 47
abbrev s_law : Stmt := top 48
abbrev N_is_integer : List Str := ["value", "low", "high"]
theorem sc_is_integer : FnScope N_is_integer ["value", "low", "high"] (defScope s_is_integer) := ⟨rfl, rfl, rfl, by decide +kernel, rfl, by decide +kernel, by decide +kernel⟩
abbrev N_is_list : List Str := ["value"]
theorem sc_is_list : FnScope N_is_list ["value"] (defScope s_is_list) := ⟨rfl, rfl, rfl, by decide +kernel, rfl, by decide +kernel, by decide +kernel⟩
abbrev N_is_row : List Str := ["value", "width", "item"]
theorem sc_is_row : FnScope N_is_row ["value", "width"] (defScope s_is_row) := ⟨rfl, rfl, rfl, by decide +kernel, rfl, by decide +kernel, by decide +kernel⟩
abbrev N_is_any_row : List Str := ["value"]
theorem sc_is_any_row : FnScope N_is_any_row ["value"] (defScope s_is_any_row) := ⟨rfl, rfl, rfl, by decide +kernel, rfl, by decide +kernel, by decide +kernel⟩
abbrev N_are_rows : List Str := ["value", "item"]
theorem sc_are_rows : FnScope N_are_rows ["value"] (defScope s_are_rows) := ⟨rfl, rfl, rfl, by decide +kernel, rfl, by decide +kernel, by decide +kernel⟩
abbrev N_need_rows : List Str := ["value"]
theorem sc_need_rows : FnScope N_need_rows ["value"] (defScope s_need_rows) := ⟨rfl, rfl, rfl, by decide +kernel, rfl, by decide +kernel, by decide +kernel⟩
abbrev N_need_pair : List Str := ["one", "other"]
theorem sc_need_pair : FnScope N_need_pair ["one", "other"] (defScope s_need_pair) := ⟨rfl, rfl, rfl, by decide +kernel, rfl, by decide +kernel, by decide +kernel⟩
abbrev N_places_of : List Str := ["rows", "place", "row"]
theorem sc_places_of : FnScope N_places_of ["rows"] (defScope s_places_of) := ⟨rfl, rfl, rfl, by decide +kernel, rfl, by decide +kernel, by decide +kernel⟩
abbrev N_piles_of : List Str := ["one", "other", "place_of", "piles", "ahead", "row", "low", "high", "middle"]
theorem sc_piles_of : FnScope N_piles_of ["one", "other"] (defScope s_piles_of) := ⟨rfl, rfl, rfl, by decide +kernel, rfl, by decide +kernel, by decide +kernel⟩
abbrev N_longest_of : List Str := ["one", "other", "piles", "ahead", "found", "row"]
theorem sc_longest_of : FnScope N_longest_of ["one", "other"] (defScope s_longest_of) := ⟨rfl, rfl, rfl, by decide +kernel, rfl, by decide +kernel, by decide +kernel⟩
abbrev N_stays : List Str := ["one", "other"]
theorem sc_stays : FnScope N_stays ["one", "other"] (defScope s_stays) := ⟨rfl, rfl, rfl, by decide +kernel, rfl, by decide +kernel, by decide +kernel⟩
abbrev N_falls : List Str := ["one", "other", "piles", "ahead"]
theorem sc_falls : FnScope N_falls ["one", "other"] (defScope s_falls) := ⟨rfl, rfl, rfl, by decide +kernel, rfl, by decide +kernel, by decide +kernel⟩
abbrev N_rises_in : List Str := ["rows", "place_of", "places", "row", "place", "later"]
theorem sc_rises_in : FnScope N_rises_in ["rows", "place_of"] (defScope s_rises_in) := ⟨rfl, rfl, rfl, by decide +kernel, rfl, by decide +kernel, by decide +kernel⟩
abbrev N_check_papers : List Str := ["one", "other", "staying", "lists", "first", "second", "rows", "row"]
theorem sc_check_papers : FnScope N_check_papers ["one", "other", "staying", "lists"] (defScope s_check_papers) := ⟨rfl, rfl, rfl, by decide +kernel, rfl, by decide +kernel, by decide +kernel⟩
abbrev N_plan_moves : List Str := ["one", "other", "staying", "ahead", "row", "place"]
theorem sc_plan_moves : FnScope N_plan_moves ["one", "other"] (defScope s_plan_moves) := ⟨rfl, rfl, rfl, by decide +kernel, rfl, by decide +kernel, by decide +kernel⟩
abbrev N_is_move : List Str := ["value"]
theorem sc_is_move : FnScope N_is_move ["value"] (defScope s_is_move) := ⟨rfl, rfl, rfl, by decide +kernel, rfl, by decide +kernel, by decide +kernel⟩
abbrev N_are_moves : List Str := ["value", "item"]
theorem sc_are_moves : FnScope N_are_moves ["value"] (defScope s_are_moves) := ⟨rfl, rfl, rfl, by decide +kernel, rfl, by decide +kernel, by decide +kernel⟩
abbrev N_moved : List Str := ["rows", "move", "row", "behind", "left", "place", "item"]
theorem sc_moved : FnScope N_moved ["rows", "move"] (defScope s_moved) := ⟨rfl, rfl, rfl, by decide +kernel, rfl, by decide +kernel, by decide +kernel⟩
abbrev N_check_moves : List Str := ["one", "other", "moves", "here", "move"]
theorem sc_check_moves : FnScope N_check_moves ["one", "other", "moves"] (defScope s_check_moves) := ⟨rfl, rfl, rfl, by decide +kernel, rfl, by decide +kernel, by decide +kernel⟩
abbrev N__law_cell : List Str := ["script", "k"]
theorem sc__law_cell : FnScope N__law_cell ["script", "k"] (defScope s__law_cell) := ⟨rfl, rfl, rfl, by decide +kernel, rfl, by decide +kernel, by decide +kernel⟩
abbrev N__law_box : List Str := ["cell"]
theorem sc__law_box : FnScope N__law_box ["cell"] (defScope s__law_box) := ⟨rfl, rfl, rfl, by decide +kernel, rfl, by decide +kernel, by decide +kernel⟩
abbrev N__law_take : List Str := ["box", "many", "digit", "mixed"]
theorem sc__law_take : FnScope N__law_take ["box", "many"] (defScope s__law_take) := ⟨rfl, rfl, rfl, by decide +kernel, rfl, by decide +kernel, by decide +kernel⟩
abbrev N__law_mixed : List Str := ["box", "things", "left", "found"]
theorem sc__law_mixed : FnScope N__law_mixed ["box", "things"] (defScope s__law_mixed) := ⟨rfl, rfl, rfl, by decide +kernel, rfl, by decide +kernel, by decide +kernel⟩
abbrev N__law_rows : List Str := ["box", "many", "width", "top", "found", "k", "row", "column"]
theorem sc__law_rows : FnScope N__law_rows ["box", "many"] (defScope s__law_rows) := ⟨rfl, rfl, rfl, by decide +kernel, rfl, by decide +kernel, by decide +kernel⟩
abbrev N__law_other : List Str := ["box", "rows", "way", "many", "at", "found", "lap", "row"]
theorem sc__law_other : FnScope N__law_other ["box", "rows"] (defScope s__law_other) := ⟨rfl, rfl, rfl, by decide +kernel, rfl, by decide +kernel, by decide +kernel⟩
abbrev N__law_longest : List Str := ["first", "second", "known", "place", "at", "row", "ahead", "k"]
theorem sc__law_longest : FnScope N__law_longest ["first", "second"] (defScope s__law_longest) := ⟨rfl, rfl, rfl, by decide +kernel, rfl, by decide +kernel, by decide +kernel⟩
abbrev N__law_rising : List Str := ["rows", "order", "row", "places", "each", "at"]
theorem sc__law_rising : FnScope N__law_rising ["rows", "order"] (defScope s__law_rising) := ⟨rfl, rfl, rfl, by decide +kernel, rfl, by decide +kernel, by decide +kernel⟩
abbrev N__law_fits : List Str := ["first", "second", "still", "parts", "found", "rows"]
theorem sc__law_fits : FnScope N__law_fits ["first", "second", "still", "parts"] (defScope s__law_fits) := ⟨rfl, rfl, rfl, by decide +kernel, rfl, by decide +kernel, by decide +kernel⟩
abbrev N__law_done : List Str := ["rows", "move", "row", "left", "at", "each", "first"]
theorem sc__law_done : FnScope N__law_done ["rows", "move"] (defScope s__law_done) := ⟨rfl, rfl, rfl, by decide +kernel, rfl, by decide +kernel, by decide +kernel⟩
abbrev N__law_leads : List Str := ["first", "second", "moves", "rows", "move"]
theorem sc__law_leads : FnScope N__law_leads ["first", "second", "moves"] (defScope s__law_leads) := ⟨rfl, rfl, rfl, by decide +kernel, rfl, by decide +kernel, by decide +kernel⟩
abbrev N__law_bent : List Str := ["box", "things", "odd", "found", "many", "way", "at", "to"]
theorem sc__law_bent : FnScope N__law_bent ["box", "things", "odd"] (defScope s__law_bent) := ⟨rfl, rfl, rfl, by decide +kernel, rfl, by decide +kernel, by decide +kernel⟩
abbrev N__law_parts : List Str := ["first", "second", "place", "found", "row", "fit", "at"]
theorem sc__law_parts : FnScope N__law_parts ["first", "second"] (defScope s__law_parts) := ⟨rfl, rfl, rfl, by decide +kernel, rfl, by decide +kernel, by decide +kernel⟩
abbrev N__law_turned : List Str := ["row", "each"]
theorem sc__law_turned : FnScope N__law_turned ["row"] (defScope s__law_turned) := ⟨rfl, rfl, rfl, by decide +kernel, rfl, by decide +kernel, by decide +kernel⟩
abbrev N__law_own_right : List Str := ["box", "first", "second", "still", "parts", "moves", "some", "cut", "at", "longer", "each", "two", "steps", "row", "rows", "move"]
theorem sc__law_own_right : FnScope N__law_own_right ["box", "first", "second", "still"] (defScope s__law_own_right) := ⟨rfl, rfl, rfl, by decide +kernel, rfl, by decide +kernel, by decide +kernel⟩
abbrev N__law_long_right : List Str := ["box", "many", "rows", "at", "parts", "both", "second", "good", "idle", "far", "found", "k", "row", "move"]
theorem sc__law_long_right : FnScope N__law_long_right ["box"] (defScope s__law_long_right) := ⟨rfl, rfl, rfl, by decide +kernel, rfl, by decide +kernel, by decide +kernel⟩
abbrev N__law_things : List Str := ["rows"]
theorem sc__law_things : FnScope N__law_things ["rows"] (defScope s__law_things) := ⟨rfl, rfl, rfl, by decide +kernel, rfl, by decide +kernel, by decide +kernel⟩
abbrev N__law_right : List Str := ["box", "first", "second", "odd", "still", "parts", "moves", "lap", "some", "more", "at", "kept", "steps", "thing"]
theorem sc__law_right : FnScope N__law_right ["box", "first", "second"] (defScope s__law_right) := ⟨rfl, rfl, rfl, by decide +kernel, rfl, by decide +kernel, by decide +kernel⟩
abbrev N_law : List Str := ["script", "k", "box", "rows", "turn"]
theorem sc_law : FnScope N_law ["script"] (defScope s_law) := ⟨rfl, rfl, rfl, by decide +kernel, rfl, by decide +kernel, by decide +kernel⟩
/-- a def of the text as it lies -/
structure FD (K : PySem.W.Frag) (mg : Str → Option Value) (x : Str) (st : Stmt) (f : Addr) (fd : FuncData) (ps : List Str) : Prop where
  fn : Fun K x x st f fd
  m : mg x = some (.ref f)
  kp : PySem.W.keepIn K (.ref f) = true
  b : Binds K fd ps []
structure All (K : PySem.W.Frag) (mg : Str → Option Value) (a : Nat → Addr) (d : Nat → FuncData) (tk : Nat → Tok) : Prop where
  n_bool : mg "bool" = none
  n_int : mg "int" = none
  n_list : mg "list" = none
  n_tuple : mg "tuple" = none
  n_dict : mg "dict" = none
  n_set : mg "set" = none
  n_len : mg "len" = none
  n_isinstance : mg "isinstance" = none
  n_all : mg "all" = none
  n_sorted : mg "sorted" = none
  n_enumerate : mg "enumerate" = none
  n_zip : mg "zip" = none
  n_max : mg "max" = none
  n_min : mg "min" = none
  n_range : mg "range" = none
  n_sum : mg "sum" = none
  n_repr : mg "repr" = none
  c_MOST_VALUE : mg "MOST_VALUE" = some (.int 999 (tk 0))
  c_MOST_ROWS : mg "MOST_ROWS" = some (.int 60 (tk 1))
  c_MOST_MOVES : mg "MOST_MOVES" = some (.int 300 (tk 2))
  c_WIDEST : mg "WIDEST" = some (.int 5 (tk 3))
  K_check_papers : KRev K (d 13) ["one", "other", "staying", "lists"]
  F_is_integer : FD K mg "is_integer" s_is_integer (a 0) (d 0) ["value", "low", "high"]
  F_is_list : FD K mg "is_list" s_is_list (a 1) (d 1) ["value"]
  F_is_row : FD K mg "is_row" s_is_row (a 2) (d 2) ["value", "width"]
  F_is_any_row : FD K mg "is_any_row" s_is_any_row (a 3) (d 3) ["value"]
  F_are_rows : FD K mg "are_rows" s_are_rows (a 4) (d 4) ["value"]
  F_need_rows : FD K mg "need_rows" s_need_rows (a 5) (d 5) ["value"]
  F_need_pair : FD K mg "need_pair" s_need_pair (a 6) (d 6) ["one", "other"]
  F_places_of : FD K mg "places_of" s_places_of (a 7) (d 7) ["rows"]
  F_piles_of : FD K mg "piles_of" s_piles_of (a 8) (d 8) ["one", "other"]
  F_longest_of : FD K mg "longest_of" s_longest_of (a 9) (d 9) ["one", "other"]
  F_stays : FD K mg "stays" s_stays (a 10) (d 10) ["one", "other"]
  F_falls : FD K mg "falls" s_falls (a 11) (d 11) ["one", "other"]
  F_rises_in : FD K mg "rises_in" s_rises_in (a 12) (d 12) ["rows", "place_of"]
  F_check_papers : FD K mg "check_papers" s_check_papers (a 13) (d 13) ["one", "other", "staying", "lists"]
  F_plan_moves : FD K mg "plan_moves" s_plan_moves (a 14) (d 14) ["one", "other"]
  F_is_move : FD K mg "is_move" s_is_move (a 15) (d 15) ["value"]
  F_are_moves : FD K mg "are_moves" s_are_moves (a 16) (d 16) ["value"]
  F_moved : FD K mg "moved" s_moved (a 17) (d 17) ["rows", "move"]
  F_check_moves : FD K mg "check_moves" s_check_moves (a 18) (d 18) ["one", "other", "moves"]
  F__law_cell : FD K mg "_law_cell" s__law_cell (a 19) (d 19) ["script", "k"]
  F__law_box : FD K mg "_law_box" s__law_box (a 20) (d 20) ["cell"]
  F__law_take : FD K mg "_law_take" s__law_take (a 21) (d 21) ["box", "many"]
  F__law_mixed : FD K mg "_law_mixed" s__law_mixed (a 22) (d 22) ["box", "things"]
  F__law_rows : FD K mg "_law_rows" s__law_rows (a 23) (d 23) ["box", "many"]
  F__law_other : FD K mg "_law_other" s__law_other (a 24) (d 24) ["box", "rows"]
  F__law_longest : FD K mg "_law_longest" s__law_longest (a 25) (d 25) ["first", "second"]
  F__law_rising : FD K mg "_law_rising" s__law_rising (a 26) (d 26) ["rows", "order"]
  F__law_fits : FD K mg "_law_fits" s__law_fits (a 27) (d 27) ["first", "second", "still", "parts"]
  F__law_done : FD K mg "_law_done" s__law_done (a 28) (d 28) ["rows", "move"]
  F__law_leads : FD K mg "_law_leads" s__law_leads (a 29) (d 29) ["first", "second", "moves"]
  F__law_bent : FD K mg "_law_bent" s__law_bent (a 30) (d 30) ["box", "things", "odd"]
  F__law_parts : FD K mg "_law_parts" s__law_parts (a 31) (d 31) ["first", "second"]
  F__law_turned : FD K mg "_law_turned" s__law_turned (a 32) (d 32) ["row"]
  F__law_own_right : FD K mg "_law_own_right" s__law_own_right (a 33) (d 33) ["box", "first", "second", "still"]
  F__law_long_right : FD K mg "_law_long_right" s__law_long_right (a 34) (d 34) ["box"]
  F__law_things : FD K mg "_law_things" s__law_things (a 35) (d 35) ["rows"]
  F__law_right : FD K mg "_law_right" s__law_right (a 36) (d 36) ["box", "first", "second"]
  F_law : FD K mg "law" s_law (a 37) (d 37) ["script"]
end Mv
/-! What the readings give, the heap growing. -/
namespace Mv
open PySem PySem.Spec PyProof.Rows L2 Evl
/-- a list or a tuple -/
def Seq (H : Hp) (a : Addr) (xs : List V) : Prop := H a = some (.lst xs) ∨ H a = some (.tup xs)
theorem Seq.ex {H H' : Hp} {a : Addr} {xs : List V} (h : Seq H a xs) (e : Ex H H') : Seq H' a xs := h.elim (fun z => .inl (e _ _ z)) fun z => .inr (e _ _ z)
theorem Seq.sq {K : PySem.W.Frag} {H : Hp} {a : Addr} {xs : List V} (h : Seq H a xs) : SqL K H a xs ∨ SqT K H a xs := h.elim (fun z => .inl (sq_of z)) fun z => .inr (st_of z)
def EvF (te : TE) (σ : L2.St) (H : Hp) (P : Addr → Hp → Prop) : Prop := ∀ H1, Ex H H1 → ∀ Q : VK, (∀ p H2, H1 p = none → Ex H1 H2 → P p H2 → Q (.ref p) H2) → te σ H1 Q
def EvP (te : TE) (σ : L2.St) (H : Hp) (P : V → Hp → Prop) : Prop := ∀ H1, Ex H H1 → ∀ Q : VK, (∀ v H2, Ex H1 H2 → P v H2 → Q v H2) → te σ H1 Q
section
variable {K : PySem.W.Frag} {σ : L2.St} {H H' : Hp} {ta tb tc te tl tx : TE} {t u : TT} {x y z v : V} {r : R2}
theorem EvF.mono {P : Addr → Hp → Prop} (e : Ex H H') (h : EvF te σ H P) : EvF te σ H' P := fun H1 a Q q => h H1 (e.trans a) Q q
theorem EvP.mono {P : V → Hp → Prop} (e : Ex H H') (h : EvP te σ H P) : EvP te σ H' P := fun H1 a Q q => h H1 (e.trans a) Q q
theorem Ev.p (h : Ev te σ H v) : EvP te σ H (fun w _ => w = v) := fun H1 e Q q => h H1 e Q fun H2 e2 => q v H2 e2 rfl
theorem EvL.f {xs : List V} (h : EvL te σ H xs) : EvF te σ H (fun p H2 => H2 p = some (.lst xs)) := fun H1 e Q q => h H1 e Q q
theorem EvF.p {P : Addr → Hp → Prop} (h : EvF te σ H P) : EvP te σ H (fun w H2 => ∃ p, w = .ref p ∧ P p H2) := fun H1 e Q q => h H1 e Q fun p H2 _ e2 hp => q _ H2 e2 ⟨p, rfl, hp⟩
theorem et_yes : EvT tYes σ H true := fun H1 _ _ q => q H1 (Ex.refl H1)
/-! isinstance -/
theorem rc_isi {n : String} {ty : Value} {b : Bool} (hx : ∀ H1, Ex H H1 → TyX K H1 x ty) (hk : PySem.W.kitOne K ty (.type n) = some b) : RC (rIsi K) [x, .ty n] H (.bl b) :=
  fun H1 e _ q => ⟨x, .ty n, ty, .type n, b, rfl, .ty n, hx H1 e, hk, q H1 (Ex.refl H1)⟩
theorem ev_isi {n : String} {ty : Value} {b : Bool} (h : Ev ta σ H x) (hx : ∀ H1, Ex H H1 → TyX K H1 x ty) (hk : PySem.W.kitOne K ty (.type n) = some b) : Ev (tCB (rIsi K) (tCons ta (tCons (tC (.ty n)) tNil))) σ H (.bl b) :=
  ev_cb (ea_cons h (ea_cons ev_c ea_nil)) (rc_isi hx hk)
theorem ev_isiT {n m : String} {ty : Value} {b : Bool} (h : Ev ta σ H x) (hx : ∀ H1, Ex H H1 → TyX K H1 x ty) (hk : PySem.W.kitAny K ty [.type n, .type m] = some b) : Ev (tCB (rIsiT K) (tCons ta (tCons (tTup (tCons (tC (.ty n)) (tCons (tC (.ty m)) tNil))) tNil))) σ H (.bl b) :=
  fun H1 e Q q => h H1 e _ fun H2 e2 => ⟨sz_of (show 2 ≤ 100000 by decide), fun p hp => ⟨x, p, [.ty n, .ty m], ty, [.type n, .type m], b, rfl, upd_same, .cons (.ty n) (.cons (.ty m) .nil), hx _ ((e.trans e2).trans (Ex.new hp)), hk, q _ (e2.trans (Ex.new hp))⟩⟩
theorem ty_int {i : Int} : ∀ H1, Ex H H1 → TyX K H1 (.int i) (.type "int") := fun _ _ => .base (.int i)
theorem ty_lst {a : Addr} {xs : List V} (h : H a = some (.lst xs)) : ∀ H1, Ex H H1 → TyX K H1 (.ref a) (.type "list") := fun _ e => .base (.lst (e _ _ h))
theorem ty_tup {a : Addr} {xs : List V} (h : H a = some (.tup xs)) : ∀ H1, Ex H H1 → TyX K H1 (.ref a) (.type "tuple") := fun _ e => .base (.tup (e _ _ h))
/-! chains -/
theorem ev_chain {g g' : Int → Int → Bool} {i j k : Int} (ha : Ev ta σ H (.int i)) (hb : Ev tb σ H (.int j)) (hc : Ev tc σ H (.int k)) : Ev (tChain (rI0 fun i j => .bl (g i j)) (rI0 fun i j => .bl (g' i j)) ta tb tc) σ H (.bl (g i j && g' j k)) :=
  fun H1 e Q q => ha H1 e _ fun H2 e2 => hb H2 (e.trans e2) _ fun H3 e3 => ⟨i, j, rfl, rfl, g i j, rfl, by
    cases hg : g i j with
    | false =>
      rw [hg] at q
      exact q H3 (e2.trans e3)
    | true =>
      rw [hg] at q
      show tc σ H3 _
      exact hc H3 ((e.trans e2).trans e3) _ fun H4 e4 => ⟨j, k, rfl, rfl, q H4 ((e2.trans e3).trans e4)⟩⟩
theorem et_chain {g g' : Int → Int → Bool} {i j k : Int} (ha : Ev ta σ H (.int i)) (hb : Ev tb σ H (.int j)) (hc : Ev tc σ H (.int k)) : EvT (tTest (tChain (rI0 fun i j => .bl (g i j)) (rI0 fun i j => .bl (g' i j)) ta tb tc)) σ H (g i j && g' j k) := et_test (ev_chain ha hb hc)
theorem et_I0 {g : Int → Int → Bool} {i j : Int} (ha : Ev ta σ H (.int i)) (hb : Ev tb σ H (.int j)) : EvT (tTest (tOp (rI0 fun i j => .bl (g i j)) ta tb)) σ H (g i j) := et_test (ev_op ha hb rv_I0)
theorem ev_I0 {g : Int → Int → V} {i j : Int} (ha : Ev ta σ H (.int i)) (hb : Ev tb σ H (.int j)) : Ev (tOp (rI0 g) ta tb) σ H (g i j) := ev_op ha hb rv_I0
theorem ev_I {C : Int → Int → Prop} {g : Int → Int → V} {i j : Int} (ha : Ev ta σ H (.int i)) (hb : Ev tb σ H (.int j)) (hc : C i j) : Ev (tOp (rI C g) ta tb) σ H (g i j) := ev_op ha hb (rv_I hc)
/-! lengths -/
theorem ev_lenS {p : Addr} {xs : List V} (ha : Ev ta σ H (.ref p)) (h : Seq H p xs) : Ev (tCB (rLenS K) (tCons ta tNil)) σ H (.int (xs.length : Int)) := fun H1 e Q q =>
  ha H1 e _ fun H2 e2 => ⟨p, xs, rfl, (h.ex (e.trans e2)).sq, q H2 e2⟩
/-! all -/
theorem ev_allN {bs : List Bool} (h : EvL te σ H (bs.map V.bl)) : Ev (tCB (rAll K) (tCons te tNil)) σ H (.bl (bs.all id)) := fun H1 e Q q =>
  h H1 e _ fun p H2 _ e2 hp => ⟨p, bs, rfl, sq_of hp, q H2 e2⟩
/-! comprehensions over a list or a tuple -/
theorem given_take (xs : List V) (f : V → Bool) (g : V → V) : ∀ n, n ≤ xs.length → given n (fun i => f (xs.getD i .non)) (fun i => g (xs.getD i .non)) = ((xs.take n).filter f).map g
  | 0, _ => rfl
  | n + 1, h => by
    have hn : n < xs.length := h
    have ex : xs.getD n .non = xs[n] := by rw [List.getD_eq_getElem?_getD, List.getElem?_eq_getElem hn] <;> rfl
    have et : xs.take (n + 1) = xs.take n ++ [xs[n]] := by rw [List.take_succ, List.getElem?_eq_getElem hn] <;> rfl
    have ih := given_take xs f g n (Nat.le_of_lt hn)
    cases hf : f xs[n] with
    | true =>
      rw [given_yes (f := fun i => f (xs.getD i .non)) (by show f (xs.getD n .non) = true; rw [ex]; exact hf), ih, et, List.filter_append, List.map_append]
      show _ ++ [g (xs.getD n .non)] = _
      rw [ex]
      simp [hf]
    | false =>
      rw [given_no (f := fun i => f (xs.getD i .non)) (by show f (xs.getD n .non) = false; rw [ex]; exact hf), ih, et, List.filter_append, List.map_append]
      simp [hf]
theorem given_eq (xs : List V) (f : V → Bool) (g : V → V) : given xs.length (fun i => f (xs.getD i .non)) (fun i => g (xs.getD i .non)) = (xs.filter f).map g := by
  rw [given_take xs f g xs.length (Nat.le_refl _), List.take_length]
theorem el_lcS {a : Addr} {xs : List V} {j : Nat} {vs : List Nat} (f : V → Bool) (g : V → V) (h : Ev tl σ H (.ref a)) (hx : Seq H a xs) (hz : xs.length ≤ 40000) (hw : ∀ x, wipe ((wipe σ vs).set j (some x)) vs = wipe σ vs)
    (ht : ∀ (x : V) H1, Ex H H1 → x ∈ xs → EvT t ((wipe σ vs).set j (some x)) H1 (f x)) (he : ∀ (x : V) H1, Ex H H1 → x ∈ xs → f x = true → Ev te ((wipe σ vs).set j (some x)) H1 (g x)) :
    EvL (tLc (iSeq K tl) (gName j) t te vs) σ H ((xs.filter f).map g) := by
  rw [← given_eq]
  have hm : ∀ i x, xs[i]? = some x → xs.getD i .non = x := fun i x e => by rw [List.getD_eq_getElem?_getD, e] <;> rfl
  intro H0 e Q q
  rcases hx with hx | hx
  · refine .inl ?_
    exact el_lcL (K := K) (xs := xs) (fun i => f (xs.getD i .non)) (fun i => g (xs.getD i .non)) h (sq_of hx) hz hw (fun i x H1 e1 hi => by rw [hm i x hi]; exact ht x H1 e1 (List.mem_of_getElem? hi))
      (fun i x H1 e1 hi hf => by rw [hm i x hi] at hf ⊢; exact he x H1 e1 (List.mem_of_getElem? hi) hf) H0 e Q q
  · refine .inr ?_
    refine h H0 e _ fun H1 e1 => ⟨a, rfl, ⟨xs, ex_t (e.trans e1) (st_of hx)⟩, fun Dl hD =>
      lc_tup (xs := xs) (Cw H1 (fun i => f (xs.getD i .non)) (fun i => g (xs.getD i .non)) Dl) ⟨hD, Ex.new hD, upd_same⟩ (fun i H' _ p => ex_t ((e.trans e1).trans p.2.1) (st_of hx)) (fun i x H' hi p => ⟨hw x, cw_turn p (by have := (List.getElem?_eq_some_iff.mp hi).1; omega)
        (by rw [hm i x hi]; exact ht x H1 (e.trans e1) (List.mem_of_getElem? hi)) (fun hf => by rw [hm i x hi] at hf ⊢; exact he x H1 (e.trans e1) (List.mem_of_getElem? hi) hf)⟩)
        (fun H' p => q Dl H' (fresh_back e1 p.1) (e1.trans p.2.1) p.2.2)⟩
theorem filter_true {α : Type} (xs : List α) : xs.filter (fun _ => true) = xs := by
  rw [List.filter_eq_self]
  exact fun _ _ => rfl
theorem el_lcSm {a : Addr} {xs : List V} {j : Nat} {vs : List Nat} (g : V → V) (h : Ev tl σ H (.ref a)) (hx : Seq H a xs) (hz : xs.length ≤ 40000) (hw : ∀ x, wipe ((wipe σ vs).set j (some x)) vs = wipe σ vs)
    (he : ∀ (x : V) H1, Ex H H1 → x ∈ xs → Ev te ((wipe σ vs).set j (some x)) H1 (g x)) : EvL (tLc (iSeq K tl) (gName j) tYes te vs) σ H (xs.map g) := by
  have z := el_lcS (K := K) (t := tYes) (fun _ => true) g h hx hz hw (fun _ _ _ _ => et_yes) (fun x H1 e m _ => he x H1 e m)
  rwa [filter_true] at z
/-- over a tuple -/
theorem el_lcTm {a : Addr} {xs : List V} {j : Nat} {vs : List Nat} (g : V → V) (h : Ev tl σ H (.ref a)) (hx : H a = some (.tup xs)) (hz : xs.length ≤ 40000) (hw : ∀ x, wipe ((wipe σ vs).set j (some x)) vs = wipe σ vs)
    (he : ∀ (x : V) H1, Ex H H1 → x ∈ xs → Ev te ((wipe σ vs).set j (some x)) H1 (g x)) : EvL (tLc (iTup K tl) (gName j) tYes te vs) σ H (xs.map g) := by
  have hm : ∀ i x, xs[i]? = some x → xs.getD i .non = x := fun i x e => by rw [List.getD_eq_getElem?_getD, e] <;> rfl
  have e0 := given_eq xs (fun _ => true) g
  rw [filter_true] at e0
  rw [← e0]
  intro H0 e Q q
  refine h H0 e _ fun H1 e1 => ⟨a, rfl, ⟨xs, ex_t (e.trans e1) (st_of hx)⟩, fun Dl hD =>
      lc_tup (xs := xs) (Cw H1 (fun i => true) (fun i => g (xs.getD i .non)) Dl) ⟨hD, Ex.new hD, upd_same⟩ (fun i H' _ p => ex_t ((e.trans e1).trans p.2.1) (st_of hx)) (fun i x H' hi p => ⟨hw x, cw_turn p (by have := (List.getElem?_eq_some_iff.mp hi).1; omega)
        et_yes (fun hf => by rw [hm i x hi]; exact he x H1 (e.trans e1) (List.mem_of_getElem? hi))⟩)
        (fun H' p => q Dl H' (fresh_back e1 p.1) (e1.trans p.2.1) p.2.2)⟩
theorem map_true (xs : List V) : (xs.map fun _ => V.bl true) = (List.replicate xs.length true).map V.bl := by
  induction xs with
  | nil => rfl
  | cons x xs ih =>
    rw [List.map_cons, ih, List.length_cons, List.replicate_succ, List.map_cons]
theorem all_rep (n : Nat) : (List.replicate n true).all id = true := by
  rw [List.all_eq_true]
  intro x hx
  rw [(List.mem_replicate.mp hx).2] <;> rfl
theorem ev_allT {xs : List V} (h : EvL te σ H (xs.map fun _ => V.bl true)) : Ev (tCB (rAll K) (tCons te tNil)) σ H (.bl true) := by
  rw [map_true] at h
  have z := ev_allN (K := K) h
  rwa [all_rep] at z
end
/-! ### rows, lists of rows, lists of these -/
def IsRow (H : Hp) (x : V) (r : List Int) : Prop := ∃ b, x = .ref b ∧ H b = some (.tup (r.map V.int))
def Rws (H : Hp) (x : V) (rs : List (List Int)) : Prop := ∃ a xs, x = .ref a ∧ Seq H a xs ∧ Paired (IsRow H) xs rs
def Lss (H : Hp) (x : V) (Ls : List (List (List Int))) : Prop := ∃ a xs, x = .ref a ∧ Seq H a xs ∧ Paired (Rws H) xs Ls
theorem Paired.imp {α β : Type} {F G : α → β → Prop} (f : ∀ a b, F a b → G a b) : ∀ {xs : List α} {ys : List β}, Paired F xs ys → Paired G xs ys
  | _, _, .nil => .nil
  | _, _, .cons h t => .cons (f _ _ h) (Paired.imp f t)
theorem Paired.mem_l {α β : Type} {F : α → β → Prop} : ∀ {xs : List α} {ys : List β}, Paired F xs ys → ∀ x ∈ xs, ∃ y ∈ ys, F x y
  | _, _, .nil, _, h => absurd h (by simp)
  | _, _, .cons (b := b) h t, x, hx => by
    rcases List.mem_cons.mp hx with e | hx
    · subst e
      exact ⟨b, List.mem_cons_self, h⟩
    · obtain ⟨y, hy, hf⟩ := Paired.mem_l t x hx
      exact ⟨y, List.mem_cons_of_mem _ hy, hf⟩
theorem Paired.at_l {α β : Type} {F : α → β → Prop} : ∀ {xs : List α} {ys : List β}, Paired F xs ys → ∀ (i : Nat) (x : α), xs[i]? = some x → ∃ y, ys[i]? = some y ∧ F x y
  | _, _, .nil, i, x, h => by simp at h
  | _, _, .cons (b := b) h t, 0, x, e => by
    cases (Option.some.inj (show some _ = some x from e))
    exact ⟨b, rfl, h⟩
  | _, _, .cons h t, i + 1, x, e => Paired.at_l t i x e
theorem Paired.at_r {α β : Type} {F : α → β → Prop} {xs : List α} {ys : List β} (p : Paired F xs ys) (i : Nat) (y : β) (h : ys[i]? = some y) : ∃ x, xs[i]? = some x ∧ F x y := paired_at p i y h
section
variable {H H' : Hp} {x : V}
theorem IsRow.ex {r : List Int} (h : IsRow H x r) (e : Ex H H') : IsRow H' x r := let ⟨b, h1, h2⟩ := h; ⟨b, h1, e _ _ h2⟩
theorem Rws.ex {rs : List (List Int)} (h : Rws H x rs) (e : Ex H H') : Rws H' x rs := let ⟨a, xs, h1, h2, h3⟩ := h; ⟨a, xs, h1, h2.ex e, Paired.imp (fun _ _ z => z.ex e) h3⟩
theorem Lss.ex {Ls : List (List (List Int))} (h : Lss H x Ls) (e : Ex H H') : Lss H' x Ls := let ⟨a, xs, h1, h2, h3⟩ := h; ⟨a, xs, h1, h2.ex e, Paired.imp (fun _ _ z => z.ex e) h3⟩
end
def OkRow (w : Nat) (r : List Int) : Prop := r.length = w ∧ ∀ i ∈ r, 0 ≤ i ∧ i ≤ 999
/-- a list of rows as the program takes it -/
structure OkRows (w : Nat) (rs : List (List Int)) : Prop where
  w1 : 1 ≤ w
  w5 : w ≤ 5
  nd : rs.Nodup
  row : ∀ r ∈ rs, OkRow w r
  few : rs.length ≤ 60
end Mv
/-! Data of any kind, as it lies; what a check finds of it. -/
namespace Mv
open PySem PySem.Spec PyProof.Rows L2 Evl
mutual
inductive Da (H : Hp) : V → PyData → Prop
  | non : Da H .non .none
  | bl (b : Bool) : Da H (.bl b) (.bool b)
  | int (i : Int) : Da H (.int i) (.int i)
  | str (x : Str) : Da H (.str x) (.str x)
  | lst {a : Addr} {xs : List V} {ds : List PyData} : H a = some (.lst xs) → DaAll H xs ds → Da H (.ref a) (.list ds)
  | tup {a : Addr} {xs : List V} {ds : List PyData} : H a = some (.tup xs) → DaAll H xs ds → Da H (.ref a) (.tuple ds)
  | dK {a : Addr} {kvs : List (Key × V)} : H a = some (.dK kvs) → Da H (.ref a) (.dict [])
  | dT {a : Addr} {kvs : List (List Key × V)} : H a = some (.dT kvs) → Da H (.ref a) (.dict [])
inductive DaAll (H : Hp) : List V → List PyData → Prop
  | nil : DaAll H [] []
  | cons {v : V} {vs : List V} {d : PyData} {ds : List PyData} : Da H v d → DaAll H vs ds → DaAll H (v :: vs) (d :: ds)
end
mutual
theorem Da.ex {H H' : Hp} (e : Ex H H') : ∀ {v : V} {d : PyData}, Da H v d → Da H' v d
  | _, _, .non => .non
  | _, _, .bl b => .bl b
  | _, _, .int i => .int i
  | _, _, .str x => .str x
  | _, _, .lst h t => .lst (e _ _ h) (DaAll.ex e t)
  | _, _, .tup h t => .tup (e _ _ h) (DaAll.ex e t)
  | _, _, .dK h => .dK (e _ _ h)
  | _, _, .dT h => .dT (e _ _ h)
theorem DaAll.ex {H H' : Hp} (e : Ex H H') : ∀ {vs : List V} {ds : List PyData}, DaAll H vs ds → DaAll H' vs ds
  | _, _, .nil => .nil
  | _, _, .cons h t => .cons (Da.ex e h) (DaAll.ex e t)
end
theorem DaAll.p {H : Hp} : ∀ {vs : List V} {ds : List PyData}, DaAll H vs ds → Paired (Da H) vs ds
  | _, _, .nil => .nil
  | _, _, .cons h t => .cons h t.p
theorem DaAll.of {H : Hp} : ∀ {vs : List V} {ds : List PyData}, Paired (Da H) vs ds → DaAll H vs ds
  | _, _, .nil => .nil
  | _, _, .cons h t => .cons h (DaAll.of t)
/-- no dict in it -/
def nod : PyData → Bool
  | .list ds => nodAll ds
  | .tuple ds => nodAll ds
  | .dict _ => false
  | _ => true
where nodAll : List PyData → Bool
  | [] => true
  | d :: ds => nod d && nodAll ds
mutual
theorem Da.dp {K : PySem.W.Frag} {H : Hp} : ∀ {v : V} {d : PyData}, Da H v d → nod d = true → Dp K H v d
  | _, _, .non, _ => .non
  | _, _, .bl b, _ => .bl b
  | _, _, .int i, _ => .int i
  | _, _, .str x, _ => .str x
  | _, _, .lst h t, n => .lst (sq_of h) (DaAll.dp t (by rw [nod] at n; exact n))
  | _, _, .tup h t, n => .tup (st_of h) (DaAll.dp t (by rw [nod] at n; exact n))
  | _, _, .dK h, n => by rw [nod] at n; cases n
  | _, _, .dT h, n => by rw [nod] at n; cases n
theorem DaAll.dp {K : PySem.W.Frag} {H : Hp} : ∀ {vs : List V} {ds : List PyData}, DaAll H vs ds → nod.nodAll ds = true → DpAll K H vs ds
  | _, _, .nil, _ => .nil
  | _, _, .cons h t, n => by
    rw [nod.nodAll, Bool.and_eq_true] at n
    exact .cons (Da.dp h n.1) (DaAll.dp t n.2)
end
theorem nodAll_iff : ∀ {ds : List PyData}, nod.nodAll ds = true ↔ ∀ d ∈ ds, nod d = true
  | [] => by simp [nod.nodAll]
  | d :: ds => by simp [nod.nodAll, nodAll_iff (ds := ds)]
def tyD : PyData → String
  | .none => "NoneType"
  | .bool _ => "bool"
  | .int _ => "int"
  | .str _ => "str"
  | .list _ => "list"
  | .tuple _ => "tuple"
  | .dict _ => "dict"
theorem Da.ty {K : PySem.W.Frag} {H : Hp} {x : V} {d : PyData} (h : Da H x d) : ∀ H1, Ex H H1 → TyX K H1 x (.type (tyD d)) := fun H1 e => by
  cases h with
  | non => exact .base .non
  | bl b => exact .base (.bl b)
  | int i => exact .base (.int i)
  | str x => exact .base (.str x)
  | lst h t => exact .base (.lst (e _ _ h))
  | tup h t => exact .base (.tup (e _ _ h))
  | dK h => exact .base (.dK (e _ _ h))
  | dT h => exact .base (.dT (e _ _ h))
def isBoolD : PyData → Bool
  | .bool _ => true
  | _ => false
def isIntD : PyData → Bool
  | .bool _ => true
  | .int _ => true
  | _ => false
def isTupD : PyData → Bool
  | .tuple _ => true
  | _ => false
def seqD : PyData → Option (List PyData)
  | .list ds => some ds
  | .tuple ds => some ds
  | _ => none
theorem Da.seq {H : Hp} {x : V} {d : PyData} {ds : List PyData} (h : Da H x d) (e : seqD d = some ds) : ∃ a xs, x = .ref a ∧ Seq H a xs ∧ DaAll H xs ds := by
  cases h with
  | lst h t => cases e; exact ⟨_, _, rfl, .inl h, t⟩
  | tup h t => cases e; exact ⟨_, _, rfl, .inr h, t⟩
  | _ => cases e
theorem Da.tup' {H : Hp} {x : V} {ds : List PyData} (h : Da H x (.tuple ds)) : ∃ a xs, x = .ref a ∧ H a = some (.tup xs) ∧ DaAll H xs ds := by
  cases h with
  | tup h t => exact ⟨_, _, rfl, h, t⟩
theorem Da.lst' {H : Hp} {x : V} {ds : List PyData} (h : Da H x (.list ds)) : ∃ a xs, x = .ref a ∧ H a = some (.lst xs) ∧ DaAll H xs ds := by
  cases h with
  | lst h t => exact ⟨_, _, rfl, h, t⟩
theorem kT {n m : String} {K : PySem.W.Frag} {b : Bool} (h : kitB n m = some b) : PySem.W.kitOne K (.type n) (.type m) = some b := kit_ty h
section
variable {K : PySem.W.Frag} {σ : L2.St} {H H' : Hp} {ta tb tc te tl tx : TE} {t u : TT} {x y z v : V} {d : PyData}
theorem ev_isBoolD (h : Ev ta σ H x) (hd : Da H x d) : Ev (tCB (rIsi K) (tCons ta (tCons (tC (.ty "bool")) tNil))) σ H (.bl (isBoolD d)) :=
  ev_isi h hd.ty (kT (by cases d <;> simp only [tyD, isBoolD] <;> decide +kernel))
theorem ev_isIntD (h : Ev ta σ H x) (hd : Da H x d) : Ev (tCB (rIsi K) (tCons ta (tCons (tC (.ty "int")) tNil))) σ H (.bl (isIntD d)) :=
  ev_isi h hd.ty (kT (by cases d <;> simp only [tyD, isIntD] <;> decide +kernel))
theorem ev_isTupD (h : Ev ta σ H x) (hd : Da H x d) : Ev (tCB (rIsi K) (tCons ta (tCons (tC (.ty "tuple")) tNil))) σ H (.bl (isTupD d)) :=
  ev_isi h hd.ty (kT (by cases d <;> simp only [tyD, isTupD] <;> decide +kernel))
theorem kit2 {n m k : String} {a b : Bool} (h1 : kitB n m = some a) (h2 : kitB n k = some b) : PySem.W.kitAny K (.type n) [.type m, .type k] = some (a || b) := by
  cases a with
  | true => exact kitAny_cons (kT h1) (fun h => nomatch h) fun _ => rfl
  | false =>
    refine kitAny_cons (kT h1) (fun _ => ?_) fun h => nomatch h
    cases b with
    | true => exact kitAny_cons (kT h2) (fun h => nomatch h) fun _ => rfl
    | false => exact kitAny_cons (kT h2) (fun _ => rfl) fun h => nomatch h
/-- the answer of isinstance(_, (list, tuple)) -/
def IsSq (K : PySem.W.Frag) (H : Hp) (x : V) (b : Bool) : Prop := ∃ t, (∀ H1, Ex H H1 → TyX K H1 x t) ∧ PySem.W.kitAny K t [.type "list", .type "tuple"] = some b
theorem IsSq.ex {b : Bool} (h : IsSq K H x b) (e : Ex H H') : IsSq K H' x b := let ⟨t, h1, h2⟩ := h; ⟨t, fun H1 e1 => h1 H1 (e.trans e1), h2⟩
theorem Da.isq (h : Da H x d) : IsSq K H x (seqD d).isSome := ⟨_, h.ty, by
  cases d with
  | none => exact kit2 (a := false) (b := false) (by decide +kernel) (by decide +kernel)
  | bool _ => exact kit2 (a := false) (b := false) (by simp only [tyD] <;> decide +kernel) (by simp only [tyD] <;> decide +kernel)
  | int _ => exact kit2 (a := false) (b := false) (by simp only [tyD] <;> decide +kernel) (by simp only [tyD] <;> decide +kernel)
  | str _ => exact kit2 (a := false) (b := false) (by simp only [tyD] <;> decide +kernel) (by simp only [tyD] <;> decide +kernel)
  | list _ => exact kit2 (a := true) (b := false) (by simp only [tyD] <;> decide +kernel) (by simp only [tyD] <;> decide +kernel)
  | tuple _ => exact kit2 (a := false) (b := true) (by simp only [tyD] <;> decide +kernel) (by simp only [tyD] <;> decide +kernel)
  | dict _ => exact kit2 (a := false) (b := false) (by simp only [tyD] <;> decide +kernel) (by simp only [tyD] <;> decide +kernel)⟩
theorem Seq.isq {a : Addr} {xs : List V} (h : Seq H a xs) : IsSq K H (.ref a) true := h.elim (fun z => ⟨_, ty_lst z, kit2 (a := true) (b := false) (by decide +kernel) (by decide +kernel)⟩) fun z => ⟨_, ty_tup z, kit2 (a := false) (b := true) (by decide +kernel) (by decide +kernel)⟩
theorem ev_isSq {b : Bool} (h : Ev ta σ H x) (hd : IsSq K H x b) : Ev (tCB (rIsiT K) (tCons ta (tCons (tTup (tCons (tC (.ty "list")) (tCons (tC (.ty "tuple")) tNil))) tNil))) σ H (.bl b) :=
  let ⟨_, h1, h2⟩ := hd; ev_isiT h h1 h2
/-- over a list or a tuple: test and value by place -/
theorem el_lcSi {a : Addr} {xs : List V} {j : Nat} {vs : List Nat} (f : Nat → Bool) (g : Nat → V) (h : Ev tl σ H (.ref a)) (hx : Seq H a xs) (hz : xs.length ≤ 40000) (hw : ∀ x, wipe ((wipe σ vs).set j (some x)) vs = wipe σ vs)
    (ht : ∀ (i : Nat) (x : V) H1, Ex H H1 → xs[i]? = some x → EvT t ((wipe σ vs).set j (some x)) H1 (f i)) (he : ∀ (i : Nat) (x : V) H1, Ex H H1 → xs[i]? = some x → f i = true → Ev te ((wipe σ vs).set j (some x)) H1 (g i)) :
    EvL (tLc (iSeq K tl) (gName j) t te vs) σ H (given xs.length f g) := by
  intro H0 e Q q
  rcases hx with hx | hx
  · exact .inl (el_lcL (K := K) (xs := xs) f g h (sq_of hx) hz hw (fun i x H1 e1 hi => ht i x H1 e1 hi) (fun i x H1 e1 hi hf => he i x H1 e1 hi hf) H0 e Q q)
  · exact .inr (h H0 e _ fun H1 e1 => ⟨a, rfl, ⟨xs, ex_t (e.trans e1) (st_of hx)⟩, fun Dl hD =>
      lc_tup (xs := xs) (Cw H1 f g Dl) ⟨hD, Ex.new hD, upd_same⟩ (fun i H' _ p => ex_t ((e.trans e1).trans p.2.1) (st_of hx)) (fun i x H' hi p => ⟨hw x, cw_turn p (by have := (List.getElem?_eq_some_iff.mp hi).1; omega)
        (ht i x H1 (e.trans e1) hi) (fun hf => he i x H1 (e.trans e1) hi hf)⟩)
        (fun H' p => q Dl H' (fresh_back e1 p.1) (e1.trans p.2.1) p.2.2)⟩)
theorem givenT (out : List V) : given out.length (fun _ => true) (fun i => out.getD i .non) = out := by
  have z := given_eq out (fun _ => true) id
  rw [filter_true, List.map_id] at z
  exact z
/-- all([g(item) for item in value]) of data -/
theorem ev_allD {a : Addr} {xs : List V} {ds : List PyData} {j : Nat} {vs : List Nat} (g : PyData → Bool) (h : Ev tl σ H (.ref a)) (hx : Seq H a xs) (hp : DaAll H xs ds) (hz : xs.length ≤ 40000) (hw : ∀ x, wipe ((wipe σ vs).set j (some x)) vs = wipe σ vs)
    (he : ∀ (x : V) (d : PyData) H1, Ex H H1 → x ∈ xs → d ∈ ds → Da H1 x d → Ev te ((wipe σ vs).set j (some x)) H1 (.bl (g d))) : Ev (tCB (rAll K) (tCons (tLc (iSeq K tl) (gName j) tYes te vs) tNil)) σ H (.bl (ds.all g)) := by
  have hl : xs.length = (ds.map fun d => V.bl (g d)).length := by rw [List.length_map]; exact Paired.length hp.p
  have z := el_lcSi (K := K) (t := tYes) (te := te) (vs := vs) (j := j) (fun _ => true) (fun i => (ds.map fun d => V.bl (g d)).getD i .non) h hx hz hw (fun _ _ _ _ _ => et_yes) fun i x H1 e hi _ => by
    obtain ⟨d, hd, hxd⟩ := Paired.at_l hp.p i x hi
    have : (ds.map fun d => V.bl (g d)).getD i .non = V.bl (g d) := by rw [List.getD_eq_getElem?_getD, List.getElem?_map, hd] <;> rfl
    rw [this]
    exact he x d H1 e (List.mem_of_getElem? hi) (List.mem_of_getElem? hd) (hxd.ex e)
  rw [hl, givenT] at z
  have e2 : (ds.map fun d => V.bl (g d)) = (ds.map g).map V.bl := by rw [List.map_map] <;> rfl
  rw [e2] at z
  have e3 : (ds.map g).all id = ds.all g := by rw [List.all_map] <;> rfl
  rw [← e3]
  exact ev_allN z
end
/-- an integer within bounds -/
def intIn (lo hi : Int) : PyData → Bool
  | .int v => decide (lo ≤ v) && decide (v ≤ hi)
  | _ => false
/-- the answers of is_row and is_any_row -/
def rowB (n : Int) : PyData → Bool
  | .tuple ds => decide ((ds.length : Int) = n) && ds.all (intIn 0 999)
  | _ => false
def rowAnyB : PyData → Bool
  | .tuple ds => (decide (0 < ds.length) && decide (ds.length ≤ 5)) && ds.all (intIn 0 999)
  | _ => false
open Classical in
/-- the answer to a question -/
noncomputable def rb (p : Prop) : Bool := decide p
theorem rb_iff {p : Prop} : rb p = true ↔ p := by unfold rb; exact @decide_eq_true_iff p (Classical.propDecidable p)
theorem rb_yes {p : Prop} (h : p) : rb p = true := rb_iff.mpr h
theorem rb_no {p : Prop} (h : ¬p) : rb p = false := by
  cases e : rb p with
  | false => rfl
  | true => exact absurd (rb_iff.mp e) h
theorem rb_eq {p : Prop} {b : Bool} (h : b = true ↔ p) : b = rb p := by
  cases b with
  | true => exact (rb_yes (h.mp rfl)).symm
  | false => exact (rb_no fun hp => nomatch h.mpr hp).symm
end Mv
/-! The checks of one value, of any kind. -/
namespace Mv
open PySem PySem.Spec PyProof.Rows L2 Evl
theorem OkRow.any {n : Nat} {r : List Int} (ho : OkRow n r) : (r.map PyData.int).all (intIn 0 999) = true := by
  rw [List.all_map, List.all_eq_true]
  intro i hi
  obtain ⟨h0, h9⟩ := ho.2 i hi
  show (decide (0 ≤ i) && decide (i ≤ 999)) = true
  rw [decide_eq_true h0, decide_eq_true h9] <;> rfl
theorem daInts {H : Hp} : ∀ r : List Int, DaAll H (r.map V.int) (r.map PyData.int)
  | [] => .nil
  | i :: r => .cons (.int i) (daInts r)
theorem IsRow.da {H : Hp} {x : V} {r : List Int} (h : IsRow H x r) : Da H x (.tuple (r.map PyData.int)) := by
  obtain ⟨b, rfl, hb⟩ := h
  exact .tup hb (daInts r)
section
variable {P : Program} {w : World} {K : PySem.W.Frag} {mg : Str → Option Value} {base : Heap} {a : Nat → Addr} {d : Nat → FuncData} {tk : Nat → Tok}
/-! is_integer -/
def sp_is_integer : Sp := fun vs H Q _ => ∃ (x : V) (dd : PyData) (lo hi : Int), vs = [x, .int lo, .int hi] ∧ Da H x dd ∧ RetV (.bl (intIn lo hi dd)) H Q
theorem ok_is_integer (T : All K mg a d tk) : FnOk P w K mg base CX0 1 (a 0) (d 0) ["value", "low", "high"] sp_is_integer := by
  refine T.F_is_integer.fn.ok sc_is_integer (fun vs H Q E h => ?_) (fun cdv A outer s H vs Q E hr h => ?_)
  · obtain ⟨x, dd, lo, hi, rfl, _⟩ := h
    rfl
  · obtain ⟨x, dd, lo, hi, rfl, hd, k⟩ := h
    have nd := sc_is_integer.nd
    refine ⟨_, (pss_cons (ps_if (PW.pt (pw_or (pt_val (pe_callB call_isi (by rfl) T.n_isinstance PyProof.Rows.boot_isinstance (pa_cons (pv 0) (pa_cons (pe_bltn (v := .ty "bool") rfl T.n_bool PyProof.Rows.boot_bool rfl) pa_nil)))) (pw_or1 (pt_not (pt_val (pe_callB call_isi (by rfl) T.n_isinstance PyProof.Rows.boot_isinstance (pa_cons (pv 0) (pa_cons (pe_bltn (v := .ty "int") rfl T.n_int PyProof.Rows.boot_int rfl) pa_nil))))))))
 (pss_one (ps_ret pe_bl))
 pss_nil)
 (pss_one (ps_ret (pe_chain op_le op_le (pv 1) (pv 0) (pv 2))))), ?_⟩
    refine q_when (b := isBoolD dd || !isIntD dd) (et_or (et_B (ev_isBoolD (ev_var rfl) hd)) fun _ => et_not (et_B (ev_isIntD (ev_var rfl) hd))) (fun h H1 e1 => ?_) fun h H1 e1 => ?_
    · refine s_ret ev_c fun H2 e2 => ?_
      have z : intIn lo hi dd = false := by cases dd <;> first | rfl | cases h
      rw [z] at k
      exact k H2 (e1.trans e2)
    · cases hd with
      | int i => exact s_ret (ev_chain (ev_var rfl) (ev_var rfl) (ev_var rfl)) fun H2 e2 => k H2 (e1.trans e2)
      | _ => cases h
theorem spv_intD {x : V} {dd : PyData} {lo hi : Int} {H : Hp} (h : Da H x dd) : SpV sp_is_integer [x, .int lo, .int hi] H (.bl (intIn lo hi dd)) := fun H1 e Q q _ => ⟨x, dd, lo, hi, rfl, h.ex e, q⟩
theorem spv_is_integer {v lo hi : Int} {H : Hp} : SpV sp_is_integer [.int v, .int lo, .int hi] H (.bl (decide (lo ≤ v) && decide (v ≤ hi))) := spv_intD (.int v)
/-! is_list -/
def sp_is_list (K : PySem.W.Frag) : Sp := fun vs H Q _ => ∃ (x : V) (b : Bool), vs = [x] ∧ IsSq K H x b ∧ RetV (.bl b) H Q
theorem ok_is_list (T : All K mg a d tk) : FnOk P w K mg base CX0 1 (a 1) (d 1) ["value"] (sp_is_list K) := by
  refine T.F_is_list.fn.ok sc_is_list (fun vs H Q E h => ?_) (fun cdv A outer s H vs Q E hr h => ?_)
  · obtain ⟨x, b, rfl, _⟩ := h
    rfl
  · obtain ⟨x, b, rfl, hs, k⟩ := h
    have nd := sc_is_list.nd
    refine ⟨_, (pss_one (ps_ret (pe_callB call_isiT (by rfl) T.n_isinstance PyProof.Rows.boot_isinstance (pa_cons (pv 0) (pa_cons (pe_tup (pa_cons (pe_bltn (v := .ty "list") rfl T.n_list PyProof.Rows.boot_list rfl) (pa_cons (pe_bltn (v := .ty "tuple") rfl T.n_tuple PyProof.Rows.boot_tuple rfl) pa_nil))) pa_nil))))), ?_⟩
    exact s_ret (ev_isSq (ev_var rfl) hs) k
theorem spv_isq {x : V} {b : Bool} {H : Hp} (h : IsSq K H x b) : SpV (sp_is_list K) [x] H (.bl b) := fun H1 e Q q _ => ⟨x, b, rfl, h.ex e, q⟩
theorem spv_is_list {p : Addr} {xs : List V} {H : Hp} (h : Seq H p xs) : SpV (sp_is_list K) [.ref p] H (.bl true) := spv_isq h.isq
/-! is_row -/
def sp_is_row : Sp := fun vs H Q _ => ∃ (x : V) (dd : PyData) (n : Int), vs = [x, .int n] ∧ Da H x dd ∧ n ≤ 5 ∧ RetV (.bl (rowB n dd)) H Q
theorem ok_is_row (T : All K mg a d tk) : FnOk P w K mg base CX0 2 (a 2) (d 2) ["value", "width"] sp_is_row := by
  refine T.F_is_row.fn.ok sc_is_row (fun vs H Q E h => ?_) (fun cdv A outer s H vs Q E hr h => ?_)
  · obtain ⟨x, dd, n, rfl, _⟩ := h
    rfl
  · obtain ⟨x, dd, n, rfl, hd, h5, k⟩ := h
    have nd := sc_is_row.nd
    refine ⟨_, (pss_cons (ps_if (PW.pt (pw_or (pt_not (pt_val (pe_callB call_isi (by rfl) T.n_isinstance PyProof.Rows.boot_isinstance (pa_cons (pv 0) (pa_cons (pe_bltn (v := .ty "tuple") rfl T.n_tuple PyProof.Rows.boot_tuple rfl) pa_nil))))) (pw_or1 (pt_cmpR op_ne (pe_callB call_len_seq (by rfl) T.n_len PySem.boot_len (pa_cons (pv 0) pa_nil)) (pv 1) (nomark _)))))
 (pss_one (ps_ret pe_bl))
 pss_nil)
 (pss_one (ps_ret (pe_callB (cr_all rfl) (by rfl) T.n_all PyProof.Rows.boot_all (pa_cons (pe_lc (own := [("item", 2)]) (g := (gName 2)) rfl nd (pi_seq (pv 0)) (blkOk_by (N := N_is_row) (sc := defScope s_is_row) (by decide +kernel)) (fun _ _ _ _ _ => (pg_name (i := 2) nd rfl (Or.inl rfl))) (fun _ _ _ _ _ => pts_nil) (fun _ _ _ _ _ => (pe_call (ok_is_integer T) (hr.mono (by decide)) rfl T.F_is_integer.m T.F_is_integer.kp T.F_is_integer.b .nil pass0 (pa_cons (pv 2) (pa_cons pe_int (pa_cons (pe_glob (v := .int 999) rfl T.c_MOST_VALUE ⟨_, rfl⟩) pa_nil)))))) pa_nil))))), ?_⟩
    by_cases ht : ∃ ds, dd = .tuple ds
    · obtain ⟨ds, rfl⟩ := ht
      obtain ⟨b, xs, rfl, hb, hp⟩ := hd.tup'
      have hl : xs.length = ds.length := Paired.length hp.p
      refine q_when (et_or (et_not (et_B (ev_isTupD (ev_var rfl) hd))) fun _ => et_test (ev_op (ev_lenS (ev_var rfl) (.inr hb)) (ev_var rfl) (rv_ne rfl))) (fun h H1 e1 => ?_) fun h H1 e1 => ?_
      · have h : (!decide (V.int (xs.length : Int) = V.int n)) = true := h
        have z : rowB n (.tuple ds) = false := by
          show (decide ((ds.length : Int) = n) && _) = false
          rw [decide_eq_false fun z => by rw [hl, z, decide_eq_true rfl] at h; cases h] <;> rfl
        rw [z] at k
        exact s_ret ev_c fun H2 e2 => k H2 (e1.trans e2)
      · have h : (!decide (V.int (xs.length : Int) = V.int n)) = false := h
        have hn : (ds.length : Int) = n := by
          by_cases z : (ds.length : Int) = n
          · exact z
          · rw [decide_eq_false fun e => by injection e with e; rw [hl] at e; exact z e] at h
            cases h
        have z : rowB n (.tuple ds) = ds.all (intIn 0 999) := by
          show (decide ((ds.length : Int) = n) && _) = _
          rw [decide_eq_true hn] <;> rfl
        rw [z] at k
        exact s_ret (ev_allD (ds := ds) (intIn 0 999) (ev_var rfl) (Seq.ex (.inr hb) e1) (hp.ex e1) (by omega) (fun _ => rfl) fun x d H2 e2 _ _ hx => ev_call (ea_cons (ev_var rfl) (ea_cons ev_c (ea_cons ev_c ea_nil))) (spv_intD hx)) fun H2 e2 => k H2 (e1.trans e2)
    · have z : isTupD dd = false := by cases dd <;> first | rfl | exact absurd ⟨_, rfl⟩ ht
      have z2 : rowB n dd = false := by cases dd <;> first | rfl | exact absurd ⟨_, rfl⟩ ht
      rw [z2] at k
      refine q_when (b := true) (et_is (et_or (b := false) (et_not (et_B (ev_isTupD (ev_var rfl) hd))) fun h => ?_) (by rw [z] <;> rfl)) (fun h H1 e1 => s_ret ev_c fun H2 e2 => k H2 (e1.trans e2)) fun h => nomatch h
      rw [z] at h
      cases h
theorem spv_rowD {x : V} {dd : PyData} {n : Int} {H : Hp} (h : Da H x dd) (h5 : n ≤ 5) : SpV sp_is_row [x, .int n] H (.bl (rowB n dd)) := fun H1 e Q q _ => ⟨x, dd, n, rfl, h.ex e, h5, q⟩
theorem spv_is_row {x : V} {r : List Int} {n : Nat} {H : Hp} (h : IsRow H x r) (ho : OkRow n r) (h5 : n ≤ 5) : SpV sp_is_row [x, .int n] H (.bl true) := by
  have z := spv_rowD (n := n) h.da (by omega)
  have e : rowB n (.tuple (r.map PyData.int)) = true := by
    show (decide (((r.map PyData.int).length : Int) = n) && _) = true
    rw [ho.any, List.length_map, ho.1, decide_eq_true rfl] <;> rfl
  rwa [e] at z
/-! is_any_row -/
def sp_is_any_row : Sp := fun vs H Q _ => ∃ (x : V) (dd : PyData), vs = [x] ∧ Da H x dd ∧ RetV (.bl (rowAnyB dd)) H Q
theorem ok_is_any_row (T : All K mg a d tk) : FnOk P w K mg base CX0 3 (a 3) (d 3) ["value"] sp_is_any_row := by
  refine T.F_is_any_row.fn.ok sc_is_any_row (fun vs H Q E h => ?_) (fun cdv A outer s H vs Q E hr h => ?_)
  · obtain ⟨x, dd, rfl, _⟩ := h
    rfl
  · obtain ⟨x, dd, rfl, hd, k⟩ := h
    have nd := sc_is_any_row.nd
    refine ⟨_, (pss_one (ps_ret (pe_and (pe_callB call_isi (by rfl) T.n_isinstance PyProof.Rows.boot_isinstance (pa_cons (pv 0) (pa_cons (pe_bltn (v := .ty "tuple") rfl T.n_tuple PyProof.Rows.boot_tuple rfl) pa_nil))) (pe_and (pe_chain op_lt op_le pe_int (pe_callB call_len_seq (by rfl) T.n_len PySem.boot_len (pa_cons (pv 0) pa_nil)) (pe_glob (v := .int 5) rfl T.c_WIDEST ⟨_, rfl⟩)) (pe_one (pe_call (ok_is_row T) (hr.mono (by decide)) rfl T.F_is_row.m T.F_is_row.kp T.F_is_row.b .nil pass0 (pa_cons (pv 0) (pa_cons (pe_callB call_len_seq (by rfl) T.n_len PySem.boot_len (pa_cons (pv 0) pa_nil)) pa_nil)))))))), ?_⟩
    by_cases ht : ∃ ds, dd = .tuple ds
    · obtain ⟨ds, rfl⟩ := ht
      obtain ⟨b, xs, rfl, hb, hp⟩ := hd.tup'
      have hl : xs.length = ds.length := Paired.length hp.p
      have eL : Ev (tCB (rLenS K) (tCons (tVar 0) tNil)) (start N_is_any_row [V.ref b]) H (.int (ds.length : Int)) := by
        rw [← hl]
        exact ev_lenS (ev_var rfl) (.inr hb)
      refine s_ret (ev_is (ev_andV (ev_isTupD (ev_var rfl) hd) fun _ => ev_andV (b := rowB ds.length (.tuple ds)) (ev_chain ev_c eL ev_c) fun h => ?_) ?_) k
      · have h : (decide ((0 : Int) < (ds.length : Int)) && decide ((ds.length : Int) ≤ 5)) = true := h
        rw [Bool.and_eq_true] at h
        exact ev_call (ea_cons (ev_var rfl) (ea_cons eL ea_nil)) (spv_rowD hd (of_decide_eq_true h.2))
      · show V.bl (true && ((decide ((0 : Int) < (ds.length : Int)) && decide ((ds.length : Int) ≤ 5)) && (decide ((ds.length : Int) = (ds.length : Int)) && ds.all (intIn 0 999)))) = V.bl ((decide (0 < ds.length) && decide (ds.length ≤ 5)) && ds.all (intIn 0 999))
        have e1 : decide ((0 : Int) < (ds.length : Int)) = decide (0 < ds.length) := decide_eq_decide.mpr (by omega)
        have e2 : decide ((ds.length : Int) ≤ 5) = decide (ds.length ≤ 5) := decide_eq_decide.mpr (by omega)
        rw [e1, e2, decide_eq_true rfl] <;> rfl
    · have z : isTupD dd = false := by cases dd <;> first | rfl | exact absurd ⟨_, rfl⟩ ht
      have z2 : rowAnyB dd = false := by cases dd <;> first | rfl | exact absurd ⟨_, rfl⟩ ht
      refine s_ret (ev_is (ev_andV (b := false) (ev_isTupD (ev_var rfl) hd) fun h => ?_) (by rw [z, z2] <;> rfl)) k
      rw [z] at h
      cases h
theorem spv_anyD {x : V} {dd : PyData} {H : Hp} (h : Da H x dd) : SpV sp_is_any_row [x] H (.bl (rowAnyB dd)) := fun H1 e Q q _ => ⟨x, dd, rfl, h.ex e, q⟩
theorem rowAny_ok {r : List Int} {n : Nat} (ho : OkRow n r) (h1 : 1 ≤ n) (h5 : n ≤ 5) : rowAnyB (.tuple (r.map PyData.int)) = true := by
  show ((decide (0 < (r.map PyData.int).length) && decide ((r.map PyData.int).length ≤ 5)) && _) = true
  rw [ho.any, List.length_map, ho.1, decide_eq_true (show 0 < n by omega), decide_eq_true h5] <;> rfl
theorem spv_is_any_row {x : V} {r : List Int} {n : Nat} {H : Hp} (h : IsRow H x r) (ho : OkRow n r) (h1 : 1 ≤ n) (h5 : n ≤ 5) : SpV sp_is_any_row [x] H (.bl true) := by
  have z := spv_anyD h.da
  rwa [rowAny_ok ho h1 h5] at z
end
end Mv
/-! are_rows, need_rows, need_pair, need_lists. -/
namespace Mv
open PySem PySem.Spec PyProof.Rows L2 Evl
theorem nodup_len {α : Type} [DecidableEq α] : ∀ (l D : List α), l.Nodup → (∀ x ∈ l, x ∈ D) → l.length ≤ D.length
  | [], _, _, _ => Nat.zero_le _
  | x :: l, D, h, hs => by
    have hx := hs x List.mem_cons_self
    have h1 : l.length ≤ (D.erase x).length := nodup_len l (D.erase x) (List.nodup_cons.mp h).2 fun y hy => by
      have ne : y ≠ x := fun e => (List.nodup_cons.mp h).1 (e ▸ hy)
      exact (List.mem_erase_of_ne ne).mpr (hs y (List.mem_cons_of_mem _ hy))
    have h2 := List.length_erase_of_mem hx
    have h3 : 0 < D.length := List.length_pos_of_mem hx
    rw [List.length_cons]
    omega
theorem rows_ks {H : Hp} : ∀ {xs : List V} {rs : List (List Int)}, Paired (IsRow H) xs rs → ∃ ks : List (Addr × List Int), xs = ks.map (fun p => V.ref p.1) ∧ rs = ks.map (·.2) ∧ ∀ p ∈ ks, H p.1 = some (.tup (p.2.map V.int))
  | _, _, .nil => ⟨[], rfl, rfl, fun _ h => absurd h (by simp)⟩
  | _, _, .cons (b := r) ⟨b, e, h⟩ t => by
    obtain ⟨ks, e1, e2, e3⟩ := rows_ks t
    subst e e1 e2
    refine ⟨(b, r) :: ks, rfl, rfl, fun p hp => ?_⟩
    rcases List.mem_cons.mp hp with z | z
    · subst z; exact h
    · exact e3 p z
section
variable {K : PySem.W.Frag} {σ : L2.St} {H H' : Hp} {ta tb tc te tl tx : TE} {t u : TT} {x y z v : V} {r : R2} {P : Program} {w : World}
/-- len(set(xs)) of different rows -/
theorem ev_lenSet {rs : List (List Int)} (ha : Ev ta σ H x) (hr : Rws H x rs) (nd : rs.Nodup) (h60 : rs.length ≤ 60) : Ev (tCB (rLenSetT P w) (tCons (tCB (rSetS K P w) (tCons ta tNil)) tNil)) σ H (.int (rs.length : Int)) := fun H1 e Q q =>
  ha H1 e _ fun H2 e2 => by
    obtain ⟨l, xs, rfl, hs, hp⟩ := hr.ex (e.trans e2)
    obtain ⟨ks, rfl, rfl, hk⟩ := rows_ks hp
    have fin : ∀ s L, H2 s = none → (∀ p ∈ L, p ∈ ks) → (∀ p ∈ ks, p.2 ∈ L.map (·.2)) → rLenSetT P w [.ref s] (upd H2 s (SetTO P w s L)) Q := fun s L hn h1 h2 => by
      have ex : Ex H2 (upd H2 s (SetTO P w s L)) := Ex.new hn
      refine ⟨s, L, rfl, upd_same, fun p hp => ex _ _ (hk p (h1 p hp)), fun hnd => ?_⟩
      have l1 := nodup_len (L.map (·.2)) (ks.map (·.2)) hnd fun x hx => by
        obtain ⟨p, hp, rfl⟩ := List.mem_map.mp hx
        exact List.mem_map_of_mem (h1 p hp)
      have l2 := nodup_len (ks.map (·.2)) (L.map (·.2)) nd fun x hx => by
        obtain ⟨p, hp, rfl⟩ := List.mem_map.mp hx
        exact h2 p hp
      rw [List.length_map] at l1 l2
      rw [List.length_map] at l1 l2
      have el : (L.length : Int) = ((ks.map (·.2)).length : Int) := by rw [List.length_map]; omega
      rw [el]
      exact q _ (e2.trans ex)
    have lk : ks.length < 64 := by rw [List.length_map] at h60; omega
    rcases hs with hs | hs
    · exact .inl ⟨l, ks, rfl, sq_of hs, fun p hp => st_of (hk p hp), lk, fin⟩
    · exact .inr ⟨l, ks, rfl, st_of hs, fun p hp => st_of (hk p hp), lk, fin⟩
end
/-- what cm_core's reading asks, by a walk -/
theorem cm_it {J : It} {n : Nat} {G : Hp → Prop} {Y : Nat → Hp → V → Hp → Prop} (w : Walk J n G Y) {g : TG} {tt : TT} {tk : TK} {vs : List Nat} {σ : L2.St} {H1 : Hp} {D : Addr} {ob : HO} {Qd : Hp → Prop} (Pv : Nat → Hp → Prop) (h0 : Pv 0 (upd H1 D ob)) (hG : ∀ i H, i ≤ n → Pv i H → G H)
    (hs : ∀ i x H H', i < n → Pv i H → Y i H x H' → g x (wipe σ vs) H' fun σ2 H2 => wipe σ2 vs = wipe σ vs ∧ tt σ2 H2 fun b H3 => if b = true then tk D σ2 H3 (Pv (i + 1)) else Pv (i + 1) H3) (hd : ∀ H, Pv n H → Qd H) :
    ∃ W : Nat → Nat → Hp → Prop, (∃ m, W 0 m (upd H1 D ob)) ∧ ∀ i m H, W i m H →
      (J.stop i H ∧ Qd H) ∨ (J.go i H ∧ ∃ Nx : Hp → Prop, (∀ H', Nx H' → ∃ m', m' < m ∧ W (i + 1) m' H') ∧ ∀ x H', J.yld i H x H' → g x (wipe σ vs) H' fun σ2 H2 => wipe σ2 vs = wipe σ vs ∧ tt σ2 H2 fun b H3 => if b = true then tk D σ2 H3 Nx else Nx H3) := by
  refine ⟨fun i m H => m = n - i ∧ i ≤ n ∧ Pv i H, ⟨n, by simp, Nat.zero_le _, h0⟩, ?_⟩
  rintro i m H ⟨rfl, hi, p⟩
  have q := hG i H hi p
  by_cases hlt : i < n
  · refine .inr ⟨w.goes i H hlt q, Pv (i + 1), fun H' p' => ⟨n - (i + 1), by omega, rfl, hlt, p'⟩, fun x H' y => hs i x H H' hlt p (w.yields i H x H' hlt q y)⟩
  · have e : i = n := by omega
    subst e
    exact .inl ⟨w.stops H q, hd H p⟩
section
variable {K : PySem.W.Frag} {σ : L2.St} {H H' : Hp} {ta tb tc te tl tx : TE} {t u : TT} {x y z v : V} {r : R2} {P : Program} {w : World}
theorem two_scan : 1 + 1 < scanBound := by decide
/-- len({.. for ..}), each the same int: none or one -/
theorem ev_lenSet1 {p : Addr} {xs : List V} {j : Nat} {vs : List Nat} {c : Int} (h : Ev tl σ H (.ref p)) (hx : Seq H p xs) (hw : ∀ x, wipe ((wipe σ vs).set j (some x)) vs = wipe σ vs)
    (he : ∀ (x : V) H1, Ex H H1 → x ∈ xs → Ev te ((wipe σ vs).set j (some x)) H1 (.int c)) : EvP (tCB (rLenSetI w) (tCons (tCm (fun D => SetO w D (fun _ => false) 0) (iSeq K tl) (gName j) tYes (kSetI w te) vs) tNil)) σ H (fun v _ => v = .int 0 ∨ v = .int 1) := by
  intro H0 e0 Q q
  let Pv : Hp → Addr → Nat → Hp → Prop := fun H1 D i H' => H1 D = none ∧ Ex H1 H' ∧ ∃ (S : Int → Bool) (n : Nat), H' D = some (SetO w D S n) ∧ (i = 0 → S = (fun _ => false) ∧ n = 0) ∧ (0 < i → S c = true ∧ n = 1)
  have step : ∀ H1, Ex H H1 → ∀ D i x H', x ∈ xs → Pv H1 D i H' → kSetI w te D ((wipe σ vs).set j (some x)) H' (Pv H1 D (i + 1)) := by
    rintro H1 e1 D i x H' hm ⟨hD, ex, S, n, hS, h0, h1⟩
    refine he x H1 e1 hm H' ex _ fun H4 e4 => ⟨c, S, n, rfl, e4 _ _ hS, ?_, hD, Ex.mut (ex.trans e4) hD, _, _, upd_same, (fun z => absurd z (by omega)), fun _ => ?_⟩
    · rcases Nat.eq_zero_or_pos i with z | z
      · rw [(h0 z).2]; exact Nat.lt_of_le_of_lt (by decide) two_scan
      · rw [(h1 z).2]; exact two_scan
    · rcases Nat.eq_zero_or_pos i with z | z
      · obtain ⟨rfl, rfl⟩ := h0 z
        exact ⟨by simp, by simp⟩
      · obtain ⟨s1, s2⟩ := h1 z
        exact ⟨by simp, by rw [if_pos s1]; exact s2⟩
  have fin : ∀ H1, Ex H0 H1 → ∀ D n H', Pv H1 D n H' → rLenSetI w [.ref D] H' Q := by
    rintro H1 e1 D i H' ⟨hD, ex, S, n, hS, h0, h1⟩
    refine ⟨D, S, n, rfl, hS, q _ H' (e1.trans ex) ?_⟩
    rcases Nat.eq_zero_or_pos i with z | z
    · rw [(h0 z).2]; exact .inl rfl
    · rw [(h1 z).2]; exact .inr rfl
  rcases hx with hx | hx
  · refine .inl (h H0 e0 _ fun H1 e1 => ⟨p, rfl, ⟨xs, ex_l (e0.trans e1) (sq_of hx)⟩, fun D hD => ?_⟩)
    refine cm_it (walk_list (K := K) (a := p) (xs := xs)) (Pv H1 D) ⟨hD, Ex.new hD, _, 0, upd_same, fun _ => ⟨rfl, rfl⟩, fun z => nomatch z⟩ (fun i H' _ q => ex_l ((e0.trans e1).trans q.2.1) (sq_of hx)) (fun i x H' H'' hi pv y => ?_) fun H' pv => fin H1 e1 D _ H' pv
    obtain ⟨rfl, hm⟩ := y
    exact ⟨hw x, step H1 (e0.trans e1) D i x _ (List.mem_of_getElem? hm) pv⟩
  · refine .inr (h H0 e0 _ fun H1 e1 => ⟨p, rfl, ⟨xs, ex_t (e0.trans e1) (st_of hx)⟩, fun D hD => ?_⟩)
    refine cm_it (walk_tup (K := K) (a := p) (xs := xs)) (Pv H1 D) ⟨hD, Ex.new hD, _, 0, upd_same, fun _ => ⟨rfl, rfl⟩, fun z => nomatch z⟩ (fun i H' _ q => ex_t ((e0.trans e1).trans q.2.1) (st_of hx)) (fun i x H' H'' hi pv y => ?_) fun H' pv => fin H1 e1 D _ H' pv
    obtain ⟨rfl, hm⟩ := y
    exact ⟨hw x, step H1 (e0.trans e1) D i x _ (List.mem_of_getElem? hm) pv⟩
end
section
variable {P : Program} {w : World} {K : PySem.W.Frag} {mg : Str → Option Value} {base : Heap} {a : Nat → Addr} {d : Nat → FuncData} {tk : Nat → Tok}
/-! are_rows -/
def sp_are_rows : Sp := fun vs H Q _ => ∃ (x : V) (rs : List (List Int)) (n : Nat), vs = [x] ∧ Rws H x rs ∧ OkRows n rs ∧ RetV (.bl true) H Q
theorem ok_are_rows (T : All K mg a d tk) : FnOk P w K mg base CX0 4 (a 4) (d 4) ["value"] sp_are_rows := by
  refine T.F_are_rows.fn.ok sc_are_rows (fun vs H Q E h => ?_) (fun cdv A outer s H vs Q E hr h => ?_)
  · obtain ⟨x, rs, n, rfl, _⟩ := h
    rfl
  · obtain ⟨x, rs, n, rfl, hx, ho, k⟩ := h
    have nd := sc_are_rows.nd
    have hu64 := hr.units
    refine ⟨_, (pss_cons (ps_if (PW.pt (pw_or (pt_not (pt_val (pe_call (ok_is_list T) (hr.mono (by decide)) rfl T.F_is_list.m T.F_is_list.kp T.F_is_list.b .nil pass0 (pa_cons (pv 0) pa_nil)))) (pw_or (pt_cmpR op_gt (pe_callB call_len_seq (by rfl) T.n_len PySem.boot_len (pa_cons (pv 0) pa_nil)) (pe_glob (v := .int 60) rfl T.c_MOST_ROWS ⟨_, rfl⟩) (nomark _)) (pw_or1 (pt_not (pt_val (pe_callB (cr_all rfl) (by rfl) T.n_all PyProof.Rows.boot_all (pa_cons (pe_lc (own := [("item", 1)]) (g := (gName 1)) rfl nd (pi_seq (pv 0)) (blkOk_by (N := N_are_rows) (sc := defScope s_are_rows) (by decide +kernel)) (fun _ _ _ _ _ => (pg_name (i := 1) nd rfl (Or.inl rfl))) (fun _ _ _ _ _ => pts_nil) (fun _ _ _ _ _ => (pe_call (ok_is_any_row T) (hr.mono (by decide)) rfl T.F_is_any_row.m T.F_is_any_row.kp T.F_is_any_row.b .nil pass0 (pa_cons (pv 1) pa_nil)))) pa_nil))))))))
 (pss_one (ps_ret pe_bl))
 pss_nil)
 (pss_one (ps_ret (pe_and (pe_cmpR op_eq (pe_callB call_lenSetT (by rfl) T.n_len PySem.boot_len (pa_cons (pe_callTy (cr_setS rfl hu64) rfl T.n_set PyProof.Rows.boot_set (pa_cons (pv 0) pa_nil)) pa_nil)) (pe_callB call_len_seq (by rfl) T.n_len PySem.boot_len (pa_cons (pv 0) pa_nil)) (nomark _)) (pe_one (pe_cmpR op_le (pe_callB call_lenSetI (by rfl) T.n_len PySem.boot_len (pa_cons (pe_scI (own := [("item", 1)]) (g := (gName 1)) rfl nd (pi_seq (pv 0)) (blkOk_by (N := N_are_rows) (sc := defScope s_are_rows) (by decide +kernel)) (fun _ _ _ _ _ => (pg_name (i := 1) nd rfl (Or.inl rfl))) (fun _ _ _ _ _ => pts_nil) (fun _ _ _ _ _ => (pe_callB (show CallR _ (.builtin "len") (Evl.rLenS K) from call_len_seq) (by rfl) T.n_len PySem.boot_len (pa_cons (pv 1) pa_nil)))) pa_nil)) pe_int (nomark _))))))), ?_⟩
    obtain ⟨p, xs, rfl, hs, hp⟩ := id hx
    have hlen : xs.length = rs.length := Paired.length hp
    have row : ∀ y ∈ xs, ∃ r, IsRow H y r ∧ OkRow n r := fun y hy => let ⟨r, hr, h⟩ := Paired.mem_l hp y hy; ⟨r, h, ho.row r hr⟩
    refine q_when (et_or (et_not (et_B (ev_call (ea_cons (ev_var rfl) ea_nil) (spv_is_list hs)))) fun _ => et_or (et_I0 (ev_lenS (ev_var rfl) hs) ev_c) fun _ => et_not (et_B (ev_allT (el_lcSm (fun _ => .bl true) (ev_var rfl) hs (by rw [hlen]; have := ho.few; omega) (fun _ => rfl) fun y H2 e2 hy => ?_)))) (fun h => ?_) fun _ H1 e1 => ?_
    · obtain ⟨r, h1, h2⟩ := row y hy
      exact ev_call (ea_cons (ev_var rfl) ea_nil) (spv_is_any_row (h1.ex e2) h2 ho.w1 ho.w5)
    · have := ho.few
      have z : decide ((60 : Int) < (xs.length : Int)) = false := decide_eq_false (by omega)
      rw [z] at h
      exact absurd h (by decide)
    · have l1 := ev_lenSet (K := K) (P := P) (w := w) (σ := start N_are_rows [V.ref p]) (ta := tVar 0) (ev_var rfl) hx ho.nd ho.few
      have l2 : Ev (tCB (rLenS K) (tCons (tVar 0) tNil)) (start N_are_rows [V.ref p]) H (.int (rs.length : Int)) := by
        rw [← hlen]
        exact ev_lenS (ev_var rfl) hs
      have l3 := ev_lenSet1 (K := K) (w := w) (te := tCB (rLenS K) (tCons (tVar 1) tNil)) (j := 1) (vs := [1]) (c := (n : Int)) (ev_var (σ := start N_are_rows [V.ref p]) (i := 0) rfl) hs (fun _ => rfl) fun y H2 e2 hy => by
        obtain ⟨r, ⟨b, rfl, hb⟩, h2⟩ := row y hy
        refine ev_is (ev_lenS (ev_var rfl) (.inr (e2 _ _ hb))) ?_
        rw [List.length_map, h2.1]
      refine (ev_op l1 l2 (rv_eq rfl)) H1 e1 _ fun H2 e2 => ⟨_, rfl, ?_⟩
      have z : decide (V.int (rs.length : Int) = V.int (rs.length : Int)) = true := decide_eq_true rfl
      rw [z]
      rw [if_pos rfl]
      unfold tOp
      refine l3 H2 (e1.trans e2) _ fun v H3 e3 hv => ?_
      have last : ∀ i : Int, i = 0 ∨ i = 1 → Q (V.bl (decide (i ≤ 1))) H3 := fun i hi => by
        rw [decide_eq_true (by omega)]
        exact k _ ((e1.trans e2).trans e3)
      rcases hv with rfl | rfl
      · exact ⟨0, 1, rfl, rfl, last 0 (.inl rfl)⟩
      · exact ⟨1, 1, rfl, rfl, last 1 (.inr rfl)⟩
theorem spv_are_rows {x : V} {rs : List (List Int)} {n : Nat} {H : Hp} (h : Rws H x rs) (ho : OkRows n rs) : SpV sp_are_rows [x] H (.bl true) := fun H1 e Q q _ => ⟨x, rs, n, rfl, h.ex e, ho, q⟩
/-! need_rows -/
def sp_need_rows : Sp := fun vs H Q _ => ∃ (x : V) (rs : List (List Int)) (n : Nat), vs = [x] ∧ Rws H x rs ∧ OkRows n rs ∧ RetV .non H Q
theorem ok_need_rows (T : All K mg a d tk) : FnOk P w K mg base CX0 5 (a 5) (d 5) ["value"] sp_need_rows := by
  refine T.F_need_rows.fn.ok sc_need_rows (fun vs H Q E h => ?_) (fun cdv A outer s H vs Q E hr h => ?_)
  · obtain ⟨x, rs, n, rfl, _⟩ := h
    rfl
  · obtain ⟨x, rs, n, rfl, hx, ho, k⟩ := h
    have nd := sc_need_rows.nd
    refine ⟨_, (pss_one (ps_if (pt_not (pt_val (pe_call (ok_are_rows T) (hr.mono (by decide)) rfl T.F_are_rows.m T.F_are_rows.kp T.F_are_rows.b .nil pass0 (pa_cons (pv 0) pa_nil))))
 (pss_one ps_dead)
 pss_nil)), ?_⟩
    exact s_when (et_not (et_B (ev_call (ea_cons (ev_var rfl) ea_nil) (spv_are_rows hx ho)))) (fun h => absurd h (by decide)) fun _ H1 e1 => k H1 e1
theorem spv_need_rows {x : V} {rs : List (List Int)} {n : Nat} {H : Hp} (h : Rws H x rs) (ho : OkRows n rs) : SpV sp_need_rows [x] H .non := fun H1 e Q q _ => ⟨x, rs, n, rfl, h.ex e, ho, q⟩
end
end Mv
/-! Rows as data; sorted lists of them; need_pair, need_lists. -/
namespace Mv
open PySem PySem.Spec PyProof.Rows L2 Evl
def rd (r : List Int) : PyData := .tuple (r.map PyData.int)
theorem lay_ints : ∀ r : List Int, PyData.canLayAll0 (r.map PyData.int) = true
  | [] => rfl
  | i :: r => by
    rw [List.map_cons, PyData.canLayAll0, lay_ints r] <;> rfl
theorem lay_rows : ∀ rs : List (List Int), PyData.canLayAll0 (rs.map rd) = true
  | [] => rfl
  | r :: rs => by
    rw [List.map_cons, PyData.canLayAll0, lay_rows rs]
    unfold rd
    rw [PyData.canLay0, lay_ints] <;> rfl
theorem deep_ints : ∀ r : List Int, PyData.depthAll (r.map PyData.int) ≤ 2
  | [] => by simp [PyData.depthAll]
  | i :: r => by
    have := deep_ints r
    simp only [List.map_cons, PyData.depthAll, PyData.depth]
    omega
theorem deep_row (r : List Int) : (rd r).depth ≤ 3 := by
  have := deep_ints r
  unfold rd
  simp only [PyData.depth]
  omega
theorem deep_rows : ∀ rs : List (List Int), PyData.depthAll (rs.map rd) ≤ 3
  | [] => by simp [PyData.depthAll]
  | r :: rs => by
    have := deep_rows rs
    have := deep_row r
    simp only [List.map_cons, PyData.depthAll]
    omega
theorem shaped_row (r : List Int) : SeqAt.shaped (rd r) = true := by
  have := deep_row r
  unfold SeqAt.shaped
  have e : (rd r).canLay0 = true := by
    unfold rd
    rw [PyData.canLay0, lay_ints]
  rw [e, decide_eq_true (by omega)] <;> rfl
theorem shaped_rows (rs : List (List Int)) : SeqAt.shaped (.list (rs.map rd)) = true := by
  have := deep_rows rs
  unfold SeqAt.shaped
  have e : (PyData.list (rs.map rd)).canLay0 = true := by rw [PyData.canLay0, lay_rows]
  have e2 : (PyData.list (rs.map rd)).depth ≤ 64 := by
    simp only [PyData.depth]
    omega
  rw [e, decide_eq_true e2] <;> rfl
theorem eqv_ints : ∀ r q : List Int, PyData.eqvAll (r.map PyData.int) (q.map PyData.int) = decide (r = q)
  | [], [] => by simp [PyData.eqvAll]
  | [], _ :: _ => by simp [PyData.eqvAll]
  | _ :: _, [] => by simp [PyData.eqvAll]
  | i :: r, j :: q => by
    rw [List.map_cons, List.map_cons, PyData.eqvAll, eqv_ints r q, PyData.eqv]
    by_cases h : i = j
    · by_cases h2 : r = q <;> simp [h, h2]
    · simp [h]
theorem eqv_row (r q : List Int) : PyData.eqv (rd r) (rd q) = decide (r = q) := by
  unfold rd
  rw [PyData.eqv, eqv_ints]
section
variable {K : PySem.W.Frag} {H : Hp}
theorem dp_ints : ∀ r : List Int, DpAll K H (r.map V.int) (r.map PyData.int)
  | [] => .nil
  | i :: r => .cons (.int i) (dp_ints r)
theorem IsRow.dp {x : V} {r : List Int} (h : IsRow H x r) : Dp K H x (rd r) := by
  obtain ⟨b, rfl, hb⟩ := h
  exact .tup (st_of hb) (dp_ints r)
theorem dp_rows : ∀ {xs : List V} {rs : List (List Int)}, Paired (IsRow H) xs rs → DpAll K H xs (rs.map rd)
  | _, _, .nil => .nil
  | _, _, .cons h t => .cons h.dp (dp_rows t)
end
/-! order -/
theorem code_inj {B : Int} : ∀ r q : List Int, r.length = q.length → TS.Bd B r → TS.Bd B q → TS.code B r = TS.code B q → r = q
  | [], [], _, _, _, _ => rfl
  | [], _ :: _, h, _, _, _ => by simp at h
  | _ :: _, [], h, _, _, _ => by simp at h
  | i :: r, j :: q, h, h1, h2, e => by
    have hl : r.length = q.length := by simpa using h
    rcases Int.lt_trichotomy i j with z | z | z
    · exact absurd e (Int.ne_of_lt (TS.code_lt hl h1.tail h2.tail z))
    · subst z
      have e2 : TS.code B r = TS.code B q := by
        have a := not_congr (TS.code_same (B := B) (d := i) hl)
        have b := not_congr (TS.code_same (B := B) (d := i) hl.symm)
        rw [e] at a b
        have a := a.mp (Int.lt_irrefl _)
        have b := b.mp (Int.lt_irrefl _)
        omega
      rw [code_inj r q hl h1.tail h2.tail e2]
    · exact absurd e.symm (Int.ne_of_lt (TS.code_lt hl.symm h2.tail h1.tail z))
theorem perm_map_inv {α β : Type} {f : α → β} {l₁ l₂ : List β} (h : l₁.Perm l₂) : ∀ ks : List α, l₂ = ks.map f → ∃ ks' : List α, ks'.Perm ks ∧ l₁ = ks'.map f := by
  induction h with
  | nil =>
    intro ks e
    have : ks = [] := List.map_eq_nil_iff.mp e.symm
    subst this
    exact ⟨[], .refl _, rfl⟩
  | cons x h ih =>
    intro ks e
    cases ks with
    | nil => cases e
    | cons k ks =>
      rw [List.map_cons, List.cons.injEq] at e
      obtain ⟨ks', p, e'⟩ := ih ks e.2
      exact ⟨k :: ks', p.cons k, by rw [List.map_cons, e', e.1]⟩
  | swap x y l =>
    intro ks e
    match ks, e with
    | [], e => cases e
    | [_], e => cases e
    | k1 :: k2 :: ks, e =>
      rw [List.map_cons, List.map_cons, List.cons.injEq, List.cons.injEq] at e
      exact ⟨k2 :: k1 :: ks, .swap _ _ _, by rw [List.map_cons, List.map_cons, e.1, e.2.1, e.2.2]⟩
  | trans _ _ ih1 ih2 =>
    intro ks e
    obtain ⟨k2, p2, e2⟩ := ih2 ks e
    obtain ⟨k1, p1, e1⟩ := ih1 k2 e2
    exact ⟨k1, p1.trans p2, e1⟩
theorem OkRow.bd {n : Nat} {r : List Int} (h : OkRow n r) : TS.Bd 1000 r := fun i hi => ⟨(h.2 i hi).1, by have := (h.2 i hi).2; omega⟩
def SortedRows (cs rs : List (List Int)) : Prop := cs.Perm rs ∧ cs.Pairwise (fun p q => TS.code 1000 p ≤ TS.code 1000 q)
theorem sorted_same {n : Nat} {cs ds rs qs : List (List Int)} (h1 : SortedRows cs rs) (h2 : SortedRows ds qs) (ho : ∀ r ∈ rs, OkRow n r) (pm : qs.Perm rs) : cs = ds := by
  have pd : cs.Perm ds := h1.1.trans (pm.symm.trans h2.1.symm)
  refine List.Perm.eq_of_pairwise (le := fun p q => TS.code 1000 p ≤ TS.code 1000 q) (fun p q hp hq a b => ?_) h1.2 h2.2 pd
  have o1 := ho p (h1.1.mem_iff.mp hp)
  have o2 := ho q (pm.mem_iff.mp (h2.1.mem_iff.mp hq))
  exact code_inj p q (o1.1.trans o2.1.symm) o1.bd o2.bd (Int.le_antisymm a b)
section
variable {K : PySem.W.Frag} {σ : L2.St} {H H' : Hp} {ta tb tc te tl tx : TE} {t u : TT} {x y z v : V} {r : R2} {P : Program} {w : World}
def NewRows (P : List (List Int) → Prop) (p : Addr) (H2 : Hp) : Prop := ∃ cs xs, P cs ∧ H2 p = some (.lst xs) ∧ Paired (IsRow H2) xs cs
theorem ef_sorted {n : Nat} {rs : List (List Int)} (ha : Ev ta σ H x) (hx : Rws H x rs) (ho : ∀ r ∈ rs, OkRow n r) (h60 : rs.length < 64) : EvF (tCB (rSortS K n 1000) (tCons ta tNil)) σ H (NewRows fun cs => SortedRows cs rs) := fun H1 e Q q =>
  ha H1 e _ fun H2 e2 => by
    obtain ⟨l, xs, rfl, hs, hp⟩ := hx.ex (e.trans e2)
    obtain ⟨ks, rfl, rfl, hk⟩ := rows_ks hp
    have hrow : ∀ x ∈ ks.map (fun p => V.ref p.1), ∃ ns, TupI K H2 x ns ∧ ns.length = n ∧ TS.Bd 1000 ns := fun x hx => by
      obtain ⟨p, hp, rfl⟩ := List.mem_map.mp hx
      have o := ho p.2 (List.mem_map_of_mem hp)
      exact ⟨p.2, ⟨p.1, rfl, st_of (hk p hp)⟩, o.1, o.bd⟩
    have hlen : (ks.map (fun p => V.ref p.1)).length < 64 := by
      rw [List.length_map] at h60 ⊢
      exact h60
    have fin : ∀ (ys : List V) (p : Addr), ys.Perm (ks.map (fun p => V.ref p.1)) → ys.Pairwise (fun x y => ∀ n m, TupI K H2 x n → TupI K H2 y m → TS.code 1000 n ≤ TS.code 1000 m) → H2 p = none → Q (.ref p) (upd H2 p (.lst ys)) := fun ys p pm pw hn => by
      obtain ⟨ks', pk, rfl⟩ := perm_map_inv pm ks rfl
      have ex : Ex H2 (upd H2 p (.lst (ks'.map fun p => V.ref p.1))) := Ex.new hn
      have hk' : ∀ q ∈ ks', H2 q.1 = some (.tup (q.2.map V.int)) := fun q hq => hk q (pk.mem_iff.mp hq)
      refine q p _ (fresh_back e2 hn) (e2.trans ex) ⟨ks'.map (·.2), ks'.map (fun p => V.ref p.1), ⟨pk.map _, ?_⟩, upd_same, ?_⟩
      · rw [List.pairwise_map] at pw ⊢
        refine List.Pairwise.imp_of_mem (fun {a b} ha hb h => h a.2 b.2 ⟨a.1, rfl, st_of (hk' a ha)⟩ ⟨b.1, rfl, st_of (hk' b hb)⟩) pw
      · have : ∀ l : List (Addr × List Int), (∀ q ∈ l, H2 q.1 = some (.tup (q.2.map V.int))) → Paired (IsRow (upd H2 p (.lst (ks'.map fun p => V.ref p.1)))) (l.map fun p => V.ref p.1) (l.map (·.2)) := by
          intro l
          induction l with
          | nil => exact fun _ => .nil
          | cons a l ih => exact fun h => .cons ⟨a.1, rfl, ex _ _ (h a List.mem_cons_self)⟩ (ih fun q hq => h q (List.mem_cons_of_mem _ hq))
        exact this ks' hk'
    rcases hs with hs | hs
    · exact .inl ⟨l, _, rfl, sq_of hs, hlen, hrow, fin⟩
    · exact .inr ⟨l, _, rfl, st_of hs, hlen, hrow, fin⟩
/-- sorted(xs) != sorted(ys) of the same rows is false -/
theorem et_sortedNe {n : Nat} {rs qs : List (List Int)} (ha : Ev ta σ H x) (hx : Rws H x rs) (hb : Ev tb σ H y) (hy : Rws H y qs) (ho : ∀ r ∈ rs, OkRow n r) (h60 : rs.length < 64) (pm : qs.Perm rs) :
    EvT (tTest (tOp (rNeD K) (tCB (rSortS K n 1000) (tCons ta tNil)) (tCB (rSortS K n 1000) (tCons tb tNil)))) σ H false := fun H1 e Q q =>
  ef_sorted ha hx ho h60 H1 e _ fun p H2 _ e2 ⟨cs, xs, h1, h2, h3⟩ =>
    ef_sorted hb hy (fun r hr => ho r (pm.mem_iff.mp hr)) (by rw [pm.length_eq]; exact h60) H2 (e.trans e2) _ fun p' H3 _ e3 ⟨ds, ys, g1, g2, g3⟩ => by
      have e0 : cs = ds := sorted_same h1 g1 ho pm
      subst e0
      refine ⟨.list (cs.map rd), .list (cs.map rd), .lst (sq_of (e3 _ _ h2)) (dp_rows (Paired.imp (fun _ _ z => z.ex e3) h3)), .lst (sq_of g2) (dp_rows g3), shaped_rows _, shaped_rows _, false, ?_, q H3 (e2.trans e3)⟩
      rw [SeqAt.eqv_refl _ (SeqAt.canLay_of_shaped (shaped_rows cs))] <;> rfl
end
section
variable {P : Program} {w : World} {K : PySem.W.Frag} {mg : Str → Option Value} {base : Heap} {a : Nat → Addr} {d : Nat → FuncData} {tk : Nat → Tok}
/-! need_pair -/
def sp_need_pair : Sp := fun vs H Q _ => ∃ (x y : V) (rs qs : List (List Int)) (n : Nat), vs = [x, y] ∧ Rws H x rs ∧ Rws H y qs ∧ OkRows n rs ∧ qs.Perm rs ∧ RetV .non H Q
theorem OkRows.perm {n : Nat} {rs qs : List (List Int)} (h : OkRows n rs) (p : qs.Perm rs) : OkRows n qs := ⟨h.w1, h.w5, p.nodup_iff.mpr h.nd, fun r hr => h.row r (p.mem_iff.mp hr), by rw [p.length_eq]; exact h.few⟩
theorem ok_need_pair (T : All K mg a d tk) : FnOk P w K mg base CX0 6 (a 6) (d 6) ["one", "other"] sp_need_pair := by
  refine T.F_need_pair.fn.ok sc_need_pair (fun vs H Q E h => ?_) (fun cdv A outer s H vs Q E hr h => ?_)
  · obtain ⟨x, y, rs, qs, n, rfl, _⟩ := h
    rfl
  · obtain ⟨x, y, rs, qs, dd, rfl, hx, hy, ho, pm, k⟩ := h
    have nd := sc_need_pair.nd
    have hu64 := hr.units
    have hdd := ho.w1
    refine ⟨_, (pss_cons (ps_expr (pe_call (ok_need_rows T) (hr.mono (by decide)) rfl T.F_need_rows.m T.F_need_rows.kp T.F_need_rows.b .nil pass0 (pa_cons (pv 0) pa_nil)))
 (pss_cons (ps_expr (pe_call (ok_need_rows T) (hr.mono (by decide)) rfl T.F_need_rows.m T.F_need_rows.kp T.F_need_rows.b .nil pass0 (pa_cons (pv 1) pa_nil)))
 (pss_one (ps_if (pt_cmpR (op_neD hu64) (pe_callB (cr_sortS (d := dd) (B := 1000) hdd) (by rfl) T.n_sorted PyProof.Rows.boot_sorted (pa_cons (pv 0) pa_nil)) (pe_callB (cr_sortS (d := dd) (B := 1000) hdd) (by rfl) T.n_sorted PyProof.Rows.boot_sorted (pa_cons (pv 1) pa_nil)) (nomark _))
 (pss_one ps_dead)
 pss_nil)))), ?_⟩
    refine q_drop (ev_call (ea_cons (ev_var rfl) ea_nil) (spv_need_rows hx ho)) fun H1 e1 => ?_
    refine q_drop (ev_call (ea_cons (ev_var rfl) ea_nil) (spv_need_rows (hy.ex e1) (ho.perm pm))) fun H2 e2 => ?_
    have e12 := e1.trans e2
    exact s_when (et_sortedNe (ev_var rfl) (hx.ex e12) (ev_var rfl) (hy.ex e12) ho.row (by have := ho.few; omega) pm) (fun h => nomatch h) fun _ H3 e3 => k H3 (e12.trans e3)
theorem spv_need_pair {x y : V} {rs qs : List (List Int)} {n : Nat} {H : Hp} (h1 : Rws H x rs) (h2 : Rws H y qs) (ho : OkRows n rs) (pm : qs.Perm rs) : SpV sp_need_pair [x, y] H .non := fun H1 e Q q _ => ⟨x, y, rs, qs, n, rfl, h1.ex e, h2.ex e, ho, pm, q⟩
end
end Mv
/-! need_lists, places_of; dicts of rows. -/
namespace Mv
open PySem PySem.Spec PyProof.Rows L2 Evl
section
variable {K : PySem.W.Frag} {σ : L2.St} {H H' : Hp} {ta tb tc te tl tx : TE} {t u : TT} {x y z v : V} {r : R2} {P : Program} {w : World} {D : Ends} {tu tz : TS}
theorem Seq.sqL {a : Addr} {xs : List V} (h : H a = some (.lst xs)) : SqL K H a xs := sq_of h
/-- for x in xs, a list or a tuple that stays -/
theorem s_forS {a : Addr} {xs : List V} {j : Nat} (h : Ev tl σ H (.ref a)) (hx : Seq H a xs) (Pv : Nat → L2.St → Hp → Prop) (h0 : ∀ H1, Ex H H1 → Pv 0 σ H1) (hl : ∀ i σ' H', i ≤ xs.length → Pv i σ' H' → H' a = H a)
    (hs : ∀ i x σ' H', xs[i]? = some x → Pv i σ' H' → tu { D with nx := Pv (i + 1), ct := Pv (i + 1), bk := D.nx } (σ'.set j (some x)) H') (hd : ∀ σ' H', Pv xs.length σ' H' → D.nx σ' H') : tFor (iSeq K tl) (gName j) tu D σ H := by
  rcases hx with hx | hx
  · exact .inl (h H (Ex.refl H) _ fun H1 e => ⟨a, rfl, ⟨xs, ex_l e (sq_of hx)⟩, for_list Pv (h0 H1 e) (fun i σ' H' hi p => sq_of ((hl i σ' H' hi p).trans hx)) hs hd⟩)
  · exact .inr (h H (Ex.refl H) _ fun H1 e => ⟨a, rfl, ⟨xs, ex_t e (st_of hx)⟩, for_tup Pv (h0 H1 e) (fun i σ' H' hi p => st_of ((hl i σ' H' hi p).trans hx)) hs hd⟩)
theorem q_forS {a : Addr} {xs : List V} {j : Nat} (h : Ev tl σ H (.ref a)) (hx : Seq H a xs) (Pv : Nat → L2.St → Hp → Prop) (h0 : ∀ H1, Ex H H1 → Pv 0 σ H1) (hl : ∀ i σ' H', i ≤ xs.length → Pv i σ' H' → H' a = H a)
    (hs : ∀ i x σ' H', xs[i]? = some x → Pv i σ' H' → tu { D with nx := Pv (i + 1), ct := Pv (i + 1), bk := tz D } (σ'.set j (some x)) H') (hd : ∀ σ' H', Pv xs.length σ' H' → tz D σ' H') : tSeq (tFor (iSeq K tl) (gName j) tu) tz D σ H :=
  s_forS (D := { D with nx := tz D }) h hx Pv h0 hl hs hd
theorem rv_ixS {p : Addr} {xs : List V} {i : Int} (h : Seq H p xs) (ha : atI xs i = some v) : RV (rIx K) (.ref p) (.int i) H v := fun H1 e _ q => by
  rcases h.ex e with h | h
  · exact .inl ⟨p, xs, i, v, rfl, rfl, sq_of h, ha, q H1 (Ex.refl H1)⟩
  · exact .inr (.inl ⟨p, xs, i, v, rfl, rfl, st_of h, ha, q H1 (Ex.refl H1)⟩)
theorem ev_ixS {p : Addr} {xs : List V} {i : Int} (ha : Ev ta σ H (.ref p)) (hb : Ev tb σ H (.int i)) (h : Seq H p xs) (hi : atI xs i = some v) : Ev (tOp (rIx K) ta tb) σ H v := ev_op ha hb (rv_ixS h hi)
theorem Seq.keep {a : Addr} {xs : List V} (h : Seq H a xs) (e : H' a = H a) : Seq H' a xs := h.elim (fun z => .inl (e.trans z)) fun z => .inr (e.trans z)
end
/-- the lists that the program takes: one to six, the same rows in each -/
structure OkLists (n : Nat) (Ls : List (List (List Int))) : Prop where
  ne : Ls ≠ []
  six : Ls.length ≤ 6
  ok : ∀ rs ∈ Ls, OkRows n rs
  pm : ∀ rs ∈ Ls, ∀ qs ∈ Ls, qs.Perm rs
section
variable {P : Program} {w : World} {K : PySem.W.Frag} {mg : Str → Option Value} {base : Heap} {a : Nat → Addr} {d : Nat → FuncData} {tk : Nat → Tok}
/-! need_lists -/
end
/-! dicts by rows -/
def ky (r : List Int) : List Key := r.map Sum.inl
theorem ky_kV (r : List Int) : (ky r).map kV = r.map V.int := by
  unfold ky
  rw [List.map_map]
  rfl
theorem ky_inj {r q : List Int} (h : ky r = ky q) : r = q := by
  unfold ky at h
  induction r generalizing q with
  | nil =>
    cases q with
    | nil => rfl
    | cons _ _ => cases h
  | cons i r ih =>
    cases q with
    | nil => cases h
    | cons j q =>
      rw [List.map_cons, List.map_cons, List.cons.injEq] at h
      have e := h.1
      cases e
      rw [ih h.2]
def dtab (rs : List (List Int)) (f : List Int → V) : List (List Key × V) := rs.map fun r => (ky r, f r)
theorem dtab_len (rs : List (List Int)) (f : List Int → V) : (dtab rs f).length = rs.length := List.length_map _
theorem dtab_val (f : List Int → V) (r : List Int) : ∀ rs : List (List Int), valV (dtab rs f) (ky r) = if r ∈ rs then some (f r) else none
  | [] => rfl
  | q :: rs => by
    show valV ((ky q, f q) :: dtab rs f) (ky r) = _
    by_cases e : q = r
    · subst e
      rw [valV_pos rfl, if_pos List.mem_cons_self]
    · rw [valV_neg (fun z => e (ky_inj z)), dtab_val f r rs]
      by_cases h : r ∈ rs
      · rw [if_pos h, if_pos (List.mem_cons_of_mem _ h)]
      · rw [if_neg h, if_neg (fun z => h ((List.mem_cons.mp z).resolve_left fun z => e z.symm))]
theorem dtab_congr {f g : List Int → V} {rs : List (List Int)} (h : ∀ r ∈ rs, f r = g r) : dtab rs f = dtab rs g := List.map_congr_left fun r hr => by rw [h r hr]
def fset (f : List Int → V) (r : List Int) (v : V) : List Int → V := fun q => if q = r then v else f q
theorem dtab_put_old {rs : List (List Int)} {f : List Int → V} {r : List Int} {v : V} (h : r ∈ rs) : putK (dtab rs f) (ky r) v = dtab rs (fset f r v) := by
  unfold putK
  rw [valV_any, dtab_val, if_pos h]
  show (if true = true then _ else _) = _
  rw [if_pos rfl]
  unfold dtab
  rw [List.map_map]
  refine List.map_congr_left fun q _ => ?_
  show (if ky q = ky r then (ky q, v) else (ky q, f q)) = (ky q, fset f r v q)
  unfold fset
  by_cases e : q = r
  · rw [if_pos (by rw [e]), if_pos e]
  · rw [if_neg (fun z => e (ky_inj z)), if_neg e]
theorem dtab_put_new {rs : List (List Int)} {f : List Int → V} {r : List Int} {v : V} (h : r ∉ rs) : putK (dtab rs f) (ky r) v = dtab (rs ++ [r]) (fset f r v) := by
  rw [putK_new v (by rw [dtab_val, if_neg h])]
  unfold dtab
  rw [List.map_append]
  congr 1
  · refine List.map_congr_left fun q hq => ?_
    unfold fset
    rw [if_neg (fun (z : q = r) => h (z ▸ hq))]
  · show [(ky r, v)] = [(ky r, fset f r v r)]
    unfold fset
    rw [if_pos rfl]
theorem IsRow.key {H : Hp} {x : V} {r : List Int} (h : IsRow H x r) : ∃ b, x = .ref b ∧ H b = some (.tup ((ky r).map kV)) := by
  obtain ⟨b, e, hb⟩ := h
  exact ⟨b, e, by rw [ky_kV]; exact hb⟩
theorem dget_row {H : Hp} {p : Addr} {rs : List (List Int)} {f : List Int → V} {x : V} {r : List Int} (hp : H p = some (.dT (dtab rs f))) (hx : IsRow H x r) (hr : r ∈ rs) : DGet H p x (some (f r)) := by
  obtain ⟨b, rfl, hb⟩ := hx.key
  have z := DGet.t hp hb
  rwa [dtab_val, if_pos hr] at z
theorem dput_old {H : Hp} {p : Addr} {rs : List (List Int)} {f : List Int → V} {x v : V} {r : List Int} (hp : H p = some (.dT (dtab rs f))) (hx : IsRow H x r) (hr : r ∈ rs) (hl : rs.length ≤ 100) : DPut H p x v (upd H p (.dT (dtab rs (fset f r v)))) := by
  obtain ⟨b, rfl, hb⟩ := hx.key
  have z := DPut.t (v := v) hp hb (by rw [dtab_len]; exact sz_lt (by omega))
  rwa [dtab_put_old hr] at z
theorem dput_new {H : Hp} {p : Addr} {rs : List (List Int)} {f : List Int → V} {x v : V} {r : List Int} (hp : H p = some (.dT (dtab rs f))) (hx : IsRow H x r) (hr : r ∉ rs) (hl : rs.length ≤ 100) : DPut H p x v (upd H p (.dT (dtab (rs ++ [r]) (fset f r v)))) := by
  obtain ⟨b, rfl, hb⟩ := hx.key
  have z := DPut.t (v := v) hp hb (by rw [dtab_len]; exact sz_lt (by omega))
  rwa [dtab_put_new hr] at z
section
variable {K : PySem.W.Frag} {σ : L2.St} {H H' : Hp} {ta tb tc te tl tx : TE} {t u : TT} {x y z v : V}
theorem ev_dget {p : Addr} {rs : List (List Int)} {f : List Int → V} {r : List Int} (ha : Ev ta σ H (.ref p)) (hb : Ev tb σ H x) (hp : H p = some (.dT (dtab rs f))) (hx : IsRow H x r) (hr : r ∈ rs) : Ev (tDGet ta tb) σ H (f r) :=
  fun H1 e Q q => ha H1 e _ fun H2 e2 => hb H2 (e.trans e2) _ fun H3 e3 => ⟨p, f r, rfl, dget_row (((e.trans e2).trans e3) _ _ hp) (hx.ex ((e.trans e2).trans e3)) hr, q H3 (e2.trans e3)⟩
end
section
variable {P : Program} {w : World} {K : PySem.W.Frag} {mg : Str → Option Value} {base : Heap} {a : Nat → Addr} {d : Nat → FuncData} {tk : Nat → Tok}
/-! places_of -/
def plc (rs : List (List Int)) : List Int → V := fun r => .int (rs.idxOf r : Nat)
theorem idxOf_at {rs : List (List Int)} (hn : rs.Nodup) {i : Nat} {r : List Int} (h : rs[i]? = some r) : rs.idxOf r = i := by
  obtain ⟨hi, rfl⟩ := List.getElem?_eq_some_iff.mp h
  exact hn.idxOf_getElem i hi
def sp_places_of : Sp := fun vs H Q _ => ∃ (x : V) (rs : List (List Int)), vs = [x] ∧ Rws H x rs ∧ rs.Nodup ∧ rs.length ≤ 60 ∧ ∀ p H2, H p = none → Ex H H2 → H2 p = some (.dT (dtab rs (plc rs))) → Q (.ref p) H2
theorem ok_places_of (T : All K mg a d tk) : FnOk P w K mg base CX0 1 (a 7) (d 7) ["rows"] sp_places_of := by
  refine T.F_places_of.fn.ok sc_places_of (fun vs H Q E h => ?_) (fun cdv A outer s H vs Q E hr h => ?_)
  · obtain ⟨x, rs, rfl, _⟩ := h
    rfl
  · obtain ⟨x, rs, rfl, hx, hn, h60, k⟩ := h
    have nd := sc_places_of.nd
    have hu0 := hr.units0
    refine ⟨_, (pss_one (ps_ret (pe_dcT (own := [("place", 1), ("row", 2)]) (g := (gTup K 2 (gCons (gName 1) (gCons (gName 2) gNil)))) hu0 rfl nd (pi_enumS rfl T.n_enumerate (pa_cons (pv 0) pa_nil)) (blkOk_by (N := N_places_of) (sc := defScope s_places_of) (by decide +kernel)) (fun _ _ _ _ _ => (pg_tup rfl (pgs_cons (pg_name (i := 1) nd rfl (Or.inl rfl)) (pgs_cons (pg_name (i := 2) nd rfl (Or.inl rfl)) pgs_nil)))) (fun _ _ _ _ _ => pts_nil) (fun _ _ _ _ _ => (pv 2)) (fun _ _ _ _ _ => (pv 1))))), ?_⟩
    obtain ⟨p, xs, rfl, hs, hp⟩ := id hx
    have hlen : xs.length = rs.length := Paired.length hp
    let Pv : Addr → Nat → Hp → Prop := fun D i H' => H D = none ∧ Ex H H' ∧ H' D = some (.dT (dtab (rs.take i) (plc rs)))
    have turn : ∀ (D : Addr) (i : Nat) (y : V) (H' H'' : Hp), i < xs.length → Pv D i H' → YPair (fun i => some (.int (i : Nat))) (fun i => xs[i]?) i H' y H'' →
        gTup K 2 (gCons (gName 1) (gCons (gName 2) gNil)) y (wipe (start N_places_of [.ref p]) [1, 2]) H'' fun σ2 H2 => wipe σ2 [1, 2] = wipe (start N_places_of [.ref p]) [1, 2] ∧ kDict (tVar 2) (tVar 1) D σ2 H2 (Pv D (i + 1)) := by
      rintro D i y H' H'' hi ⟨hD, ex, hd⟩ ⟨T2, x1, x2, rfl, hT, rfl, e1, e2⟩
      cases e1
      have exT : Ex H' (upd H' T2 (.tup [.int (i : Nat), x2])) := Ex.new hT
      obtain ⟨r, hr, hrow⟩ := Paired.at_l hp i x2 e2
      have hnr : r ∉ rs.take i := fun hm => by
        obtain ⟨j, hj, ej⟩ := List.mem_iff_getElem.mp hm
        have hj2 : j < i := by rw [List.length_take] at hj; omega
        have g : rs[j]? = some r := by
          rw [List.getElem_take] at ej
          rw [← ej]
          exact List.getElem?_eq_getElem _
        have a1 := idxOf_at hn g
        have a2 := idxOf_at hn hr
        omega
      refine ⟨T2, _, rfl, st_of upd_same, rfl, _, _, rfl, _, _, rfl, rfl, rfl, x2, rfl, .int (i : Nat), rfl, _, dput_new (exT _ _ hd) (hrow.ex (ex.trans exT)) hnr (by rw [List.length_take]; omega), hD, Ex.mut (ex.trans exT) hD, ?_⟩
      rw [upd_same]
      have et : rs.take (i + 1) = rs.take i ++ [r] := take_next hr
      rw [et]
      refine congrArg (fun z => some (HO.dT z)) (dtab_congr fun q hq => ?_)
      unfold fset
      by_cases e : q = r
      · rw [if_pos e, e]
        unfold plc
        rw [idxOf_at hn hr]
      · rw [if_neg e]
    have fin : ∀ D H', Pv D xs.length H' → Q (.ref D) H' := fun D H' ⟨hD, ex, hd⟩ => by
      rw [hlen, List.take_length] at hd
      exact k D H' hD ex hd
    rcases hs with hs | hs
    · refine .inl ⟨_, rfl, p, xs, rfl, sq_of hs, fun D hD => ?_⟩
      exact cm_it (walk_enum (K := K) (a := p) (xs := xs)) (Pv D) ⟨hD, Ex.new hD, upd_same⟩ (fun i H' _ ⟨_, e, _⟩ => sq_of (e _ _ hs)) (fun i y H' H'' hi pv yy => turn D i y H' H'' hi pv yy) fun H' pv => fin D H' pv
    · refine .inr ⟨_, rfl, p, xs, rfl, st_of hs, fun D hD => ?_⟩
      exact cm_it (walk_enumU (K := K) (a := p) (xs := xs)) (Pv D) ⟨hD, Ex.new hD, upd_same⟩ (fun i H' _ ⟨_, e, _⟩ => st_of (e _ _ hs)) (fun i y H' H'' hi pv yy => turn D i y H' H'' hi pv yy) fun H' pv => fin D H' pv
end
end Mv
/-! levels_of. -/
namespace Mv
open PySem PySem.Spec PyProof.Rows L2 Evl
/-- q stands ahead of r in every list -/
def Ah (Ls : List (List (List Int))) (q r : List Int) : Bool := Ls.all fun L => decide (L.idxOf q < L.idxOf r)
theorem Ah.lt {Ls : List (List (List Int))} {q r : List Int} {L : List (List Int)} (h : Ah Ls q r = true) (hL : L ∈ Ls) : L.idxOf q < L.idxOf r := of_decide_eq_true (List.all_eq_true.mp h L hL)
structure LevOn (Ls : List (List (List Int))) (S : List (List Int)) (lev : List Int → Nat) (ahd : List Int → Option (List Int)) : Prop where
  lt : ∀ r ∈ S, ∀ q ∈ S, Ah Ls q r = true → lev q < lev r
  how : ∀ r ∈ S, (lev r = 0 ∧ ahd r = none) ∨ ∃ q ∈ S, Ah Ls q r = true ∧ lev r = lev q + 1 ∧ ahd r = some q
def nset {α : Type} (f : List Int → α) (r : List Int) (c : α) : List Int → α := fun q => if q = r then c else f q
theorem nset_same {α : Type} {f : List Int → α} {r : List Int} {c : α} : nset f r c r = c := if_pos rfl
theorem nset_ne {α : Type} {f : List Int → α} {r q : List Int} {c : α} (h : q ≠ r) : nset f r c q = f q := if_neg h
/-- what the inner loop knows: c the level, o the one ahead, of r among T -/
structure Inner (Ls : List (List (List Int))) (S T : List (List Int)) (lev : List Int → Nat) (r : List Int) (c : Nat) (o : Option (List Int)) : Prop where
  lt : ∀ q ∈ T, q ≠ r → Ah Ls q r = true → lev q < c
  how : (c = 0 ∧ o = none) ∨ ∃ q ∈ S, Ah Ls q r = true ∧ c = lev q + 1 ∧ o = some q
theorem LevOn.snoc {Ls : List (List (List Int))} {S : List (List Int)} {lev : List Int → Nat} {ahd : List Int → Option (List Int)} {r : List Int} {c : Nat} {o : Option (List Int)} (h : LevOn Ls S lev ahd) (hr : r ∉ S) (irr : Ah Ls r r = false) (back : ∀ q ∈ S, Ah Ls r q = false)
    (i : Inner Ls S S lev r c o) : LevOn Ls (S ++ [r]) (nset lev r c) (nset ahd r o) where
  lt := fun r2 h2 q2 h1 ha => by
    have m : ∀ {q : List Int}, q ∈ S → q ≠ r := fun hq e => hr (e ▸ hq)
    rcases List.mem_append.mp h2 with h2 | h2
    · rcases List.mem_append.mp h1 with h1 | h1
      · rw [nset_ne (m h1), nset_ne (m h2)]
        exact h.lt r2 h2 q2 h1 ha
      · rw [List.mem_singleton.mp h1, back r2 h2] at ha
        cases ha
    · have e2 := List.mem_singleton.mp h2
      subst e2
      rcases List.mem_append.mp h1 with h1 | h1
      · rw [nset_ne (m h1), nset_same]
        exact i.lt q2 h1 (m h1) ha
      · rw [List.mem_singleton.mp h1, irr] at ha
        cases ha
  how := fun r2 h2 => by
    have m : ∀ {q : List Int}, q ∈ S → q ≠ r := fun hq e => hr (e ▸ hq)
    rcases List.mem_append.mp h2 with h2 | h2
    · rw [nset_ne (m h2), nset_ne (m h2)]
      rcases h.how r2 h2 with z | ⟨q, hq, h3, h4, h5⟩
      · exact .inl z
      · exact .inr ⟨q, List.mem_append_left _ hq, h3, by rw [nset_ne (m hq)]; exact h4, h5⟩
    · have e2 := List.mem_singleton.mp h2
      subst e2
      rw [nset_same, nset_same]
      rcases i.how with z | ⟨q, hq, h3, h4, h5⟩
      · exact .inl z
      · exact .inr ⟨q, List.mem_append_left _ hq, h3, by rw [nset_ne (m hq)]; exact h4, h5⟩
def AhV (H : Hp) (v : V) : Option (List Int) → Prop
  | none => v = .non
  | some q => IsRow H v q
theorem AhV.ex {H H' : Hp} {v : V} {o : Option (List Int)} (h : AhV H v o) (e : Ex H H') : AhV H' v o := by
  cases o with
  | none => exact h
  | some q => exact IsRow.ex h e
theorem IsRow.upd {H : Hp} {v : V} {q : List Int} {p : Addr} {o o' : HO} (h : IsRow H v q) (hp : H p = some o) (ne : ∀ xs, o ≠ .tup xs) : IsRow (upd H p o') v q := by
  obtain ⟨b, e, hb⟩ := h
  refine ⟨b, e, (upd_ne fun z => ?_).trans hb⟩
  rw [z, hp] at hb
  exact ne _ (Option.some.inj hb)
theorem AhV.upd {H : Hp} {v : V} {o : Option (List Int)} {p : Addr} {u u' : HO} (h : AhV H v o) (hp : H p = some u) (ne : ∀ xs, u ≠ .tup xs) : AhV (L2.upd H p u') v o := by
  cases o with
  | none => exact h
  | some q => exact IsRow.upd h hp ne
theorem given_all (out : List V) : given out.length (fun _ => true) (fun i => out.getD i .non) = out := by
  have z := given_eq out (fun _ => true) (fun x => x)
  rw [filter_true, List.map_id'] at z
  exact z
section
variable {K : PySem.W.Frag} {σ : L2.St} {H H' : Hp} {ta tb tc te tl tx : TE} {t u : TT} {x y z v : V} {D : Ends}
/-- over a list, by what is given for each -/
theorem el_lcR {a : Addr} {xs out : List V} {j : Nat} {vs : List Nat} (h : Ev tl σ H (.ref a)) (hx : SqL K H a xs) (hz : xs.length ≤ 40000) (hl : xs.length = out.length) (hw : ∀ x, wipe ((wipe σ vs).set j (some x)) vs = wipe σ vs)
    (he : ∀ (i : Nat) (x y : V) H1, Ex H H1 → xs[i]? = some x → out[i]? = some y → Ev te ((wipe σ vs).set j (some x)) H1 y) : EvL (tLc (iList K tl) (gName j) tYes te vs) σ H out := by
  have z := el_lcL (K := K) (t := tYes) (te := te) (fun _ => true) (fun i => out.getD i .non) h hx hz hw (fun _ _ _ _ _ => et_yes) fun i x H1 e hi _ => by
    have hi2 : i < out.length := by rw [← hl]; exact (List.getElem?_eq_some_iff.mp hi).1
    refine he i x _ H1 e hi ?_
    rw [List.getD_eq_getElem?_getD, List.getElem?_eq_getElem hi2] <;> rfl
  rw [hl, given_all] at z
  exact z
/-- elements that are new objects -/
theorem lc_fresh {J : It} {n : Nat} {G : Hp → Prop} (f : Nat → V) (w : Walk J n G (fun i H x H' => H' = H ∧ f i = x)) {vs : List Nat} {H1 : Hp} {Dl : Addr} {j : Nat} {Qd : Hp → Prop} (hD : H1 Dl = none) (hn : n ≤ 1000) (hG : ∀ H', Ex H1 H' → G H') (hw : ∀ x, wipe ((wipe σ vs).set j (some x)) vs = wipe σ vs) (O : Nat → HO → Prop)
    (he : ∀ i, i < n → ∀ H', Ex H1 H' → ∀ Q : VK, (∀ p H2, H' p = none → Ex H' H2 → (∃ o, H2 p = some o ∧ O i o) → Q (.ref p) H2) → te ((wipe σ vs).set j (some (f i))) H' Q)
    (hd : ∀ H' ys, Ex H1 H' → H' Dl = some (.lst ys) → ys.length = n → (∀ (i : Nat) (y : V), ys[i]? = some y → ∃ q o, y = .ref q ∧ H1 q = none ∧ q ≠ Dl ∧ H' q = some o ∧ O i o) → Qd H') :
    ∃ W : Nat → Nat → Hp → Prop, (∃ m, W 0 m (upd H1 Dl (.lst []))) ∧ ∀ i m H, W i m H →
      (J.stop i H ∧ Qd H) ∨ (J.go i H ∧ ∃ Nx : Hp → Prop, (∀ H', Nx H' → ∃ m', m' < m ∧ W (i + 1) m' H') ∧ ∀ x H', J.yld i H x H' → gName j x (wipe σ vs) H' fun σ2 H2 => wipe σ2 vs = wipe σ vs ∧ tYes σ2 H2 fun b H3 =>
        if b = true then te σ2 H3 fun y H4 => ∃ acc, H4 Dl = some (.lst acc) ∧ acc.length < sizeLine ∧ Nx (upd H4 Dl (.lst (acc ++ [y]))) else Nx H3) := by
  refine lc_it w (fun i H' => Ex H1 H' ∧ ∃ ys : List V, H' Dl = some (.lst ys) ∧ ys.length = i ∧ ∀ (k : Nat) (y : V), ys[k]? = some y → ∃ q o, y = .ref q ∧ H1 q = none ∧ q ≠ Dl ∧ H' q = some o ∧ O k o)
    ⟨Ex.new hD, [], upd_same, rfl, fun k y h => by simp at h⟩ (fun i H' _ p => hG H' p.1) ?_ fun H' ⟨e, ys, h1, h2, h3⟩ => hd H' ys e h1 h2 h3
  rintro i x H' H'' hi ⟨e, ys, h1, h2, h3⟩ ⟨rfl, rfl⟩
  refine ⟨hw _, ?_⟩
  show te _ _ _
  refine he i hi H'' e _ fun p H2 hp e2 ⟨o, ho, hO⟩ => ⟨ys, e2 _ _ h1, Nat.lt_of_le_of_lt (by rw [h2]; omega) (show 1000 < sizeLine by decide), Ex.mut (e.trans e2) hD, ys ++ [.ref p], upd_same, by rw [List.length_append, h2] <;> rfl, fun k y hk => ?_⟩
  have npD : p ≠ Dl := fun z => by rw [z, h1] at hp; cases hp
  rcases Nat.lt_or_ge k ys.length with hlt | hge
  · rw [List.getElem?_append_left hlt] at hk
    obtain ⟨q, o2, z1, z2, z3, z4, z5⟩ := h3 k y hk
    exact ⟨q, o2, z1, z2, z3, by rw [upd_ne z3]; exact e2 _ _ z4, z5⟩
  · rw [List.getElem?_append_right hge] at hk
    have hk0 : k = ys.length := by
      have := (List.getElem?_eq_some_iff.mp hk).1
      simp at this
      omega
    subst hk0
    rw [Nat.sub_self] at hk
    cases (Option.some.inj (show some _ = some y from hk))
    rw [h2]
    exact ⟨p, o, rfl, fresh_back e hp, npD, by rw [upd_ne npD]; exact ho, hO⟩
/-- two stores by one tuple -/
theorem s_put2 {i1 i2 ir : Nat} {p1 p2 : Addr} {v1 v2 : V} {ta : TA} (h : EvA ta σ H [v1, v2]) (h1 : σ[i1]? = some (some (.ref p1))) (h2 : σ[i2]? = some (some (.ref p2))) (hr : σ[ir]? = some (some x))
    (k : ∀ H1, Ex H H1 → ∃ H2 H3, DPut H1 p1 x v1 H2 ∧ DPut H2 p2 x v2 H3 ∧ D.nx σ H3) :
    tAsg (tTup ta) (gTup K 2 (gCons (gSub (tVar i1) (tVar ir) fun o i v H Q => ∃ (a : Addr) (H' : Hp), o = .ref a ∧ DPut H a i v H' ∧ Q H') (gCons (gSub (tVar i2) (tVar ir) fun o i v H Q => ∃ (a : Addr) (H' : Hp), o = .ref a ∧ DPut H a i v H' ∧ Q H') gNil))) D σ H := by
  refine h H (Ex.refl H) _ fun H1 e1 => ⟨sz_of (show 2 ≤ 100000 by decide), fun t ht => ?_⟩
  obtain ⟨H2, H3, q1, q2, q3⟩ := k _ (e1.trans (Ex.new (o := .tup [v1, v2]) ht))
  exact ⟨t, _, rfl, st_of upd_same, rfl, v1, _, rfl, _, h1, _, hr, p1, H2, rfl, q1, v2, _, rfl, _, h2, _, hr, p2, H3, rfl, q2, rfl, q3⟩
theorem q_put2 {i1 i2 ir : Nat} {p1 p2 : Addr} {v1 v2 : V} {ta : TA} {tz : TS} (h : EvA ta σ H [v1, v2]) (h1 : σ[i1]? = some (some (.ref p1))) (h2 : σ[i2]? = some (some (.ref p2))) (hr : σ[ir]? = some (some x))
    (k : ∀ H1, Ex H H1 → ∃ H2 H3, DPut H1 p1 x v1 H2 ∧ DPut H2 p2 x v2 H3 ∧ tz D σ H3) :
    tSeq (tAsg (tTup ta) (gTup K 2 (gCons (gSub (tVar i1) (tVar ir) fun o i v H Q => ∃ (a : Addr) (H' : Hp), o = .ref a ∧ DPut H a i v H' ∧ Q H') (gCons (gSub (tVar i2) (tVar ir) fun o i v H Q => ∃ (a : Addr) (H' : Hp), o = .ref a ∧ DPut H a i v H' ∧ Q H') gNil)))) tz D σ H := s_put2 (D := { D with nx := tz D }) h h1 h2 hr k
end
/-- the places' dicts of the lists -/
def PlcAt (H : Hp) (ys : List V) (Ls : List (List (List Int))) : Prop := Paired (fun y L => ∃ q, y = .ref q ∧ H q = some (.dT (dtab L (plc L)))) ys Ls
theorem PlcAt.ex {H H' : Hp} {ys : List V} {Ls : List (List (List Int))} (h : PlcAt H ys Ls) (e : Ex H H') : PlcAt H' ys Ls := Paired.imp (fun _ _ ⟨q, h1, h2⟩ => ⟨q, h1, e _ _ h2⟩) h
theorem paired_of {α β : Type} {F : α → β → Prop} : ∀ {xs : List α} {ys : List β}, xs.length = ys.length → (∀ (i : Nat) (x : α) (y : β), xs[i]? = some x → ys[i]? = some y → F x y) → Paired F xs ys
  | [], [], _, _ => .nil
  | [], _ :: _, h, _ => by simp at h
  | _ :: _, [], h, _ => by simp at h
  | x :: xs, y :: ys, h, f => .cons (f 0 x y rfl rfl) (paired_of (by simpa using h) fun i a b h1 h2 => f (i + 1) a b h1 h2)
section
variable {P : Program} {w : World} {K : PySem.W.Frag} {mg : Str → Option Value} {base : Heap} {a : Nat → Addr} {d : Nat → FuncData} {tk : Nat → Tok}
def LevRes (Ls : List (List (List Int))) (R : List (List Int)) (t : Addr) (H2 : Hp) : Prop := ∃ (p1 p2 : Addr) (lev : List Int → Nat) (ahd : List Int → Option (List Int)) (g : List Int → V), H2 t = some (.tup [.ref p1, .ref p2]) ∧ H2 p1 = some (.dT (dtab R fun r => .int (lev r : Nat))) ∧ H2 p2 = some (.dT (dtab R g)) ∧
  (∀ r ∈ R, AhV H2 (g r) (ahd r)) ∧ LevOn Ls R lev ahd
end
end Mv
/-! common_rows, common_levels. -/
namespace Mv
open PySem PySem.Spec PyProof.Rows L2 Evl
/-- each stands ahead of the next -/
def Chn (Ls : List (List (List Int))) : List (List Int) → Prop
  | [] => True
  | [_] => True
  | q :: r :: l => Ah Ls q r = true ∧ Chn Ls (r :: l)
def oLev (lev : List Int → Nat) : Option (List Int) → Nat
  | none => 0
  | some r => lev r + 1
structure IsCount (R : List (List Int)) (lev : List Int → Nat) (M : Nat) : Prop where
  lt : ∀ r ∈ R, lev r < M
  nil : R = [] → M = 0
  hit : R ≠ [] → ∃ r ∈ R, lev r + 1 = M
theorem Paired.append {α β : Type} {F : α → β → Prop} : ∀ {xs : List α} {ys : List β} {xs2 : List α} {ys2 : List β}, Paired F xs ys → Paired F xs2 ys2 → Paired F (xs ++ xs2) (ys ++ ys2)
  | _, _, _, _, .nil, q => q
  | _, _, _, _, .cons h t, q => .cons h (Paired.append t q)
theorem Paired.rev {α β : Type} {F : α → β → Prop} : ∀ {xs : List α} {ys : List β}, Paired F xs ys → Paired F xs.reverse ys.reverse
  | _, _, .nil => .nil
  | _, _, .cons h t => by
    rw [List.reverse_cons, List.reverse_cons]
    exact Paired.append (Paired.rev t) (.cons h .nil)
theorem Paired.filter {α β : Type} {F : α → β → Prop} {f : α → Bool} {g : β → Bool} : ∀ {xs : List α} {ys : List β}, Paired F xs ys → (∀ x ∈ xs, ∀ y, F x y → f x = g y) → Paired F (xs.filter f) (ys.filter g)
  | _, _, .nil, _ => .nil
  | x :: _, y :: _, .cons h t, e => by
    have ih := Paired.filter t fun a ha => e a (List.mem_cons_of_mem _ ha)
    have e1 := e x List.mem_cons_self y h
    cases hf : f x with
    | true =>
      rw [List.filter_cons, if_pos hf, List.filter_cons, if_pos (by rw [← e1]; exact hf)]
      exact .cons h ih
    | false =>
      rw [List.filter_cons, if_neg (by rw [hf]; decide), List.filter_cons, if_neg (by rw [← e1, hf]; decide)]
      exact ih
theorem map_int_inj : ∀ {r q : List Int}, r.map V.int = q.map V.int → r = q
  | [], [], _ => rfl
  | [], _ :: _, h => by cases h
  | _ :: _, [], h => by cases h
  | i :: r, j :: q, h => by
    rw [List.map_cons, List.map_cons, List.cons.injEq] at h
    have e := h.1
    cases e
    rw [map_int_inj h.2]
theorem IsRow.fn {H : Hp} {x : V} {r q : List Int} (h1 : IsRow H x r) (h2 : IsRow H x q) : r = q := by
  obtain ⟨b, rfl, hb⟩ := h1
  obtain ⟨c, e, hc⟩ := h2
  cases e
  rw [hb] at hc
  have z := Option.some.inj hc
  have z2 : r.map V.int = q.map V.int := by
    injection z
  exact map_int_inj z2
theorem IsRow.nn {H : Hp} {x : V} {r : List Int} (h : IsRow H x r) : x ≠ .non := by
  obtain ⟨b, rfl, _⟩ := h
  exact fun z => nomatch z
theorem AhV.non_iff {H : Hp} {v : V} {o : Option (List Int)} (h : AhV H v o) : decide (v = .non) = o.isNone := by
  cases o with
  | none => exact decide_eq_true h
  | some q => exact decide_eq_false (IsRow.nn h)
section
variable {K : PySem.W.Frag} {σ : L2.St} {H H' : Hp} {ta tb tc te tl tx : TE} {t u : TT} {x y z v : V} {D : Ends}
/-- while row is not None: found.append(row); row = ahead[row]; return found[::-1] -/
theorem chase {Ls : List (List (List Int))} {R : List (List Int)} {lev : List Int → Nat} {ahd : List Int → Option (List Int)} {g : List Int → V} {ia jf ir : Nat} {p2 fl : Addr} {B : Hp} {v0 : V} {o0 : Option (List Int)} {M : Nat}
    (L : LevOn Ls R lev ahd) (h60 : R.length ≤ 60) (h1 : σ[ia]? = some (some (.ref p2))) (h2 : σ[jf]? = some (some (.ref fl))) (h3 : σ[ir]? = some (some v0)) (n1 : ia ≠ ir) (n2 : jf ≠ ir) (eB : Ex B H) (nf : B fl = none) (hf : H fl = some (.lst [])) (hp2 : H p2 = some (.dT (dtab R g)))
    (hg : ∀ r ∈ R, AhV H (g r) (ahd r)) (hv : AhV H v0 o0) (ho : ∀ r, o0 = some r → r ∈ R) (hM : oLev lev o0 = M) (hM60 : M ≤ 1000)
    (k : ∀ p H2 ys ds, B p = none → Ex B H2 → H2 p = some (.lst ys) → Paired (IsRow H2) ys ds → Chn Ls ds → (∀ q ∈ ds, q ∈ R) → ds.length = M → D.rt (.ref p) H2) :
    tSeq (tWhile (tB (tNotN (tVar ir))) (tSeq (tDrop (tBM K "list" rAppend (tVar jf) (tCons (tVar ir) tNil))) (tAsg (tDGet (tVar ia) (tVar ir)) (gName ir)))) (tRet (tRevL K (tVar jf))) D σ H := by
  have hir : ir < σ.length := (List.getElem?_eq_some_iff.mp h3).1
  let W : Nat → L2.St → Hp → Prop := fun m σ' H' => Ex B H' ∧ H' p2 = some (.dT (dtab R g)) ∧ (∀ r ∈ R, AhV H' (g r) (ahd r)) ∧ ∃ (v : V) (o : Option (List Int)) (fs : List V) (ds : List (List Int)), σ' = σ.set ir (some v) ∧ AhV H' v o ∧ (∀ r, o = some r → r ∈ R) ∧ m = oLev lev o ∧
    H' fl = some (.lst fs) ∧ Paired (IsRow H') fs ds.reverse ∧ Chn Ls ds ∧ (∀ q ∈ ds, q ∈ R) ∧ ds.length + m = M ∧ (∀ r q l, o = some r → ds = q :: l → Ah Ls r q = true)
  have e0 : σ.set ir (some v0) = σ := by
    apply List.ext_getElem?
    intro i
    by_cases e : ir = i
    · subst e
      rw [List.getElem?_set_self hir, h3]
    · rw [List.getElem?_set_ne e]
  refine q_while W M ⟨eB, hp2, hg, v0, o0, [], [], e0.symm, hv, ho, hM.symm, hf, .nil, trivial, fun q hq => (by cases hq), Nat.zero_add _, fun r q l _ e => (by cases e)⟩ ?_
  rintro m σ' H' ⟨e', d2, dg, v, o, fs, ds, rfl, hv', ho', hm, hfs, hpr, hch, hmem, hlen, hlink⟩
  have gr : (σ.set ir (some v))[ir]? = some (some v) := List.getElem?_set_self hir
  have ga : (σ.set ir (some v))[ia]? = some (some (.ref p2)) := by rw [List.getElem?_set_ne (Ne.symm n1)]; exact h1
  have gf : (σ.set ir (some v))[jf]? = some (some (.ref fl)) := by rw [List.getElem?_set_ne (Ne.symm n2)]; exact h2
  refine ⟨!decide (v = .non), fun H1 e1 Q q => ⟨v, gr, _, rfl, q H1 (Ex.refl H1)⟩, fun hb H1 e1 => ?_, fun hb H1 e1 => ?_⟩
  · rw [AhV.non_iff hv'] at hb
    cases o with
    | none => cases hb
    | some r =>
      have hr : r ∈ R := ho' r rfl
      have hrow : IsRow H' v r := hv'
      have hm : m = lev r + 1 := hm
      refine ⟨fun σ2 H2 => ∃ m', m' < m ∧ W m' σ2 H2, fun _ _ h => h, ?_⟩
      refine q_app (e1 _ _ hfs) (ev_var gf) (ev_var gr) (by have a := Paired.length hpr; rw [List.length_reverse] at a; omega) fun H2 e2 => ?_
      have e12 := e1.trans e2
      have nt : ∀ xs', HO.lst fs ≠ .tup xs' := fun _ z => by cases z
      have mv : ∀ {x : V} {q : List Int}, IsRow H' x q → IsRow (upd H2 fl (.lst (fs ++ [v]))) x q := fun h => (h.ex e12).upd (e12 _ _ hfs) nt
      have mvA : ∀ {x : V} {o : Option (List Int)}, AhV H' x o → AhV (upd H2 fl (.lst (fs ++ [v]))) x o := fun h => AhV.upd (h.ex e12) (e12 _ _ hfs) nt
      have npf : p2 ≠ fl := fun z => by rw [z, hfs] at d2; cases d2
      have d2' : upd H2 fl (.lst (fs ++ [v])) p2 = some (.dT (dtab R g)) := by rw [upd_ne npf]; exact e12 _ _ d2
      refine s_asg (ev_dget (ev_var ga) (ev_var gr) d2' (mv hrow) hr) fun H3 e3 => ?_
      have hg' := mvA (dg r hr)
      have hlen' : ∀ m', (oLev lev (ahd r) = m') → m' = lev r := fun m' h => by
        rcases L.how r hr with ⟨z1, z2⟩ | ⟨q, _, _, z1, z2⟩
        · rw [z2] at h
          show m' = lev r
          rw [z1]; exact h.symm
        · rw [z2] at h
          rw [z1]; exact h.symm
      have hm' := hlen' _ rfl
      refine ⟨_, ?_, (Ex.mut (e'.trans e12) nf).trans e3, e3 _ _ d2', fun q hq => (mvA (dg q hq)).ex e3, g r, ahd r, fs ++ [v], r :: ds, ?_, hg'.ex e3, fun q hq => ?_, rfl, e3 _ _ upd_same, ?_, ?_, fun q hq => ?_, ?_, fun q q2 l hq he => ?_⟩
      · rw [hm', hm]; exact Nat.lt_succ_self _
      · rw [List.set_set]
      · rcases L.how r hr with ⟨_, z2⟩ | ⟨q', h1, _, _, z2⟩
        · rw [z2] at hq; cases hq
        · rw [z2] at hq; cases hq; exact h1
      · rw [List.reverse_cons]
        exact Paired.append (Paired.imp (fun _ _ h => (mv h).ex e3) hpr) (.cons ((mv hrow).ex e3) .nil)
      · cases ds with
        | nil => exact trivial
        | cons q l => exact ⟨hlink r q l rfl rfl, hch⟩
      · rcases List.mem_cons.mp hq with z | z
        · rw [z]; exact hr
        · exact hmem q z
      · rw [List.length_cons, hm']
        omega
      · cases he
        rcases L.how r hr with ⟨_, z2⟩ | ⟨q', _, h2, _, z2⟩
        · rw [z2] at hq; cases hq
        · rw [z2] at hq; cases hq; exact h2
  · rw [AhV.non_iff hv'] at hb
    cases o with
    | some r => cases hb
    | none =>
      have hm : m = 0 := hm
      refine ⟨_, gf, fl, fs, rfl, sq_of (e1 _ _ hfs), fun p hp => ?_⟩
      have eN : Ex H1 (upd H1 p (.lst fs.reverse)) := Ex.new hp
      refine k p _ fs.reverse ds (fresh_back (e'.trans e1) hp) ((e'.trans e1).trans eN) upd_same ?_ hch hmem (by omega)
      have z := Paired.rev hpr
      rw [List.reverse_reverse] at z
      exact Paired.imp (fun _ _ h => h.ex (e1.trans eN)) z
/-- the greatest value of a dict by rows -/
theorem ev_maxV {p : Addr} {R : List (List Int)} {lev : List Int → Nat} {m : Nat} (ha : Ev ta σ H (.ref p)) (hp : H p = some (.dT (dtab R fun r => .int (lev r : Nat)))) (hR : R ≠ []) (hm : ∃ r ∈ R, lev r = m) (hb : ∀ r ∈ R, lev r ≤ m) :
    Ev (tCB rMaxV (tCons (tBM0 K "dict" rValuesT ta) tNil)) σ H (.int (m : Int)) := fun H1 e Q q =>
  ha H1 e _ fun H2 e2 => ⟨.inr (.inr (.inl ⟨rfl, .inr ⟨_, (e.trans e2) _ _ hp⟩⟩)), p, _, rfl, rfl, (e.trans e2) _ _ hp, fun s hs => by
    have eN : Ex H2 (upd H2 s (valuesO s p)) := Ex.new hs
    refine ⟨s, p, _, R.map fun r => (lev r : Int), rfl, upd_same, eN _ _ ((e.trans e2) _ _ hp), ?_, fun z => hR (List.map_eq_nil_iff.mp z), fun mx hmx => ?_⟩
    · unfold dtab
      rw [List.map_map, List.map_map]
      rfl
    · obtain ⟨r0, h0, e0⟩ := hm
      obtain ⟨r1, h1, e1⟩ := List.mem_map.mp hmx.1
      have a1 := hmx.2 _ (List.mem_map_of_mem (f := fun r => (lev r : Int)) h0)
      have a2 := hb r1 h1
      have a1 : (lev r0 : Int) ≤ mx := a1
      have e1 : (lev r1 : Int) = mx := e1
      have em : mx = (m : Int) := by omega
      rw [em]
      exact q _ (e2.trans eN)⟩
theorem ev_maxVD {p : Addr} {R : List (List Int)} {lev : List Int → Nat} {M : Nat} (ha : Ev ta σ H (.ref p)) (hb : Ev tb σ H (.int (-1))) (hp : H p = some (.dT (dtab R fun r => .int (lev r : Nat)))) (hM : IsCount R lev M) :
    Ev (tCKw rMaxVD (tCons (tBM0 K "dict" rValuesT ta) tNil) (tCons tb tNil)) σ H (.int ((M : Int) - 1)) := fun H1 e Q q =>
  ha H1 e _ fun H2 e2 => ⟨.inr (.inr (.inl ⟨rfl, .inr ⟨_, (e.trans e2) _ _ hp⟩⟩)), p, _, rfl, rfl, (e.trans e2) _ _ hp, fun s hs => by
    have eN : Ex H2 (upd H2 s (valuesO s p)) := Ex.new hs
    refine hb _ ((e.trans e2).trans eN) _ fun H3 e3 => ?_
    refine ⟨s, p, _, R.map fun r => (lev r : Int), .int (-1), rfl, rfl, e3 _ _ upd_same, (eN.trans e3) _ _ ((e.trans e2) _ _ hp), ?_, fun z => ?_, fun mx hmx => ?_⟩
    · unfold dtab
      rw [List.map_map, List.map_map]
      rfl
    · rw [hM.nil (List.map_eq_nil_iff.mp z)] at q
      exact q _ ((e2.trans eN).trans e3)
    · obtain ⟨r1, h1, e1⟩ := List.mem_map.mp hmx.1
      obtain ⟨r0, h0, e0⟩ := hM.hit fun z => by rw [z] at h1; cases h1
      have a1 := hmx.2 _ (List.mem_map_of_mem (f := fun r => (lev r : Int)) h0)
      have a2 := hM.lt r1 h1
      have a1 : (lev r0 : Int) ≤ mx := a1
      have e1 : (lev r1 : Int) = mx := e1
      have em : mx = (M : Int) - 1 := by omega
      rw [em]
      exact q _ ((e2.trans eN).trans e3)⟩
theorem cutV_1 (xs : List V) : cutV xs none (some 1) = xs.take 1 := by
  unfold cutV
  show (xs.drop 0).take (HT.sIx xs.length xs.length (some ((1 : Nat) : Int)) - 0) = xs.take 1
  rw [HT.sIx_nat, List.drop_zero, Nat.sub_zero]
  cases xs with
  | nil => rfl
  | cons x l =>
    have : min 1 (x :: l).length = 1 := by rw [List.length_cons]; omega
    rw [this]
theorem el_slN {tl th : TO} {xs : List V} {lo hi : Option Int} (h : EvL te σ H xs) (h1 : EvO tl σ H lo) (h2 : EvO th σ H hi) : EvL (tSl (rSlL K) te tl th) σ H (cutV xs lo hi) := fun H1 e _ q =>
  h H1 e _ fun a H2 _ e2 hs => h1 H2 (e.trans e2) _ fun H3 e3 => h2 H3 ((e.trans e2).trans e3) _ fun H4 e4 =>
    ⟨a, xs, rfl, sq_of ((e3.trans e4) _ _ hs), fun p hp => q p _ (fresh_back ((e2.trans e3).trans e4) hp) (((e2.trans e3).trans e4).trans (Ex.new hp)) upd_same⟩
/-- xs != [] , xs == [] -/
theorem ev_neNil {a : Addr} {xs : List V} (ha : Ev ta σ H (.ref a)) (hx : SqL K H a xs) : Ev (tOp (rNilEq K true) ta (tLst tNil)) σ H (.bl (!xs.isEmpty)) := fun H1 e Q q =>
  ha H1 e _ fun H2 e2 => ⟨Nat.zero_le _, fun p hp => ⟨a, p, xs, rfl, rfl, ex_l ((e.trans e2).trans (Ex.new hp)) hx, sq_of upd_same, q _ (e2.trans (Ex.new hp))⟩⟩
theorem ev_eqNil {a : Addr} {xs : List V} (ha : Ev ta σ H (.ref a)) (hx : SqL K H a xs) : Ev (tOp (rNilEq K false) ta (tLst tNil)) σ H (.bl xs.isEmpty) := fun H1 e Q q =>
  ha H1 e _ fun H2 e2 => ⟨Nat.zero_le _, fun p hp => ⟨a, p, xs, rfl, rfl, ex_l ((e.trans e2).trans (Ex.new hp)) hx, sq_of upd_same, q _ (e2.trans (Ex.new hp))⟩⟩
theorem ev_neNilN {xs : List V} (ha : EvL ta σ H xs) : Ev (tOp (rNilEq K true) ta (tLst tNil)) σ H (.bl (!xs.isEmpty)) := fun H1 e Q q =>
  ha H1 e _ fun a H2 _ e2 hx => ⟨Nat.zero_le _, fun p hp => ⟨a, p, xs, rfl, rfl, sq_of ((Ex.new hp) _ _ hx), sq_of upd_same, q _ (e2.trans (Ex.new hp))⟩⟩
theorem ev_eqNilN {xs : List V} (ha : EvL ta σ H xs) : Ev (tOp (rNilEq K false) ta (tLst tNil)) σ H (.bl xs.isEmpty) := fun H1 e Q q =>
  ha H1 e _ fun a H2 _ e2 hx => ⟨Nat.zero_le _, fun p hp => ⟨a, p, xs, rfl, rfl, sq_of ((Ex.new hp) _ _ hx), sq_of upd_same, q _ (e2.trans (Ex.new hp))⟩⟩
theorem ev_ixL {p : Addr} {xs : List V} {i : Int} (ha : Ev ta σ H (.ref p)) (hb : Ev tb σ H (.int i)) (h : SqL K H p xs) (hi : atI xs i = some v) : Ev (tOp (rIxL K) ta tb) σ H v := ev_op ha hb (rv_ixL h hi)
end
open Classical in
/-- the filter by what a row is -/
noncomputable def byRow (H : Hp) (g : List Int → Bool) (x : V) : Bool := decide (∃ r, IsRow H x r ∧ g r = true)
open Classical in
theorem byRow_eq {H : Hp} {g : List Int → Bool} {x : V} {r : List Int} (h : IsRow H x r) : byRow H g x = g r := by
  unfold byRow
  cases e : g r with
  | true => exact decide_eq_true ⟨r, h, e⟩
  | false =>
    refine decide_eq_false fun ⟨q, hq, eq⟩ => ?_
    rw [← h.fn hq, e] at eq
    cases eq
theorem exists_count (R : List (List Int)) (lev : List Int → Nat) : ∃ M, IsCount R lev M := by
  induction R with
  | nil => exact ⟨0, ⟨fun r h => absurd h (by simp), fun _ => rfl, fun h => absurd rfl h⟩⟩
  | cons r R ih =>
    obtain ⟨M, hM⟩ := ih
    by_cases h : lev r + 1 ≤ M
    · refine ⟨M, ⟨fun q hq => ?_, fun z => absurd z (by simp), fun _ => ?_⟩⟩
      · rcases List.mem_cons.mp hq with z | z
        · rw [z]; exact h
        · exact hM.lt q z
      · have hne : R ≠ [] := fun z => by have := hM.nil z; omega
        obtain ⟨q, hq, e⟩ := hM.hit hne
        exact ⟨q, List.mem_cons_of_mem _ hq, e⟩
    · refine ⟨lev r + 1, ⟨fun q hq => ?_, fun z => absurd z (by simp), fun _ => ⟨r, List.mem_cons_self, rfl⟩⟩⟩
      rcases List.mem_cons.mp hq with z | z
      · rw [z]; exact Nat.lt_succ_self _
      · have := hM.lt q z; omega
theorem LevOn.bound {Ls : List (List (List Int))} {R : List (List Int)} {lev : List Int → Nat} {ahd : List Int → Option (List Int)} (L : LevOn Ls R lev ahd) {R0 : List (List Int)} (h0 : R0 ∈ Ls) : ∀ (k : Nat) (r : List Int), r ∈ R → R0.idxOf r = k → lev r ≤ k := by
  intro k
  induction k using Nat.strongRecOn with
  | ind k ih =>
    intro r hr e
    rcases L.how r hr with ⟨z, _⟩ | ⟨q, hq, h1, h2, _⟩
    · omega
    · have lt := Ah.lt h1 h0
      have := ih (R0.idxOf q) (by omega) q hq rfl
      omega
section
variable {P : Program} {w : World} {K : PySem.W.Frag} {mg : Str → Option Value} {base : Heap} {a : Nat → Addr} {d : Nat → FuncData} {tk : Nat → Tok}
theorem count_few {Ls : List (List (List Int))} {R : List (List Int)} {lev : List Int → Nat} {ahd : List Int → Option (List Int)} {M : Nat} (L : LevOn Ls R lev ahd) (hR : R ∈ Ls) (hM : IsCount R lev M) : M ≤ R.length := by
  rcases Classical.em (R = []) with z | z
  · rw [hM.nil z]; exact Nat.zero_le _
  · obtain ⟨r, hr, e⟩ := hM.hit z
    have a := L.bound hR (R.idxOf r) r hr rfl
    have b := List.idxOf_lt_length_iff.mpr hr
    omega
/-! common_rows -/
def RowsRes (Ls : List (List (List Int))) (R : List (List Int)) (p : Addr) (H2 : Hp) : Prop := ∃ (ys : List V) (ds : List (List Int)) (lev : List Int → Nat) (ahd : List Int → Option (List Int)) (M : Nat), H2 p = some (.lst ys) ∧ Paired (IsRow H2) ys ds ∧ Chn Ls ds ∧ (∀ q ∈ ds, q ∈ R) ∧ LevOn Ls R lev ahd ∧ IsCount R lev M ∧ ds.length = M
def sp_common_rows : Sp := fun vs H Q _ => ∃ (x : V) (Ls : List (List (List Int))) (R : List (List Int)) (n : Nat), vs = [x] ∧ Lss H x Ls ∧ OkLists n Ls ∧ Ls[0]? = some R ∧ ∀ p H2, H p = none → Ex H H2 → RowsRes Ls R p H2 → Q (.ref p) H2
/-! common_levels -/
def LevsRes (H : Hp) (Ls : List (List (List Int))) (R : List (List Int)) (p : Addr) (H2 : Hp) : Prop := ∃ (ys : List V) (lev : List Int → Nat) (ahd : List Int → Option (List Int)) (M : Nat), H2 p = some (.lst ys) ∧ ys.length = M ∧ LevOn Ls R lev ahd ∧ IsCount R lev M ∧
  ∀ (i : Nat) (y : V), ys[i]? = some y → ∃ q zs, y = .ref q ∧ H q = none ∧ H2 q = some (.lst zs) ∧ Paired (IsRow H2) zs (R.filter fun r => decide (lev r = i))
def sp_common_levels : Sp := fun vs H Q _ => ∃ (x : V) (Ls : List (List (List Int))) (R : List (List Int)) (n : Nat), vs = [x] ∧ Lss H x Ls ∧ OkLists n Ls ∧ Ls[0]? = some R ∧ ∀ p H2, H p = none → Ex H H2 → LevsRes H Ls R p H2 → Q (.ref p) H2
end
end Mv
/-! piles_of, longest_of, stays. -/
namespace Mv
open PySem PySem.Spec PyProof.Rows L2 Evl
/-- the piles' tops behind the rows S -/
structure Pls (rs qs S tops : List (List Int)) (lev : List Int → Nat) (ahd : List Int → Option (List Int)) : Prop where
  mem : ∀ (k : Nat) (t : List Int), tops[k]? = some t → t ∈ S ∧ lev t = k
  bd : ∀ r ∈ S, ∃ t, tops[lev r]? = some t ∧ qs.idxOf t ≤ qs.idxOf r
  inc : ∀ (k k' : Nat) (t t' : List Int), k < k' → tops[k]? = some t → tops[k']? = some t' → qs.idxOf t < qs.idxOf t'
  L : LevOn [rs, qs] S lev ahd
theorem idxOf_inj {qs : List (List Int)} {r t : List Int} (hr : r ∈ qs) (ht : t ∈ qs) (e : qs.idxOf r = qs.idxOf t) : r = t := by
  have h1 := List.idxOf_lt_length_iff.mpr hr
  have h2 := List.idxOf_lt_length_iff.mpr ht
  have e1 : qs[qs.idxOf r] = r := List.getElem_idxOf h1
  have e2 : qs[qs.idxOf t] = t := List.getElem_idxOf h2
  rw [← e1, ← e2]
  congr 1
def newTops (tops : List (List Int)) (low : Nat) (r : List Int) : List (List Int) := if low = tops.length then tops ++ [r] else tops.set low r
theorem newTops_at {tops : List (List Int)} {low : Nat} {r : List Int} (h : low ≤ tops.length) (k : Nat) : (newTops tops low r)[k]? = if k = low then some r else tops[k]? := by
  unfold newTops
  by_cases e : low = tops.length
  · rw [if_pos e]
    subst e
    rcases Nat.lt_trichotomy k tops.length with z | z | z
    · rw [List.getElem?_append_left z, if_neg (by omega)]
    · subst z
      simp
    · rw [List.getElem?_eq_none (by rw [List.length_append, List.length_singleton]; omega), if_neg (by omega), List.getElem?_eq_none (by omega)]
  · rw [if_neg e]
    by_cases e2 : k = low
    · subst e2
      rw [if_pos rfl, List.getElem?_set_self (by omega)]
    · rw [if_neg e2, List.getElem?_set_ne (Ne.symm e2)]
def prevTop (tops : List (List Int)) (low : Nat) : Option (List Int) := if 0 < low then tops[low - 1]? else none
theorem Pls.step {rs qs S tops : List (List Int)} {lev : List Int → Nat} {ahd : List Int → Option (List Int)} (h : Pls rs qs S tops lev ahd) {r : List Int} {low : Nat} (hr : r ∉ S) (rq : r ∈ qs) (Sq : ∀ q ∈ S, q ∈ qs) (first : ∀ q ∈ S, rs.idxOf q < rs.idxOf r)
    (hl : low ≤ tops.length) (lo : ∀ (k : Nat) (t : List Int), k < low → tops[k]? = some t → qs.idxOf t < qs.idxOf r) (hi : ∀ (k : Nat) (t : List Int), low ≤ k → tops[k]? = some t → ¬ qs.idxOf t < qs.idxOf r) :
    Pls rs qs (S ++ [r]) (newTops tops low r) (nset lev r low) (nset ahd r (prevTop tops low)) := by
  have m : ∀ {q : List Int}, q ∈ S → q ≠ r := fun hq e => hr (e ▸ hq)
  have hi' : ∀ (k : Nat) (t : List Int), low ≤ k → tops[k]? = some t → qs.idxOf r < qs.idxOf t := fun k t h1 h2 => by
    have a := hi k t h1 h2
    have tS := (h.mem k t h2).1
    have b : qs.idxOf t ≠ qs.idxOf r := fun e => m tS (idxOf_inj (Sq t tS) rq e)
    omega
  have irr : Ah [rs, qs] r r = false := by
    cases z : Ah [rs, qs] r r with
    | false => rfl
    | true => exact absurd (Ah.lt z List.mem_cons_self) (Nat.lt_irrefl _)
  have back : ∀ q ∈ S, Ah [rs, qs] r q = false := fun q hq => by
    cases z : Ah [rs, qs] r q with
    | false => rfl
    | true =>
      have a := Ah.lt z List.mem_cons_self
      have b := first q hq
      omega
  refine ⟨fun k t ht => ?_, fun q hq => ?_, fun k k' t t' hk h1 h2 => ?_, h.L.snoc hr irr back ⟨fun q hq _ ha => ?_, ?_⟩⟩
  · rw [newTops_at hl] at ht
    by_cases e : k = low
    · rw [if_pos e] at ht
      cases ht
      exact ⟨List.mem_append_right _ List.mem_cons_self, by rw [nset_same, e]⟩
    · rw [if_neg e] at ht
      obtain ⟨a, b⟩ := h.mem k t ht
      exact ⟨List.mem_append_left _ a, by rw [nset_ne (m a)]; exact b⟩
  · rcases List.mem_append.mp hq with hq | hq
    · rw [nset_ne (m hq), newTops_at hl]
      obtain ⟨t, h1, h2⟩ := h.bd q hq
      by_cases e : lev q = low
      · rw [if_pos e]
        have := hi' (lev q) t (by omega) h1
        exact ⟨r, rfl, by omega⟩
      · rw [if_neg e]
        exact ⟨t, h1, h2⟩
    · rw [List.mem_singleton.mp hq, nset_same, newTops_at hl, if_pos rfl]
      exact ⟨r, rfl, Nat.le_refl _⟩
  · rw [newTops_at hl] at h1 h2
    by_cases e1 : k = low
    · rw [if_pos e1] at h1
      cases h1
      rw [if_neg (by omega)] at h2
      exact hi' k' t' (by omega) h2
    · rw [if_neg e1] at h1
      by_cases e2 : k' = low
      · rw [if_pos e2] at h2
        cases h2
        exact lo k t (by omega) h1
      · rw [if_neg e2] at h2
        exact h.inc k k' t t' hk h1 h2
  · obtain ⟨t, h1, h2⟩ := h.bd q hq
    have a := Ah.lt ha (List.mem_cons_of_mem _ List.mem_cons_self)
    refine Nat.lt_of_not_le fun z => ?_
    exact hi (lev q) t z h1 (by omega)
  · rcases Nat.eq_zero_or_pos low with z | z
    · refine .inl ⟨z, ?_⟩
      unfold prevTop
      rw [if_neg (by omega)]
    · have hlt : low - 1 < tops.length := by omega
      have g := List.getElem?_eq_getElem hlt
      obtain ⟨a, b⟩ := h.mem _ _ g
      refine .inr ⟨tops[low - 1], a, ?_, by rw [b]; omega, ?_⟩
      · have c := lo (low - 1) _ (by omega) g
        have d := first _ a
        unfold Ah
        rw [List.all_cons, List.all_cons, List.all_nil, decide_eq_true d, decide_eq_true c] <;> rfl
      · unfold prevTop
        rw [if_pos z]
        exact g
theorem Pls.count {rs qs tops : List (List Int)} {lev : List Int → Nat} {ahd : List Int → Option (List Int)} (h : Pls rs qs rs tops lev ahd) : IsCount rs lev tops.length := by
  refine ⟨fun r hr => ?_, fun z => ?_, fun z => ?_⟩
  · obtain ⟨t, h1, _⟩ := h.bd r hr
    exact (List.getElem?_eq_some_iff.mp h1).1
  · refine Nat.eq_zero_of_not_pos fun hp => ?_
    have := (h.mem 0 _ (List.getElem?_eq_getElem hp)).1
    rw [z] at this
    cases this
  · obtain ⟨r, hr⟩ := List.exists_mem_of_ne_nil rs z
    obtain ⟨t, h1, _⟩ := h.bd r hr
    have hp : 0 < tops.length := Nat.lt_of_le_of_lt (Nat.zero_le _) (List.getElem?_eq_some_iff.mp h1).1
    have hlt : tops.length - 1 < tops.length := by omega
    obtain ⟨a, b⟩ := h.mem _ _ (List.getElem?_eq_getElem hlt)
    exact ⟨_, a, by rw [b]; omega⟩
/-- a pile with this top, of at most n rows: the rows of S at the top's level -/
def PileAt (lev : List Int → Nat) (S : List (List Int)) (n : Nat) (H : Hp) (b : Addr) (t : List Int) : Prop := ∃ zi zt, H b = some (.lst (zi ++ [zt])) ∧ IsRow H zt t ∧ zi.length < n ∧ Paired (IsRow H) (zi ++ [zt]) (S.filter fun q => decide (lev q = lev t))
theorem PileAt.ex {lev : List Int → Nat} {S : List (List Int)} {n : Nat} {H H' : Hp} {b : Addr} {t : List Int} (h : PileAt lev S n H b t) (e : Ex H H') : PileAt lev S n H' b t := let ⟨zi, zt, h1, h2, h3, h4⟩ := h; ⟨zi, zt, e _ _ h1, h2.ex e, h3, Paired.imp (fun _ _ z => z.ex e) h4⟩
theorem filt_new {S : List (List Int)} {lev : List Int → Nat} {r : List Int} {lo : Nat} (nr : r ∉ S) : (S ++ [r]).filter (fun q => decide (nset lev r lo q = nset lev r lo r)) = S.filter (fun q => decide (lev q = lo)) ++ [r] := by
  rw [List.filter_append, nset_same]
  congr 1
  · refine List.filter_congr fun q hq => ?_
    rw [nset_ne (r := r) (q := q) (show q ≠ r from fun e => nr (e ▸ hq))]
  · rw [List.filter_cons, nset_same, decide_eq_true rfl] <;> rfl
theorem filt_old {S : List (List Int)} {lev : List Int → Nat} {r t : List Int} {lo : Nat} (nr : r ∉ S) (ht : t ∈ S) (hne : lev t ≠ lo) : (S ++ [r]).filter (fun q => decide (nset lev r lo q = nset lev r lo t)) = S.filter (fun q => decide (lev q = lev t)) := by
  have nt : t ≠ r := fun e => nr (e ▸ ht)
  rw [List.filter_append, nset_ne nt]
  have e : [r].filter (fun q => decide (nset lev r lo q = lev t)) = [] := by
    rw [List.filter_cons, nset_same, decide_eq_false (Ne.symm hne)] <;> rfl
  rw [e, List.append_nil]
  refine List.filter_congr fun q hq => ?_
  rw [nset_ne (r := r) (q := q) (show q ≠ r from fun e => nr (e ▸ hq))]
section
variable {K : PySem.W.Frag} {σ : L2.St} {H H' : Hp} {ta tb tc te tl tx td ty tv : TE} {t u : TT} {x y z v : V} {D : Ends} {tz : TS}
theorem q_dput {p : Addr} (hv : Ev tv σ H v) (ho : Ev td σ H (.ref p)) (hi : Ev ty σ H x) (k : ∀ H3, Ex H H3 → ∃ H4, DPut H3 p x v H4 ∧ tz D σ H4) : tSeq (sDPut td ty tv) tz D σ H :=
  hv H (Ex.refl H) _ fun H1 e1 => ho H1 e1 _ fun H2 e2 => hi H2 (e1.trans e2) _ fun H3 e3 => by
    obtain ⟨H4, h1, h2⟩ := k H3 ((e1.trans e2).trans e3)
    exact ⟨p, H4, rfl, h1, h2⟩
theorem ev_par {i j : Nat} (ha : Ev ta σ H x) (hb : Ev tb σ H y) (k : ∀ H1, Ex H H1 → tz D ((σ.set i (some x)).set j (some y)) H1) : tSeq (tPar i j (tCons ta (tCons tb tNil))) tz D σ H :=
  (show EvA (tCons ta (tCons tb tNil)) σ H [x, y] from ea_cons ha (ea_cons hb ea_nil)) H (Ex.refl H) (fun vs H1 => ∃ v w, vs = [v, w] ∧ tz D ((σ.set i (some v)).set j (some w)) H1) fun H1 e1 => ⟨x, y, rfl, k H1 e1⟩
end
section
variable {P : Program} {w : World} {K : PySem.W.Frag} {mg : Str → Option Value} {base : Heap} {a : Nat → Addr} {d : Nat → FuncData} {tk : Nat → Tok}
def PilesRes (rs qs : List (List Int)) (H : Hp) (t : Addr) (H2 : Hp) : Prop := ∃ (p1 p2 : Addr) (bs : List Addr) (tops : List (List Int)) (lev : List Int → Nat) (ahd : List Int → Option (List Int)) (g : List Int → V), H2 t = some (.tup [.ref p1, .ref p2]) ∧ H2 p1 = some (.lst (bs.map V.ref)) ∧ Paired (PileAt lev rs 100 H2) bs tops ∧
  (∀ b ∈ bs, H b = none ∧ b ≠ p1) ∧ bs.Nodup ∧ H p1 = none ∧ H2 p2 = some (.dT (dtab rs g)) ∧ (∀ r ∈ rs, AhV H2 (g r) (ahd r)) ∧ Pls rs qs rs tops lev ahd
def sp_piles_of : Sp := fun vs H Q _ => ∃ (x y : V) (rs qs : List (List Int)) (n : Nat), vs = [x, y] ∧ Rws H x rs ∧ Rws H y qs ∧ OkRows n rs ∧ qs.Perm rs ∧ ∀ t H2, Ex H H2 → PilesRes rs qs H t H2 → Q (.ref t) H2
theorem ok_piles_of (T : All K mg a d tk) : FnOk P w K mg base CX0 2 (a 8) (d 8) ["one", "other"] sp_piles_of := by
  refine T.F_piles_of.fn.ok sc_piles_of (fun vs H Q E h => ?_) (fun cdv A outer s H vs Q E hr h => ?_)
  · obtain ⟨x, y, rs, qs, n, rfl, _⟩ := h
    rfl
  · obtain ⟨x, y, rs, qs, n, rfl, hx, hy, ho, pm, k⟩ := h
    have nd := sc_piles_of.nd
    have hu := hu_of hr
    have oq := ho.perm pm
    have h60 := ho.few
    obtain ⟨a0, xs0, rfl, hs0, hp0⟩ := id hx
    have hlen0 : xs0.length = rs.length := Paired.length hp0
    refine ⟨_, (pss_cons (ps_set (i := 2) nd rfl (Or.inl rfl) (pe_call (ok_places_of T) (hr.mono (by decide)) rfl T.F_places_of.m T.F_places_of.kp T.F_places_of.b .nil pass0 (pa_cons (pv 1) pa_nil)))
 (pss_cons (ps_par (i := 3) (j := 4) rfl nd rfl rfl (by decide) rfl rfl (pa_cons (pe_lst pa_nil) (pa_cons pe_dnewT pa_nil)) (by rfl))
 (pss_cons (ps_for PassesOwn.never rfl (pi_seq (pv 0)) (pg_name (i := 5) nd rfl (Or.inl rfl))
 (pss_cons (ps_par (i := 6) (j := 7) rfl nd rfl rfl (by decide) rfl rfl (pa_cons pe_int (pa_cons (pe_callB call_len_seq (by rfl) T.n_len PySem.boot_len (pa_cons (pv 3) pa_nil)) pa_nil)) (by rfl))
 (pss_cons (ps_while PassesOwn.never (pt_cmpR op_lt (pv 6) (pv 7) (nomark _))
 (pss_cons (ps_set (i := 8) nd rfl (Or.inl rfl) (pe_op op_fdivW (pe_op op_add (pv 6) (pv 7)) pe_int))
 (pss_one (ps_if (pt_cmpR op_lt (pe_dget hu (pv 2) (pe_ix ix_list (pe_ix ix_list (pv 3) (pv 8) (fun _ _ => rfl)) (pe_un un_neg pe_int) (fun _ _ => rfl)) (fun _ _ => rfl)) (pe_dget hu (pv 2) (pv 5) (fun _ _ => rfl)) (nomark _))
 (pss_one (ps_set (i := 6) nd rfl (Or.inl rfl) (pe_op op_add (pv 8) pe_int)))
 (pss_one (ps_set (i := 7) nd rfl (Or.inl rfl) (pv 8)))))))
 (pss_cons (ps_dput hu (pv 4) (pv 5) (pe_ifExp (pt_cmpR op_gt (pv 6) pe_int (nomark _)) (pe_ix ix_list (pe_ix ix_list (pv 3) (pe_op op_sub (pv 6) pe_int) (fun _ _ => rfl)) (pe_un un_neg pe_int) (fun _ _ => rfl)) pe_non) rfl)
 (pss_cons (ps_if (pt_cmpR op_eq (pv 6) (pe_callB call_len_seq (by rfl) T.n_len PySem.boot_len (pa_cons (pv 3) pa_nil)) (nomark _))
 (pss_one (ps_expr (pe_bm PySem.F.plainAttrs_list PySem.F.slot_list_append PySem.F.type_list_append mt_append (pv 3) (pa_cons (pe_lst pa_nil) pa_nil))))
 pss_nil)
 (pss_one (ps_expr (pe_bm PySem.F.plainAttrs_list PySem.F.slot_list_append PySem.F.type_list_append mt_append (pe_ix ix_list (pv 3) (pv 6) (fun _ _ => rfl)) (pa_cons (pv 5) pa_nil)))))))))
 (pss_one (ps_ret (pe_tup (pa_cons (pv 3) (pa_cons (pv 4) pa_nil)))))))), ?_⟩
    refine ⟨_, rfl, y, qs, rfl, hy, oq.nd, oq.few, fun pd B npd eB hpd => ?_⟩
    refine ⟨Nat.zero_le _, fun p1 np1 p2 np2 => ⟨_, _, rfl, ?_⟩⟩
    have np2B : B p2 = none := by
      cases q : B p2 with
      | none => rfl
      | some o =>
        have z := (Ex.new (o := .lst []) np1) p2 o q
        rw [z] at np2
        cases np2
    have n12 : p1 ≠ p2 := fun z => by
      rw [← z, upd_same] at np2
      cases np2
    generalize hH1 : upd (upd B p1 (HO.lst [])) p2 (HO.dT []) = H1
    have eBH : Ex B H1 := by
      rw [← hH1]
      exact (Ex.new np1).trans (Ex.new np2)
    have hp1 : H1 p1 = some (.lst []) := by rw [← hH1, upd_ne n12, upd_same]
    have hp2 : H1 p2 = some (.dT []) := by rw [← hH1, upd_same]
    have s0B : Seq B a0 xs0 := hs0.ex eB
    have rowB : ∀ (j : Nat) (y : V), xs0[j]? = some y → ∃ r, rs[j]? = some r ∧ IsRow B y r := fun j y hy => by
      obtain ⟨r, h1, h2⟩ := Paired.at_l hp0 j y hy
      exact ⟨r, h1, h2.ex eB⟩
    have ix : ∀ {j : Nat} {r : List Int}, rs[j]? = some r → rs.idxOf r = j := fun h => idxOf_at ho.nd h
    let Ov : Nat → L2.St → Hp → Prop := fun j σ' H' => Ex B H' ∧ ∃ (bs : List Addr) (tops : List (List Int)) (lev : List Int → Nat) (ahd : List Int → Option (List Int)) (g : List Int → V) (v5 v6 v7 v8 : Option V), σ' = [some (.ref a0), some y, some (.ref pd), some (.ref p1), some (.ref p2), v5, v6, v7, v8] ∧
      H' p1 = some (.lst (bs.map V.ref)) ∧ H' p2 = some (.dT (dtab (rs.take j) g)) ∧ Paired (PileAt lev (rs.take j) (j + 1) H') bs tops ∧ (∀ b ∈ bs, B b = none ∧ b ≠ p1) ∧ bs.Nodup ∧ (∀ r ∈ rs.take j, AhV H' (g r) (ahd r)) ∧ Pls rs qs (rs.take j) tops lev ahd
    refine q_forS (a := a0) (xs := xs0) (ev_var rfl) (s0B.ex eBH) Ov (fun H2 e2 => ⟨eBH.trans e2, [], [], fun _ => 0, fun _ => none, fun _ => .non, none, none, none, none, rfl, e2 _ _ hp1, e2 _ _ hp2, .nil, fun b hb => (by cases hb), List.nodup_nil, fun r hr => by simp at hr, ⟨fun k t h => by simp at h, fun r hr => by simp at hr, fun k k' t t' _ h => by simp at h, ⟨fun r hr => by simp at hr, fun r hr => by simp at hr⟩⟩⟩)
      (fun j σ' H' _ ⟨e', _⟩ => s0B.elim (fun z => (e' _ _ z).trans (eBH _ _ z).symm) fun z => (e' _ _ z).trans (eBH _ _ z).symm) ?_ ?_
    · rintro j yr σ' H' hyj ⟨e', bs, tops, lev, ahd, g, v5, v6, v7, v8, rfl, h1, h2, h3, h4, h5, h6, h7⟩
      obtain ⟨r, hr, hrow⟩ := rowB j yr hyj
      have hj : j < rs.length := (List.getElem?_eq_some_iff.mp hr).1
      have ej := ix hr
      have memT : ∀ q ∈ rs.take j, rs.idxOf q < j ∧ q ∈ rs := fun q hq => by
        obtain ⟨i, hi, ei⟩ := List.mem_iff_getElem.mp hq
        have hi2 : i < j := by rw [List.length_take] at hi; omega
        rw [List.getElem_take] at ei
        have g1 : rs[i]? = some q := by rw [← ei]; exact List.getElem?_eq_getElem _
        exact ⟨by rw [ix g1]; exact hi2, List.mem_of_getElem? g1⟩
      have nr : r ∉ rs.take j := fun h => by have := (memT r h).1; omega
      have eT : rs.take (j + 1) = rs.take j ++ [r] := take_next hr
      have rq : r ∈ qs := pm.mem_iff.mpr (List.mem_of_getElem? hr)
      have Sq : ∀ q ∈ rs.take j, q ∈ qs := fun q hq => pm.mem_iff.mpr (memT q hq).2
      have first : ∀ q ∈ rs.take j, rs.idxOf q < rs.idxOf r := fun q hq => by rw [ej]; exact (memT q hq).1
      have l60 : (rs.take j).length ≤ 100 := by rw [List.length_take]; omega
      have lbt : bs.length = tops.length := Paired.length h3
      have ltj : tops.length ≤ 60 := by
        rcases Nat.eq_zero_or_pos tops.length with z | z
        · omega
        · have g0 := List.getElem?_eq_getElem (l := tops) (i := tops.length - 1) (by omega)
          obtain ⟨m1, m2⟩ := h7.mem _ _ g0
          have b1 := h7.L.bound (R0 := rs) List.mem_cons_self _ _ m1 rfl
          have b2 := (memT _ m1).1
          omega
      refine ev_par (i := 6) (j := 7) ev_c (ev_lenS (ev_var rfl) (.inl h1)) fun H2 e2 => ?_
      have llen : ((bs.map V.ref).length : Int) = (tops.length : Int) := by rw [List.length_map, lbt]
      rw [llen]
      have topv : ∀ (σ2 : L2.St) (H5 : Hp) (te : TE) (k : Nat) (t : List Int), σ2[3]? = some (some (.ref p1)) → Ex H' H5 → Ev te σ2 H5 (.int (k : Int)) → tops[k]? = some t → ∃ z, IsRow H5 z t ∧ Ev (tOp (rIxL K) (tOp (rIxL K) (tVar 3) te) (tUn (rU fun i => .int (-i)) (tC (.int 1)))) σ2 H5 z := fun σ2 H5 te k t hσ e5 hk ht => by
        obtain ⟨b, hb, zi, zt, z1, z2, _⟩ := Paired.at_r h3 k t ht
        refine ⟨zt, z2.ex e5, ev_ixL (i := -1) (ev_ixL (i := (k : Int)) (ev_var hσ) hk (sq_of (e5 _ _ h1)) (atI_nat (by rw [List.getElem?_map, hb] <;> rfl))) (ev_un ev_c ru_neg) (sq_of (e5 _ _ z1)) (atI_last zi zt)⟩
      let W : Nat → L2.St → Hp → Prop := fun m σ' H5 => Ex H2 H5 ∧ ∃ (lo hi : Nat) (v8 : Option V), σ' = [some (.ref a0), some y, some (.ref pd), some (.ref p1), some (.ref p2), some yr, some (.int (lo : Int)), some (.int (hi : Int)), v8] ∧ m = hi - lo ∧ lo ≤ hi ∧ hi ≤ tops.length ∧
        (∀ (k : Nat) (t : List Int), k < lo → tops[k]? = some t → qs.idxOf t < qs.idxOf r) ∧ (∀ (k : Nat) (t : List Int), hi ≤ k → tops[k]? = some t → ¬ qs.idxOf t < qs.idxOf r)
      refine q_while W tops.length ⟨Ex.refl H2, 0, tops.length, v8, rfl, (Nat.sub_zero _).symm, Nat.zero_le _, Nat.le_refl _, fun k t h => absurd h (Nat.not_lt_zero _), fun k t h ht => by
        have := (List.getElem?_eq_some_iff.mp ht).1
        omega⟩ ?_
      rintro m σ' H5 ⟨e5, lo, hi, v8, rfl, hm, hlh, hht, hlo, hhi⟩
      refine ⟨decide ((lo : Int) < (hi : Int)), et_I0 (ev_var rfl) (ev_var rfl), fun hb H6 e6 => ?_, fun hb H6 e6 => ?_⟩
      · have hlt : lo < hi := by have := of_decide_eq_true hb; omega
        have em : ((lo : Int) + (hi : Int)) / 2 = (((lo + hi) / 2 : Nat) : Int) := by omega
        refine ⟨fun σ2 H2 => ∃ m', m' < m ∧ W m' σ2 H2, fun _ _ h => h, ?_⟩
        refine q_asg (v := .int (((lo + hi) / 2 : Nat) : Int)) (ev_is (ev_I (ev_I0 (ev_var rfl) (ev_var rfl)) ev_c (wide_div (b := 2) (by decide) (by decide) (by decide) (by decide))) (by rw [em])) fun H7 e7 => ?_
        have e27 := (e5.trans e6).trans e7
        have hmid : (lo + hi) / 2 < tops.length := by omega
        have gt := List.getElem?_eq_getElem hmid
        obtain ⟨z, zr, ze⟩ := topv [some (.ref a0), some y, some (.ref pd), some (.ref p1), some (.ref p2), some yr, some (.int (lo : Int)), some (.int (hi : Int)), some (.int (((lo + hi) / 2 : Nat) : Int))] H7 (tVar 8) _ _ rfl (e2.trans e27) (ev_var rfl) gt
        have tq : tops[(lo + hi) / 2] ∈ qs := Sq _ (h7.mem _ _ gt).1
        have hpd7 : H7 pd = some (.dT (dtab qs (plc qs))) := (e'.trans (e2.trans e27)) _ _ hpd
        have b1 := ev_dget (ta := tVar 2) (ev_var (σ := [some (.ref a0), some y, some (.ref pd), some (.ref p1), some (.ref p2), some yr, some (.int (lo : Int)), some (.int (hi : Int)), some (.int (((lo + hi) / 2 : Nat) : Int))]) (i := 2) rfl) ze hpd7 zr tq
        have b2 := ev_dget (ta := tVar 2) (tb := tVar 5) (ev_var (σ := [some (.ref a0), some y, some (.ref pd), some (.ref p1), some (.ref p2), some yr, some (.int (lo : Int)), some (.int (hi : Int)), some (.int (((lo + hi) / 2 : Nat) : Int))]) (i := 2) rfl) (ev_var rfl) hpd7 (hrow.ex (e'.trans (e2.trans e27))) rq
        refine s_if (et_I0 b1 b2) (fun hc H8 e8 => ?_) fun hc H8 e8 => ?_
        · have hc : qs.idxOf tops[(lo + hi) / 2] < qs.idxOf r := by have := of_decide_eq_true hc; omega
          refine s_asg (v := .int (((lo + hi) / 2 + 1 : Nat) : Int)) (ev_is (ev_I0 (ev_var rfl) ev_c) (by rw [Int.natCast_succ])) fun H9 e9 => ?_
          refine ⟨_, ?_, (e27.trans e8).trans e9, (lo + hi) / 2 + 1, hi, _, rfl, rfl, by omega, hht, fun k t hk ht => ?_, hhi⟩
          · omega
          · rcases Nat.lt_or_ge k ((lo + hi) / 2) with z | z
            · have := h7.inc k _ t _ z ht gt
              omega
            · have e : k = (lo + hi) / 2 := by omega
              subst e
              rw [gt] at ht
              cases ht
              exact hc
        · have hc : ¬ qs.idxOf tops[(lo + hi) / 2] < qs.idxOf r := by have := of_decide_eq_false hc; omega
          refine s_asg (v := .int (((lo + hi) / 2 : Nat) : Int)) (ev_var rfl) fun H9 e9 => ?_
          refine ⟨_, ?_, (e27.trans e8).trans e9, lo, (lo + hi) / 2, _, rfl, rfl, by omega, by omega, hlo, fun k t hk ht => ?_⟩
          · omega
          · rcases Nat.lt_or_ge ((lo + hi) / 2) k with z | z
            · have := h7.inc _ k _ t z gt ht
              omega
            · have e : k = (lo + hi) / 2 := by omega
              subst e
              rw [gt] at ht
              cases ht
              exact hc
      · have hle : lo = hi := by have := of_decide_eq_false hb; omega
        subst hle
        have e26 := e5.trans e6
        have e06 := e2.trans e26
        have prev : ∃ z, AhV H6 z (prevTop tops lo) ∧ Ev (tIf (tTest (tOp (rI0 fun i j => .bl (decide (j < i))) (tVar 6) (tC (.int 0)))) (tOp (rIxL K) (tOp (rIxL K) (tVar 3) (tOp (rI0 fun i j => .int (i - j)) (tVar 6) (tC (.int 1)))) (tUn (rU fun i => .int (-i)) (tC (.int 1)))) (tC .non))
            [some (.ref a0), some y, some (.ref pd), some (.ref p1), some (.ref p2), some yr, some (.int (lo : Int)), some (.int (lo : Int)), v8] H6 z := by
          rcases Nat.eq_zero_or_pos lo with z | z
          · refine ⟨.non, ?_, ev_if (et_I0 (ev_var rfl) ev_c) (fun h => ?_) fun _ => ev_c⟩
            · unfold prevTop
              rw [if_neg (by omega)]
              exact rfl
            · have := of_decide_eq_true h
              omega
          · have hlt : lo - 1 < tops.length := by omega
            obtain ⟨zv, zr, ze⟩ := topv [some (.ref a0), some y, some (.ref pd), some (.ref p1), some (.ref p2), some yr, some (.int (lo : Int)), some (.int (lo : Int)), v8] H6 (tOp (rI0 fun i j => .int (i - j)) (tVar 6) (tC (.int 1))) (lo - 1) _ rfl e06 (ev_is (ev_I0 (ev_var rfl) ev_c) (by congr 1; omega)) (List.getElem?_eq_getElem hlt)
            refine ⟨zv, ?_, ev_if (et_I0 (ev_var rfl) ev_c) (fun _ => ze) fun h => ?_⟩
            · unfold prevTop
              rw [if_pos z, List.getElem?_eq_getElem hlt]
              exact zr
            · have := of_decide_eq_false h
              omega
        obtain ⟨zv, zr, ze⟩ := prev
        refine q_dput ze (ev_var rfl) (ev_var rfl) fun H7 e7 => ?_
        have e07 := e06.trans e7
        have w1 := dput_new (v := zv) (e07 _ _ h2) ((hrow.ex e').ex e07) nr l60
        refine ⟨_, w1, ?_⟩
        generalize hH8 : upd H7 p2 (HO.dT (dtab (rs.take j ++ [r]) (fset g r zv))) = H8
        have ntd : ∀ (S : List (List Int)) (f : List Int → V) (xs : List V), HO.dT (dtab S f) ≠ .tup xs := fun _ _ _ z => by cases z
        have eB8 : Ex B H8 := by rw [← hH8]; exact Ex.mut (e'.trans e07) np2B
        have f1 : H8 p1 = some (.lst (bs.map V.ref)) := by rw [← hH8, upd_ne n12]; exact e07 _ _ h1
        have f2 : H8 p2 = some (.dT (dtab (rs.take j ++ [r]) (fset g r zv))) := by rw [← hH8, upd_same]
        have mvR : ∀ {v : V} {q : List Int}, IsRow H' v q → IsRow H8 v q := fun h => by
          rw [← hH8]
          exact (h.ex e07).upd (e07 _ _ h2) (ntd _ _)
        have mvA : ∀ {v : V} {o : Option (List Int)}, AhV H7 v o → AhV H8 v o := fun h => by
          rw [← hH8]
          exact AhV.upd h (e07 _ _ h2) (ntd _ _)
        have f3 : Paired (PileAt lev (rs.take j) (j + 1) H8) bs tops := Paired.imp (fun b t ⟨zi, zt, z1, z2, z3, z4⟩ => ⟨zi, zt, by rw [← hH8, upd_ne (fun z => by rw [z, h2] at z1; cases z1)]; exact e07 _ _ z1, mvR z2, z3, Paired.imp (fun _ _ h => mvR h) z4⟩) h3
        have f6 : ∀ q ∈ rs.take (j + 1), AhV H8 (fset g r zv q) (nset ahd r (prevTop tops lo) q) := fun q hq => by
          rw [eT] at hq
          show AhV H8 (if q = r then zv else g q) (if q = r then prevTop tops lo else ahd q)
          rcases List.mem_append.mp hq with hq | hq
          · have ne : q ≠ r := fun e => nr (e ▸ hq)
            rw [if_neg ne, if_neg ne]
            exact mvA ((h6 q hq).ex e07)
          · have e := List.mem_singleton.mp hq
            rw [if_pos e, if_pos e]
            exact mvA (zr.ex e7)
        have P2 := h7.step nr rq Sq first hht hlo hhi
        rw [← eT] at P2 f2
        have last : ∀ (H9 : Hp) (bs2 : List Addr), Ex B H9 → H9 p1 = some (.lst (bs2.map V.ref)) → H9 p2 = some (.dT (dtab (rs.take (j + 1)) (fset g r zv))) → (∀ q ∈ rs.take (j + 1), AhV H9 (fset g r zv q) (nset ahd r (prevTop tops lo) q)) → IsRow H9 yr r → (∀ b ∈ bs2, B b = none ∧ b ≠ p1) → bs2.Nodup →
            bs2.length = (newTops tops lo r).length → (∀ (k : Nat) (b : Addr) (t : List Int), k ≠ lo → bs2[k]? = some b → tops[k]? = some t → PileAt lev (rs.take j) (j + 1) H9 b t) → (∃ (b : Addr) (zs : List V), bs2[lo]? = some b ∧ H9 b = some (.lst zs) ∧ zs.length ≤ j + 1 ∧ Paired (IsRow H9) zs ((rs.take j).filter fun q => decide (lev q = lo))) →
            tDrop (tBM K "list" rAppend (tOp (rIxL K) (tVar 3) (tVar 6)) (tCons (tVar 5) tNil)) { nx := Ov (j + 1), rt := Q, bk := fun σ' H' => tRet (tTup (tCons (tVar 3) (tCons (tVar 4) tNil))) { nx := fun _ H' => Q .non H', rt := Q } σ' H', ct := Ov (j + 1) }
              [some (.ref a0), some y, some (.ref pd), some (.ref p1), some (.ref p2), some yr, some (.int (lo : Int)), some (.int (lo : Int)), v8] H9 := by
          intro H9 bs2 eB9 g1 g2 g6 gr g4 g5 g7 g3 ⟨b, zs, gb, gz, gl, gp⟩
          have hb := g4 b (List.mem_of_getElem? gb)
          refine s_app gz (ev_ixL (i := (lo : Int)) (ev_var rfl) (ev_var rfl) (sq_of g1) (atI_nat (by rw [List.getElem?_map, gb] <;> rfl))) (ev_var rfl) (by omega) fun H10 e10 => ?_
          have ntl : ∀ xs', HO.lst zs ≠ .tup xs' := fun _ z => by cases z
          have nb2 : p2 ≠ b := fun z => by rw [z, gz] at g2; cases g2
          refine ⟨Ex.mut (eB9.trans e10) hb.1, bs2, newTops tops lo r, nset lev r lo, nset ahd r (prevTop tops lo), fset g r zv, _, _, _, _, rfl, ?_, ?_, ?_, g4, g5, fun q hq => ?_, P2⟩
          · rw [upd_ne (Ne.symm hb.2)]
            exact e10 _ _ g1
          · rw [upd_ne nb2]
            exact e10 _ _ g2
          · refine paired_of g7 fun k b' t hb' ht => ?_
            rw [newTops_at hht] at ht
            by_cases e : k = lo
            · rw [if_pos e] at ht
              cases ht
              rw [e, gb] at hb'
              cases hb'
              refine ⟨zs, yr, upd_same, (gr.ex e10).upd (e10 _ _ gz) ntl, by omega, ?_⟩
              rw [eT, filt_new nr]
              exact Paired.append (Paired.imp (fun _ _ h => (h.ex e10).upd (e10 _ _ gz) ntl) gp) (.cons ((gr.ex e10).upd (e10 _ _ gz) ntl) .nil)
            · rw [if_neg e] at ht
              obtain ⟨zi, zt, z1, z2, z3, z4⟩ := g3 k b' t e hb' ht
              obtain ⟨mt, lt⟩ := h7.mem k t ht
              have nbb : b' ≠ b := fun z => by
                rw [z] at hb'
                have i1 := (List.getElem?_eq_some_iff.mp hb')
                have i2 := (List.getElem?_eq_some_iff.mp gb)
                obtain ⟨p1', q1⟩ := i1
                obtain ⟨p2', q2⟩ := i2
                exact e ((List.getElem_inj g5).mp (q1.trans q2.symm))
              refine ⟨zi, zt, by rw [upd_ne nbb]; exact e10 _ _ z1, (z2.ex e10).upd (e10 _ _ gz) ntl, by omega, ?_⟩
              rw [eT, filt_old nr mt (by omega)]
              exact Paired.imp (fun _ _ h => (h.ex e10).upd (e10 _ _ gz) ntl) z4
          · exact AhV.upd ((g6 q hq).ex e10) (e10 _ _ gz) ntl
        have lnt : (newTops tops lo r).length = if lo = tops.length then tops.length + 1 else tops.length := by
          unfold newTops
          by_cases e : lo = tops.length
          · rw [if_pos e, if_pos e, List.length_append, List.length_singleton]
          · rw [if_neg e, if_neg e, List.length_set]
        have llen8 : ((bs.map V.ref).length : Int) = (tops.length : Int) := llen
        refine q_when (b := decide (V.int (lo : Int) = V.int ((bs.map V.ref).length : Int))) (et_test (ev_op (ev_var rfl) (ev_lenS (ev_var rfl) (.inl f1)) (rv_eq rfl))) (fun hb H9 e9 => ?_) fun hb H9 e9 => ?_
        · have elo : lo = tops.length := by
            have z := of_decide_eq_true hb
            injection z with z
            omega
          refine s_appL (ys := []) (e9 _ _ f1) (ev_var rfl) (el_lst ea_nil (Nat.zero_le _)) (by rw [List.length_map]; omega) fun nb H10 hnb e10 h10 => ?_
          have e810 := e9.trans e10
          have ntp : ∀ xs', HO.lst (bs.map V.ref) ≠ .tup xs' := fun _ z => by cases z
          have nb1 : nb ≠ p1 := fun z => by rw [z, e9 _ _ f1] at hnb; cases hnb
          have nbs : nb ∉ bs := fun hm => by
            obtain ⟨t, _, zi, zt, z1, _⟩ := Paired.mem_l f3 nb hm
            rw [e9 _ _ z1] at hnb
            cases hnb
          have em : bs.map V.ref ++ [V.ref nb] = (bs ++ [nb]).map V.ref := by rw [List.map_append] <;> rfl
          rw [em]
          have gA : upd H10 p1 (HO.lst ((bs ++ [nb]).map V.ref)) nb = some (.lst []) := by rw [upd_ne nb1]; exact h10
          refine last _ (bs ++ [nb]) (Ex.mut (eB8.trans e810) np1) upd_same (by rw [upd_ne n12.symm]; exact e810 _ _ f2) (fun q hq => AhV.upd ((f6 q hq).ex e810) (e810 _ _ f1) ntp) (((mvR (hrow.ex e')).ex e810).upd (e810 _ _ f1) ntp) (fun b hb => ?_) ?_ ?_ (fun k b t hk hb ht => ?_) ⟨nb, [], ?_, gA, Nat.zero_le _, ?_⟩
          · rcases List.mem_append.mp hb with hb | hb
            · exact h4 b hb
            · rw [List.mem_singleton.mp hb]
              exact ⟨fresh_back (eB8.trans e9) hnb, nb1⟩
          · rw [List.nodup_append]
            refine ⟨h5, List.nodup_cons.mpr ⟨by simp, List.nodup_nil⟩, fun x hx y hy e => ?_⟩
            rw [List.mem_singleton.mp hy] at e
            exact nbs (e ▸ hx)
          · rw [List.length_append, List.length_singleton, lnt, if_pos elo, lbt]
          · have hk2 : k < bs.length := by
              have := (List.getElem?_eq_some_iff.mp ht).1
              omega
            rw [List.getElem?_append_left hk2] at hb
            obtain ⟨t', ht', zi, zt, z1, z2, z3, z4⟩ := Paired.at_l f3 k b hb
            rw [ht] at ht'
            cases ht'
            have nbp : b ≠ p1 := (h4 b (List.mem_of_getElem? hb)).2
            exact ⟨zi, zt, by rw [upd_ne nbp]; exact e810 _ _ z1, (z2.ex e810).upd (e810 _ _ f1) ntp, z3, Paired.imp (fun _ _ h => (h.ex e810).upd (e810 _ _ f1) ntp) z4⟩
          · rw [List.getElem?_append_right (by omega)]
            have : lo - bs.length = 0 := by omega
            rw [this] <;> rfl
          · have : ((rs.take j).filter fun q => decide (lev q = lo)) = [] := by
              refine List.filter_eq_nil_iff.mpr fun q hq => ?_
              obtain ⟨t, t1, _⟩ := h7.bd q hq
              have := (List.getElem?_eq_some_iff.mp t1).1
              rw [decide_eq_false (by omega)]
              simp
            rw [this]
            exact .nil
        · have elo : lo ≠ tops.length := fun z => by
            refine of_decide_eq_false hb ?_
            congr 1
            omega
          have hlt : lo < bs.length := by omega
          have gb := List.getElem?_eq_getElem hlt
          obtain ⟨t, ht, zi, zt, z1, z2, z3, z4⟩ := Paired.at_l f3 lo _ gb
          rw [(h7.mem lo t ht).2] at z4
          refine last H9 bs (eB8.trans e9) (e9 _ _ f1) (e9 _ _ f2) (fun q hq => (f6 q hq).ex e9) ((mvR (hrow.ex e')).ex e9) h4 h5 (by rw [lnt, if_neg elo, lbt]) (fun k b t hk hb ht => ?_) ⟨_, _, gb, e9 _ _ z1, by rw [List.length_append, List.length_singleton]; omega, Paired.imp (fun _ _ h => h.ex e9) z4⟩
          obtain ⟨t', ht', hz⟩ := Paired.at_l f3 k b hb
          rw [ht] at ht'
          cases ht'
          exact hz.ex e9
    · rintro σ' H' ⟨e', bs, tops, lev, ahd, g, v5, v6, v7, v8, rfl, h1, h2, h3, h4, h5, h6, h7⟩
      rw [hlen0] at h3
      rw [hlen0, List.take_length] at h2 h6 h7
      rw [List.take_length] at h3
      refine s_retU (eu_tup (ea_cons (ev_var rfl) (ea_cons (ev_var rfl) ea_nil)) (show 2 ≤ 100000 by decide)) fun t H2 ht e2 h => ?_
      exact k t H2 (eB.trans (e'.trans e2)) ⟨p1, p2, bs, tops, lev, ahd, g, h, e2 _ _ h1, Paired.imp (fun b t ⟨zi, zt, z1, z2, z3, z4⟩ => ⟨zi, zt, e2 _ _ z1, z2.ex e2, by omega, Paired.imp (fun _ _ h => h.ex e2) z4⟩) h3, (fun b hb => ⟨fresh_back eB (h4 b hb).1, (h4 b hb).2⟩), h5, fresh_back eB np1, e2 _ _ h2, fun r hr => (h6 r hr).ex e2, h7⟩
/-! longest_of -/
def LongRes (rs qs : List (List Int)) (p : Addr) (H2 : Hp) : Prop := ∃ (ys : List V) (ds : List (List Int)) (lev : List Int → Nat) (ahd : List Int → Option (List Int)) (M : Nat), H2 p = some (.lst ys) ∧ ys.length = M ∧ Paired (IsRow H2) ys ds ∧ Chn [rs, qs] ds ∧ (∀ q ∈ ds, q ∈ rs) ∧ LevOn [rs, qs] rs lev ahd ∧ IsCount rs lev M
def sp_longest_of : Sp := fun vs H Q _ => ∃ (x y : V) (rs qs : List (List Int)) (n : Nat), vs = [x, y] ∧ Rws H x rs ∧ Rws H y qs ∧ OkRows n rs ∧ qs.Perm rs ∧ ∀ p H2, H p = none → Ex H H2 → LongRes rs qs p H2 → Q (.ref p) H2
theorem ok_longest_of (T : All K mg a d tk) : FnOk P w K mg base CX0 3 (a 9) (d 9) ["one", "other"] sp_longest_of := by
  refine T.F_longest_of.fn.ok sc_longest_of (fun vs H Q E h => ?_) (fun cdv A outer s H vs Q E hr h => ?_)
  · obtain ⟨x, y, rs, qs, n, rfl, _⟩ := h
    rfl
  · obtain ⟨x, y, rs, qs, n, rfl, hx, hy, ho, pm, k⟩ := h
    have nd := sc_longest_of.nd
    have hu := hu_of hr
    have hu0 := hr.units0
    have h60 := ho.few
    refine ⟨_, (pss_cons (ps_asg (pe_call (ok_piles_of T) (hr.mono (by decide)) rfl T.F_piles_of.m T.F_piles_of.kp T.F_piles_of.b .nil pass0 (pa_cons (pv 0) (pa_cons (pv 1) pa_nil))) (pg_tup rfl (pgs_cons (pg_name (i := 2) nd rfl (Or.inl rfl)) (pgs_cons (pg_name (i := 3) nd rfl (Or.inl rfl)) pgs_nil))) (hw := by rfl))
 (pss_cons (ps_set (i := 4) nd rfl (Or.inl rfl) (pe_lst pa_nil))
 (pss_cons (ps_set (i := 5) nd rfl (Or.inl rfl) (pe_ifExp (pt_cmpR (op_neNil hu0) (pv 2) (pe_lst pa_nil) (nomark _)) (pe_ix ix_list (pe_ix ix_list (pv 2) (pe_un un_neg pe_int) (fun _ _ => rfl)) (pe_un un_neg pe_int) (fun _ _ => rfl)) pe_non))
 (pss_cons (ps_while PassesOwn.never (pt_cmp (pc_notN (pv 5)))
 (pss_cons (ps_expr (pe_bm PySem.F.plainAttrs_list PySem.F.slot_list_append PySem.F.type_list_append mt_append (pv 4) (pa_cons (pv 5) pa_nil)))
 (pss_one (ps_set (i := 5) nd rfl (Or.inl rfl) (pe_dget hu (pv 3) (pv 5) (fun _ _ => rfl))))))
 (pss_one (ps_ret (pe_revL (pv 4)))))))), ?_⟩
    refine ⟨_, rfl, _, rfl, x, y, rs, qs, n, rfl, hx, hy, ho, pm, fun t H2 e2 ⟨p1, p2, bs, tops, lev, ahd, g, ht, hp1, hb, _, _, _, hp2, hg, hP⟩ => ?_⟩
    refine ⟨t, _, rfl, st_of ht, rfl, _, _, rfl, _, _, rfl, rfl, ?_⟩
    have hM := hP.count
    have hMR := count_few hP.L List.mem_cons_self hM
    have lbt : bs.length = tops.length := Paired.length hb
    refine q_asgL (el_lst ea_nil (Nat.zero_le _)) fun fl H4 hfl e4 hf4 => ?_
    have finish : ∀ (v0 : V) (o0 : Option (List Int)) H5, Ex H4 H5 → AhV H5 v0 o0 → (∀ r, o0 = some r → r ∈ rs) → oLev lev o0 = tops.length → tSeq (tWhile (tB (tNotN (tVar 5))) (tSeq (tDrop (tBM K "list" rAppend (tVar 4) (tCons (tVar 5) tNil))) (tAsg (tDGet (tVar 3) (tVar 5)) (gName 5)))) (tRet (tRevL K (tVar 4))) { nx := fun _ H' => Q .non H', rt := Q }
        [some x, some y, some (.ref p1), some (.ref p2), some (.ref fl), some v0] H5 := fun v0 o0 H5 e5 hv ho' hm => by
      refine chase hP.L h60 rfl rfl rfl (by decide) (by decide) (e4.trans e5) hfl (e5 _ _ hf4) ((e4.trans e5) _ _ hp2) (fun r hr => (hg r hr).ex (e4.trans e5)) hv ho' hm (by omega) fun pr H6 ys ds h1 h2 h3 h4 h5 h6 h7 => ?_
      exact k pr H6 (fresh_back e2 h1) (e2.trans h2) ⟨ys, ds, lev, ahd, tops.length, h3, by rw [← h7]; exact Paired.length h4, h4, h5, h6, hP.L, hM⟩
    rcases Nat.eq_zero_or_pos tops.length with z | z
    · have hb0 : bs.map V.ref = [] := by
        have : bs = [] := List.eq_nil_of_length_eq_zero (by omega)
        rw [this] <;> rfl
      rw [hb0] at hp1
      refine q_asg (v := .non) (ev_if (et_test (ev_neNil (ev_var rfl) (sq_of (e4 _ _ hp1)))) (fun h => nomatch h) fun _ => ev_c) fun H5 e5 => ?_
      exact finish .non none H5 e5 rfl (fun r h => nomatch h) z.symm
    · have hlt : tops.length - 1 < tops.length := by omega
      have gt := List.getElem?_eq_getElem hlt
      obtain ⟨m1, m2⟩ := hP.mem _ _ gt
      obtain ⟨b, gb, zi, zt, z1, z2, _⟩ := Paired.at_r hb _ _ gt
      have lb : atI (bs.map V.ref) (-1) = some (V.ref b) := by
        have hne : bs ≠ [] := fun e => by rw [e] at lbt; simp at lbt; omega
        obtain ⟨bi, bl, rfl⟩ : ∃ bi bl, bs = bi ++ [bl] := ⟨bs.dropLast, bs.getLast hne, (List.dropLast_concat_getLast hne).symm⟩
        have e : bl = b := by
          rw [List.length_append, List.length_singleton] at lbt
          rw [List.getElem?_append_right (by omega)] at gb
          have : tops.length - 1 - bi.length = 0 := by omega
          rw [this] at gb
          exact Option.some.inj gb
        rw [List.map_append]
        subst e
        exact atI_last (bi.map V.ref) (V.ref bl)
      have hne : (!(bs.map V.ref).isEmpty) = true := by
        cases bs with
        | nil => simp at lbt; omega
        | cons b l => rfl
      refine q_asg (v := zt) (ev_if (et_test (b := true) (ev_is (ev_neNil (ev_var rfl) (sq_of (e4 _ _ hp1))) (by rw [hne]))) (fun _ => ev_ixL (i := -1) (ev_ixL (i := -1) (ev_var rfl) (ev_un ev_c ru_neg) (sq_of (e4 _ _ hp1)) lb) (ev_un ev_c ru_neg) (sq_of (e4 _ _ z1)) (atI_last zi zt)) fun h => nomatch h) fun H5 e5 => ?_
      exact finish zt (some _) H5 e5 (z2.ex (e4.trans e5)) (fun q e => by cases e; exact m1) (by show lev _ + 1 = _; rw [m2]; omega)
/-! stays -/
theorem ok_stays (T : All K mg a d tk) : FnOk P w K mg base CX0 7 (a 10) (d 10) ["one", "other"] sp_longest_of := by
  refine T.F_stays.fn.ok sc_stays (fun vs H Q E h => ?_) (fun cdv A outer s H vs Q E hr h => ?_)
  · obtain ⟨x, y, rs, qs, n, rfl, _⟩ := h
    rfl
  · obtain ⟨x, y, rs, qs, n, rfl, hx, hy, ho, pm, k⟩ := h
    have nd := sc_stays.nd
    refine ⟨_, (pss_cons (ps_expr (pe_call (ok_need_pair T) (hr.mono (by decide)) rfl T.F_need_pair.m T.F_need_pair.kp T.F_need_pair.b .nil pass0 (pa_cons (pv 0) (pa_cons (pv 1) pa_nil))))
 (pss_one (ps_ret (pe_call (ok_longest_of T) (hr.mono (by decide)) rfl T.F_longest_of.m T.F_longest_of.kp T.F_longest_of.b .nil pass0 (pa_cons (pv 0) (pa_cons (pv 1) pa_nil)))))), ?_⟩
    refine q_drop (ev_call (ea_cons (ev_var rfl) (ea_cons (ev_var rfl) ea_nil)) (spv_need_pair hx hy ho pm)) fun H1 e1 => ?_
    exact ⟨_, rfl, _, rfl, x, y, rs, qs, n, rfl, hx.ex e1, hy.ex e1, ho, pm, fun p H2 np e2 h => k p H2 (fresh_back e1 np) (e1.trans e2) h⟩
end
end Mv
/-! The law's own places, its table. -/
namespace Mv
open PySem PySem.Spec PyProof.Rows L2 Evl
/-- a list (no tuple) of rows; a list of these -/
def LRw (H : Hp) (x : V) (rs : List (List Int)) : Prop := ∃ b ys, x = .ref b ∧ H b = some (.lst ys) ∧ Paired (IsRow H) ys rs
def LLs (H : Hp) (x : V) (Ls : List (List (List Int))) : Prop := ∃ b ys, x = .ref b ∧ H b = some (.lst ys) ∧ Paired (LRw H) ys Ls
theorem LRw.ex {H H' : Hp} {x : V} {rs : List (List Int)} (h : LRw H x rs) (e : Ex H H') : LRw H' x rs := let ⟨b, ys, h1, h2, h3⟩ := h; ⟨b, ys, h1, e _ _ h2, Paired.imp (fun _ _ z => z.ex e) h3⟩
theorem LLs.ex {H H' : Hp} {x : V} {Ls : List (List (List Int))} (h : LLs H x Ls) (e : Ex H H') : LLs H' x Ls := let ⟨b, ys, h1, h2, h3⟩ := h; ⟨b, ys, h1, e _ _ h2, Paired.imp (fun _ _ z => LRw.ex z e) h3⟩
theorem LRw.rws {H : Hp} {x : V} {rs : List (List Int)} (h : LRw H x rs) : Rws H x rs := let ⟨b, ys, h1, h2, h3⟩ := h; ⟨b, ys, h1, .inl h2, h3⟩
theorem LLs.lss {H : Hp} {x : V} {Ls : List (List (List Int))} (h : LLs H x Ls) : Lss H x Ls := let ⟨b, ys, h1, h2, h3⟩ := h; ⟨b, ys, h1, .inl h2, Paired.imp (fun _ _ z => LRw.rws z) h3⟩
def posL (Ls : List (List (List Int))) (r : List Int) : List V := Ls.map fun L => .int (L.idxOf r : Nat)
/-- the law's places -/
def PosAt (H : Hp) (p : Addr) (Ls : List (List (List Int))) (R : List (List Int)) : Prop := ∃ g : List Int → V, H p = some (.dT (dtab R g)) ∧ ∀ r ∈ R, ∃ b, g r = .ref b ∧ H b = some (.lst (posL Ls r))
theorem PosAt.ex {H H' : Hp} {p : Addr} {Ls : List (List (List Int))} {R : List (List Int)} (h : PosAt H p Ls R) (e : Ex H H') : PosAt H' p Ls R := let ⟨g, h1, h2⟩ := h; ⟨g, e _ _ h1, fun r hr => let ⟨b, h3, h4⟩ := h2 r hr; ⟨b, h3, e _ _ h4⟩⟩
theorem yes_go {σ : L2.St} {H : Hp} {F G : Hp → Prop} (h : F H) : tYes σ H fun b H3 => if b = true then F H3 else G H3 := by
  show (if true = true then F H else G H)
  rw [if_pos rfl]
  exact h
theorem dtab_fold {f : List Int → V} : ∀ (R S : List (List Int)), (S ++ R).Nodup → (R.map fun r => (ky r, f r)).foldl (fun acc p => putK acc p.1 p.2) (dtab S f) = dtab (S ++ R) f
  | [], S, _ => by rw [List.append_nil] <;> rfl
  | r :: R, S, h => by
    have hr : r ∉ S := fun hm => by
      rw [List.nodup_append] at h
      exact h.2.2 r hm r List.mem_cons_self rfl
    rw [List.map_cons, List.foldl_cons, dtab_put_new hr]
    have e : dtab (S ++ [r]) (fset f r (f r)) = dtab (S ++ [r]) f := dtab_congr fun q _ => by
      unfold fset
      by_cases e : q = r
      · rw [if_pos e, e]
      · rw [if_neg e]
    show List.foldl _ (dtab (S ++ [r]) (fset f r (f r))) _ = _
    rw [e, dtab_fold R (S ++ [r]) (by rw [List.append_assoc]; exact h), List.append_assoc] <;> rfl
section
variable {P : Program} {w : World} {K : PySem.W.Frag} {mg : Str → Option Value} {base : Heap} {a : Nat → Addr} {d : Nat → FuncData} {tk : Nat → Tok}
/-! _law_places -/
def sp__law_places : Sp := fun vs H Q _ => ∃ (x : V) (Ls : List (List (List Int))) (R : List (List Int)) (n : Nat), vs = [x] ∧ LLs H x Ls ∧ OkLists n Ls ∧ Ls[0]? = some R ∧ ∀ p H2, H p = none → Ex H H2 → PosAt H2 p Ls R → Q (.ref p) H2
end
end Mv
/-! _law_ahead, _law_most. -/
namespace Mv
open PySem PySem.Spec PyProof.Rows L2 Evl
theorem any_ge (Ls : List (List (List Int))) (q r : List Int) : ((posL Ls q).zip (posL Ls r)).length = Ls.length := by
  unfold posL
  rw [List.length_zip, List.length_map, List.length_map, Nat.min_self]
theorem lev_unique {Ls : List (List (List Int))} {R : List (List Int)} {lev lev' : List Int → Nat} {ahd ahd' : List Int → Option (List Int)} (L : LevOn Ls R lev ahd) (L' : LevOn Ls R lev' ahd') {R0 : List (List Int)} (h0 : R0 ∈ Ls) : ∀ (k : Nat) (r : List Int), r ∈ R → R0.idxOf r = k → lev r = lev' r := by
  intro k
  induction k using Nat.strongRecOn with
  | ind k ih =>
    intro r hr e
    have h : ∀ {lev lev' : List Int → Nat} {ahd ahd' : List Int → Option (List Int)}, LevOn Ls R lev ahd → LevOn Ls R lev' ahd' → (∀ q ∈ R, R0.idxOf q < k → lev q = lev' q) → lev r ≤ lev' r := fun {lev lev' ahd ahd'} L L' same => by
      rcases L.how r hr with ⟨z, _⟩ | ⟨q, hq, h1, h2, _⟩
      · omega
      · have a := L'.lt r hr q hq h1
        have b := same q hq (by have := Ah.lt h1 h0; omega)
        omega
    refine Nat.le_antisymm (h L L' fun q hq hk => ih _ hk q hq rfl) (h L' L fun q hq hk => (ih _ hk q hq rfl).symm)
theorem count_unique {Ls : List (List (List Int))} {R : List (List Int)} {lev lev' : List Int → Nat} {ahd ahd' : List Int → Option (List Int)} {M M' : Nat} (L : LevOn Ls R lev ahd) (L' : LevOn Ls R lev' ahd') {R0 : List (List Int)} (h0 : R0 ∈ Ls) (c : IsCount R lev M) (c' : IsCount R lev' M') : M = M' := by
  have e : ∀ r ∈ R, lev r = lev' r := fun r hr => lev_unique L L' h0 _ r hr rfl
  rcases Classical.em (R = []) with z | z
  · rw [c.nil z, c'.nil z]
  · obtain ⟨r, hr, h1⟩ := c.hit z
    obtain ⟨r', hr', h2⟩ := c'.hit z
    have a := c'.lt r hr
    have b := c.lt r' hr'
    have e1 := e r hr
    have e2 := e r' hr'
    omega
section
variable {K : PySem.W.Frag} {σ : L2.St} {H H' : Hp} {ta tb tc te tl tx : TE} {t u : TT} {x y z v : V} {D : Ends}
/-- a comprehension over zip(xs, ys) -/
theorem el_lcZ {ta : TA} {p q : Addr} {xs ys : List V} {j1 j2 : Nat} {vs : List Nat} (f : Nat → Bool) (v : Nat → V) (h : EvA ta σ H [.ref p, .ref q]) (hx : SqL K H p xs) (hy : SqL K H q ys) (hl : xs.length = ys.length) (hz : xs.length ≤ 40000) (hw : ∀ x y, wipe (((wipe σ vs).set j1 (some x)).set j2 (some y)) vs = wipe σ vs)
    (ht : ∀ (i : Nat) (x y : V) H1, Ex H H1 → xs[i]? = some x → ys[i]? = some y → EvT t (((wipe σ vs).set j1 (some x)).set j2 (some y)) H1 (f i)) (he : ∀ (i : Nat) (x y : V) H1, Ex H H1 → xs[i]? = some x → ys[i]? = some y → f i = true → Ev te (((wipe σ vs).set j1 (some x)).set j2 (some y)) H1 (v i)) :
    EvL (tLc (iZip K ta) (gTup K 2 (gCons (gName j1) (gCons (gName j2) gNil))) t te vs) σ H (given xs.length f v) := fun H0 e Q k => h H0 e _ fun H1 e1 => ⟨p, q, xs, ys, rfl, ex_l (e.trans e1) hx, ex_l (e.trans e1) hy, fun Dl hD => by
  refine lc_it (walk_zip (K := K) (a := p) (b := q) (n := xs.length) (by rw [← hl, Nat.min_self])) (Cw H1 f v Dl) ⟨hD, Ex.new hD, upd_same⟩ (fun i H' _ pv => ⟨ex_l ((e.trans e1).trans pv.2.1) hx, ex_l ((e.trans e1).trans pv.2.1) hy⟩) ?_ fun H' pv => k Dl H' (fresh_back e1 pv.1) (e1.trans pv.2.1) pv.2.2
  rintro i x H' H'' hi pv ⟨T0, x1, x2, rfl, hT, rfl, g1, g2⟩
  obtain ⟨p1, p2, p3⟩ := pv
  have eT : Ex H' (upd H' T0 (.tup [x1, x2])) := Ex.new hT
  exact ⟨T0, _, rfl, st_of upd_same, rfl, _, _, rfl, _, _, rfl, rfl, hw _ _, cw_turn ⟨p1, p2.trans eT, eT _ _ p3⟩ (by omega) (ht i x1 x2 H1 (e.trans e1) g1 g2) (fun hf => he i x1 x2 H1 (e.trans e1) g1 g2 hf)⟩⟩
theorem given_empty {n : Nat} {f : Nat → Bool} {v : Nat → V} : (given n f v).isEmpty = (List.range n).all fun i => !f i := by
  unfold given
  rw [Bool.eq_iff_iff, List.isEmpty_iff, List.map_eq_nil_iff, List.filter_eq_nil_iff, List.all_eq_true]
  constructor
  · intro h i hi
    have := h i hi
    simpa using this
  · intro h i hi
    have := h i hi
    simpa using this
end
section
variable {P : Program} {w : World} {K : PySem.W.Frag} {mg : Str → Option Value} {base : Heap} {a : Nat → Addr} {d : Nat → FuncData} {tk : Nat → Tok}
/-! _law_ahead -/
def sp__law_ahead : Sp := fun vs H Q _ => ∃ (p : Addr) (x y : V) (Ls : List (List (List Int))) (R : List (List Int)) (q r : List Int), vs = [.ref p, x, y] ∧ PosAt H p Ls R ∧ IsRow H x q ∧ IsRow H y r ∧ q ∈ R ∧ r ∈ R ∧ Ls.length ≤ 6 ∧ RetV (.bl (Ah Ls q r)) H Q
/-! _law_most -/
theorem max_zero (l : List Nat) : ∃ m, (m = 0 ∨ m ∈ l) ∧ ∀ x ∈ l, x ≤ m := by
  induction l with
  | nil => exact ⟨0, .inl rfl, fun x h => by cases h⟩
  | cons a l ih =>
    obtain ⟨m, h1, h2⟩ := ih
    by_cases h : m ≤ a
    · refine ⟨a, .inr List.mem_cons_self, fun x hx => ?_⟩
      rcases List.mem_cons.mp hx with e | hx
      · omega
      · have := h2 x hx; omega
    · refine ⟨m, h1.imp id fun h => List.mem_cons_of_mem _ h, fun x hx => ?_⟩
      rcases List.mem_cons.mp hx with e | hx
      · omega
      · exact h2 x hx
/-- max(xs + [0]) -/
theorem ev_max0 {K : PySem.W.Frag} {σ : L2.St} {H : Hp} {ta : TE} {p : Addr} {l : List Nat} {m : Nat} (ha : Ev ta σ H (.ref p)) (hp : H p = some (.lst (l.map fun n : Nat => V.int (n : Int)))) (hl : l.length ≤ 1000) (h1 : m = 0 ∨ m ∈ l) (h2 : ∀ x ∈ l, x ≤ m) :
    Ev (tCB (rMax K) (tCons (tOp rCat ta (tLst (tCons (tC (.int 0)) tNil))) tNil)) σ H (.int (m : Int)) := fun H1 e Q q =>
  ha H1 e _ fun H2 e2 => ⟨sz_of (show 1 ≤ 100000 by decide), fun s hs => by
    have e3 : Ex H2 (upd H2 s (.lst [.int 0])) := Ex.new hs
    refine ⟨p, s, _, [.int 0], rfl, rfl, (e.trans (e2.trans e3)) _ _ hp, upd_same, ?_, fun u hu => ?_⟩
    · rw [List.length_map]
      exact sz_of (by show l.length + 1 ≤ 100000; omega)
    · have e4 := Ex.new (o := .lst ((l.map fun n : Nat => V.int (n : Int)) ++ [.int 0])) hu
      refine ⟨u, (l.map fun n : Nat => (n : Int)) ++ [0], rfl, sq_of ?_, ?_, fun mx hm hb => ?_⟩
      · rw [upd_same, List.map_append, List.map_map]
        rfl
      · rw [List.length_append, List.length_singleton]
        omega
      · have em : mx = (m : Int) := by
          have a1 : (m : Int) ≤ mx := by
            rcases h1 with z | z
            · have := hb 0 (List.mem_append_right _ List.mem_cons_self)
              omega
            · exact hb _ (List.mem_append_left _ (List.mem_map_of_mem (f := fun n : Nat => (n : Int)) z))
          rcases List.mem_append.mp hm with z | z
          · obtain ⟨n, hn, en⟩ := List.mem_map.mp z
            have := h2 n hn
            have en : (n : Int) = mx := en
            omega
          · have := List.mem_singleton.mp z
            omega
        rw [em]
        exact q _ ((e2.trans e3).trans e4)⟩
def PosN (H : Hp) (p : Addr) (Ls : List (List (List Int))) (R : List (List Int)) (kn : Addr) : Prop := ∃ g : List Int → V, H p = some (.dT (dtab R g)) ∧ ∀ r ∈ R, ∃ b, g r = .ref b ∧ H b = some (.lst (posL Ls r)) ∧ b ≠ kn
theorem PosN.at {H : Hp} {p : Addr} {Ls : List (List (List Int))} {R : List (List Int)} {kn : Addr} (h : PosN H p Ls R kn) : PosAt H p Ls R := let ⟨g, h1, h2⟩ := h; ⟨g, h1, fun r hr => let ⟨b, h3, h4, _⟩ := h2 r hr; ⟨b, h3, h4⟩⟩
theorem PosN.ex {H H' : Hp} {p : Addr} {Ls : List (List (List Int))} {R : List (List Int)} {kn : Addr} (h : PosN H p Ls R kn) (e : Ex H H') : PosN H' p Ls R kn := let ⟨g, h1, h2⟩ := h; ⟨g, e _ _ h1, fun r hr => let ⟨b, h3, h4, h5⟩ := h2 r hr; ⟨b, h3, e _ _ h4, h5⟩⟩
def sp__law_most : Sp := fun vs H Q _ => ∃ (x : V) (Ls : List (List (List Int))) (R : List (List Int)) (n : Nat), vs = [x] ∧ LLs H x Ls ∧ OkLists n Ls ∧ Ls[0]? = some R ∧ ∀ lev ahd M H2, LevOn Ls R lev ahd → IsCount R lev M → Ex H H2 → Q (.int (M : Int)) H2
end
end Mv
/-! _law_are_right. -/
namespace Mv
open PySem PySem.Spec PyProof.Rows L2 Evl
theorem lev_hit {Ls : List (List (List Int))} {R : List (List Int)} {lev : List Int → Nat} {ahd : List Int → Option (List Int)} {M : Nat} (L : LevOn Ls R lev ahd) (hM : IsCount R lev M) : ∀ i, i < M → ∃ r ∈ R, lev r = i := by
  have down : ∀ k, ∀ r ∈ R, lev r = k → ∀ i, i ≤ k → ∃ q ∈ R, lev q = i := by
    intro k
    induction k with
    | zero =>
      intro r hr e i hi
      exact ⟨r, hr, by omega⟩
    | succ k ih =>
      intro r hr e i hi
      by_cases h : i = k + 1
      · exact ⟨r, hr, by omega⟩
      · rcases L.how r hr with ⟨z, _⟩ | ⟨q, hq, _, h2, _⟩
        · omega
        · exact ih q hq (by omega) i (by omega)
  intro i hi
  have hne : R ≠ [] := fun z => by have := hM.nil z; omega
  obtain ⟨r, hr, e⟩ := hM.hit hne
  exact down (lev r) r hr rfl i (by omega)
def flatLev (R : List (List Int)) (lev : List Int → Nat) (M : Nat) : List (List Int) := ((List.range M).map fun i => R.filter fun r => decide (lev r = i)).flatten
theorem flat_perm (R : List (List Int)) (lev : List Int → Nat) : ∀ M, (flatLev R lev M).Perm (R.filter fun r => decide (lev r < M))
  | 0 => by
    have : (R.filter fun r => decide (lev r < 0)) = [] := List.filter_eq_nil_iff.mpr fun r _ => by simp
    rw [this]
    exact .refl _
  | M + 1 => by
    have e : flatLev R lev (M + 1) = flatLev R lev M ++ R.filter fun r => decide (lev r = M) := by
      unfold flatLev
      rw [List.range_succ, List.map_append, List.flatten_append]
      simp
    rw [e]
    have z := List.filter_append_perm (fun r => decide (lev r < M)) (R.filter fun r => decide (lev r < M + 1))
    rw [List.filter_filter, List.filter_filter] at z
    have z1 : (R.filter fun r => decide (lev r < M) && decide (lev r < M + 1)) = R.filter fun r => decide (lev r < M) := List.filter_congr fun r _ => by
      by_cases h : lev r < M
      · rw [decide_eq_true h, decide_eq_true (by omega)] <;> rfl
      · rw [decide_eq_false h] <;> rfl
    have z2 : (R.filter fun r => !decide (lev r < M) && decide (lev r < M + 1)) = R.filter fun r => decide (lev r = M) := List.filter_congr fun r _ => by
      by_cases h : lev r = M
      · rw [decide_eq_true h, decide_eq_false (by omega), decide_eq_true (by omega)] <;> rfl
      · rw [decide_eq_false h]
        by_cases h2 : lev r < M
        · rw [decide_eq_true h2] <;> rfl
        · rw [decide_eq_false h2, decide_eq_false (by omega)] <;> rfl
    rw [z1, z2] at z
    exact ((flat_perm R lev M).append_right _).trans z
theorem flat_all {R : List (List Int)} {lev : List Int → Nat} {M : Nat} (h : ∀ r ∈ R, lev r < M) : (flatLev R lev M).Perm R := by
  have z := flat_perm R lev M
  have e : (R.filter fun r => decide (lev r < M)) = R := List.filter_eq_self.mpr fun r hr => decide_eq_true (h r hr)
  rwa [e] at z
theorem chn_at {Ls : List (List (List Int))} : ∀ {ds : List (List Int)}, Chn Ls ds → ∀ (i : Nat) (q r : List Int), ds[i]? = some q → ds[i + 1]? = some r → Ah Ls q r = true
  | [], _, i, q, r, h, _ => by simp at h
  | [_], _, i, q, r, _, h => by simp at h
  | a :: b :: l, hc, 0, q, r, h1, h2 => by
    cases (Option.some.inj (show some _ = some q from h1))
    cases (Option.some.inj (show some _ = some r from h2))
    exact hc.1
  | a :: b :: l, hc, i + 1, q, r, h1, h2 => chn_at (ds := b :: l) hc.2 i q r h1 h2
/-- the levels as a list of lists -/
def LevV (H : Hp) (y : V) (R : List (List Int)) (lev : List Int → Nat) (M : Nat) : Prop := ∃ l ys, y = .ref l ∧ H l = some (.lst ys) ∧ ys.length = M ∧ ∀ (i : Nat) (z : V), ys[i]? = some z → LRw H z (R.filter fun r => decide (lev r = i))
theorem LevV.ex {H H' : Hp} {y : V} {R : List (List Int)} {lev : List Int → Nat} {M : Nat} (h : LevV H y R lev M) (e : Ex H H') : LevV H' y R lev M := let ⟨l, ys, h1, h2, h3, h4⟩ := h; ⟨l, ys, h1, e _ _ h2, h3, fun i z hz => (h4 i z hz).ex e⟩
theorem lists_of {H : Hp} : ∀ (ys : List V) (f : Nat → List (List Int)) (k : Nat), (∀ (i : Nat) (z : V), ys[i]? = some z → LRw H z (f (k + i))) → ∃ ls : List (Addr × List V), ys = ls.map (fun p => V.ref p.1) ∧ (∀ p ∈ ls, H p.1 = some (.lst p.2)) ∧ Paired (IsRow H) (ls.map (·.2)).flatten ((List.range' k ys.length).map f).flatten
  | [], f, k, _ => ⟨[], rfl, fun p h => (by cases h), .nil⟩
  | y :: ys, f, k, h => by
    obtain ⟨ls, e1, e2, e3⟩ := lists_of ys f (k + 1) fun i z hz => by
      have := h (i + 1) z hz
      have e : k + (i + 1) = k + 1 + i := by omega
      rw [e] at this
      exact this
    obtain ⟨b, zs, z1, z2, z3⟩ := h 0 y rfl
    refine ⟨(b, zs) :: ls, by rw [List.map_cons, e1, z1] <;> simp, fun p hp => ?_, ?_⟩
    · rcases List.mem_cons.mp hp with e | hp
      · rw [e]; exact z2
      · exact e2 p hp
    · rw [List.length_cons, List.range'_succ, List.map_cons, List.map_cons, List.flatten_cons, List.flatten_cons]
      exact Paired.append z3 e3
section
variable {K : PySem.W.Frag} {σ : L2.St} {H H' : Hp} {ta tb tc te tl tx : TE} {t u : TT} {x y z v : V} {D : Ends}
theorem ep_sum {R : List (List Int)} {lev : List Int → Nat} {M : Nat} (ha : Ev ta σ H y) (hy : LevV H y R lev M) (hz : (flatLev R lev M).length ≤ 1000) : EvP (tCB rSumL (tCons ta (tCons (tLst tNil) tNil))) σ H (fun v H2 => Rws H2 v (flatLev R lev M)) := fun H1 e Q q =>
  ha H1 e _ fun H2 e2 => ⟨Nat.zero_le _, fun s hs => by
    have e3 : Ex H2 (upd H2 s (.lst [])) := Ex.new hs
    obtain ⟨l, ys, rfl, hl, hM, hL⟩ := hy.ex (e.trans (e2.trans e3))
    obtain ⟨ls, g1, g2, g3⟩ := lists_of ys (fun i => R.filter fun r => decide (lev r = i)) 0 fun i z hz => by
      rw [Nat.zero_add]
      exact hL i z hz
    rw [hM, ← List.range_eq_range'] at g3
    have g3 : Paired (IsRow (upd H2 s (.lst []))) (ls.map (·.2)).flatten (flatLev R lev M) := g3
    have len := Paired.length g3
    refine ⟨l, s, ls, [], rfl, by rw [hl, g1], g2, upd_same, ?_, fun hn => ?_, fun p hp => ?_⟩
    · rw [List.length_nil, Nat.zero_add, len]
      exact sz_of (by omega)
    · refine q _ _ (e2.trans e3) ⟨s, [], rfl, .inl upd_same, ?_⟩
      rw [hn] at g3
      exact g3
    · have e4 : Ex (upd H2 s (.lst [])) (upd (upd H2 s (.lst [])) p (.lst ([] ++ (ls.map (·.2)).flatten))) := Ex.new hp
      refine q _ _ ((e2.trans e3).trans e4) ⟨p, _, rfl, .inl upd_same, ?_⟩
      rw [List.nil_append]
      exact Paired.imp (fun _ _ h => h.ex e4) g3⟩
theorem ef_sortedP {n : Nat} {rs : List (List Int)} (ha : EvP ta σ H (fun x H2 => Rws H2 x rs)) (ho : ∀ r ∈ rs, OkRow n r) (h60 : rs.length < 64) : EvF (tCB (rSortS K n 1000) (tCons ta tNil)) σ H (NewRows fun cs => SortedRows cs rs) := fun H1 e Q q =>
  ha H1 e _ fun x H2 e2 hx => by
    have z := ef_sorted (K := K) (σ := [some x]) (ta := tVar 0) (ev_var rfl) hx ho h60
    obtain ⟨v, hv, h⟩ := z H2 (Ex.refl H2) Q fun p H3 hp e3 h => q p H3 (fresh_back e2 hp) (e2.trans e3) h
    have hv : some (some x) = some (some v) := hv
    cases hv
    exact h
theorem et_sortedNeP {n : Nat} {rs qs : List (List Int)} (ha : EvP ta σ H (fun x H2 => Rws H2 x rs)) (hb : EvP tb σ H (fun x H2 => Rws H2 x qs)) (ho : ∀ r ∈ rs, OkRow n r) (h60 : rs.length < 64) (pm : qs.Perm rs) :
    EvT (tTest (tOp (rNeD K) (tCB (rSortS K n 1000) (tCons ta tNil)) (tCB (rSortS K n 1000) (tCons tb tNil)))) σ H false := fun H1 e Q q =>
  ef_sortedP ha ho h60 H1 e _ fun p H2 _ e2 ⟨cs, xs, h1, h2, h3⟩ =>
    ef_sortedP hb (fun r hr => ho r (pm.mem_iff.mp hr)) (by rw [pm.length_eq]; exact h60) H2 (e.trans e2) _ fun p' H3 _ e3 ⟨ds, ys, g1, g2, g3⟩ => by
      have e0 : cs = ds := sorted_same h1 g1 ho pm
      subst e0
      refine ⟨.list (cs.map rd), .list (cs.map rd), .lst (sq_of (e3 _ _ h2)) (dp_rows (Paired.imp (fun _ _ z => z.ex e3) h3)), .lst (sq_of g2) (dp_rows g3), shaped_rows _, shaped_rows _, false, ?_, q H3 (e2.trans e3)⟩
      rw [SeqAt.eqv_refl _ (SeqAt.canLay_of_shaped (shaped_rows cs))] <;> rfl
theorem mem_cutV {xs : List V} {lo hi : Option Int} {x : V} (h : x ∈ cutV xs lo hi) : x ∈ xs := by
  unfold cutV at h
  exact List.mem_of_mem_drop (List.mem_of_mem_take h)
end
section
variable {P : Program} {w : World} {K : PySem.W.Frag} {mg : Str → Option Value} {base : Heap} {a : Nat → Addr} {d : Nat → FuncData} {tk : Nat → Tok}
def sp__law_are_right : Sp := fun vs H Q _ => ∃ (x : V) (f : Addr) (y : V) (Ls : List (List (List Int))) (R : List (List Int)) (n : Nat) (ys : List V) (ds : List (List Int)) (lev : List Int → Nat) (ahd : List Int → Option (List Int)) (M : Nat), vs = [x, .ref f, y] ∧ LLs H x Ls ∧ OkLists n Ls ∧ Ls[0]? = some R ∧
  H f = some (.lst ys) ∧ Paired (IsRow H) ys ds ∧ Chn Ls ds ∧ (∀ q ∈ ds, q ∈ R) ∧ ds.length = M ∧ LevOn Ls R lev ahd ∧ IsCount R lev M ∧ LevV H y R lev M ∧ RetV (.bl true) H Q
end
end Mv
/-! The law's draws. -/
namespace Mv
open PySem PySem.Spec PyProof.Rows L2 Evl
/-- all but p stays -/
def ExB (p : Addr) (H H' : Hp) : Prop := ∀ a o, a ≠ p → H a = some o → H' a = some o
theorem Ex.b {p : Addr} {H H' : Hp} (e : Ex H H') : ExB p H H' := fun a o _ h => e a o h
theorem ExB.trans {p : Addr} {H H1 H2 : Hp} (a : ExB p H H1) (b : ExB p H1 H2) : ExB p H H2 := fun x o n h => b x o n (a x o n h)
theorem ExB.refl {p : Addr} (H : Hp) : ExB p H H := fun _ _ _ h => h
theorem ExB.mut {p q : Addr} {H H' : Hp} {o : HO} (e : ExB p H H') (h : H q = none) : ExB p H (upd H' q o) := fun a u n ha => by
  rw [upd_ne (ne_of_none ha h)]
  exact e a u n ha
theorem ExB.own {p : Addr} {H H' : Hp} {o : HO} (e : ExB p H H') : ExB p H (upd H' p o) := fun a u n ha => by
  rw [upd_ne n]
  exact e a u n ha
theorem ExB.back {p q : Addr} {H H' : Hp} (e : ExB p H H') (n : q ≠ p) (h : H' q = none) : H q = none := by
  cases z : H q with
  | none => rfl
  | some o =>
    rw [e q o n z] at h
    cases h
/-- the law's box behind at most n draws of the second kind -/
def BoxAt (H : Hp) (p : Addr) (n : Nat) : Prop := ∃ b0 b1 b2 : Int, H p = some (.lst [.int b0, .int b1, .int b2]) ∧ 0 ≤ b1 ∧ b1 < 2147483629 ∧ 0 ≤ b2 ∧ b2 ≤ (n : Int)
theorem BoxAt.ex {H H' : Hp} {p : Addr} {n : Nat} (h : BoxAt H p n) (e : Ex H H') : BoxAt H' p n := let ⟨b0, b1, b2, h1, h2⟩ := h; ⟨b0, b1, b2, e _ _ h1, h2⟩
theorem BoxAt.mono {H : Hp} {p : Addr} {n m : Nat} (h : BoxAt H p n) (l : n ≤ m) : BoxAt H p m := let ⟨b0, b1, b2, h1, h2, h3, h4, h5⟩ := h; ⟨b0, b1, b2, h1, h2, h3, h4, by omega⟩
theorem BoxAt.upd {H : Hp} {p q : Addr} {n : Nat} {o : HO} (h : BoxAt H p n) (ne : p ≠ q) : BoxAt (L2.upd H q o) p n := let ⟨b0, b1, b2, h1, h2⟩ := h; ⟨b0, b1, b2, by rw [upd_ne ne]; exact h1, h2⟩
theorem BoxAt.some {H : Hp} {p : Addr} {n : Nat} (h : BoxAt H p n) : H p ≠ none := fun z => by
  obtain ⟨_, _, _, h1, _⟩ := h
  rw [z] at h1
  cases h1
theorem BoxAt.ne {H : Hp} {p q : Addr} {n : Nat} (h : BoxAt H p n) (hq : H q = none) : p ≠ q := fun z => h.some (z ▸ hq)
theorem IsRow.exB {H H' : Hp} {p : Addr} {n : Nat} {x : V} {r : List Int} (h : IsRow H x r) (hb : BoxAt H p n) (e : ExB p H H') : IsRow H' x r := by
  obtain ⟨b, rfl, h1⟩ := h
  obtain ⟨_, _, _, h2, _⟩ := hb
  exact ⟨b, rfl, e _ _ (fun z => by rw [z, h2] at h1; cases h1) h1⟩
theorem rows_box {H : Hp} {p q : Addr} {n : Nat} {ys : List V} {rs : List (List Int)} (hb : BoxAt H p n) (hq : H q = some (.lst ys)) (hp : Paired (IsRow H) ys rs) : q ≠ p := fun z => by
  obtain ⟨b0, b1, b2, h2, _⟩ := hb
  rw [z, h2] at hq
  injection hq with hq
  injection hq with hq
  subst hq
  cases hp with
  | cons h _ =>
    obtain ⟨_, e, _⟩ := h
    cases e
theorem LRw.exB {H H' : Hp} {p : Addr} {n : Nat} {x : V} {rs : List (List Int)} (h : LRw H x rs) (hb : BoxAt H p n) (e : ExB p H H') : LRw H' x rs := by
  obtain ⟨b, ys, rfl, h1, h2⟩ := h
  exact ⟨b, ys, rfl, e _ _ (rows_box hb h1 h2) h1, Paired.imp (fun _ _ z => z.exB hb e) h2⟩
theorem LRw.upd {H : Hp} {q : Addr} {x : V} {rs : List (List Int)} {o o' : HO} (h : LRw H x rs) (hq : H q = some o) (ne : ∀ xs, o ≠ .tup xs) (hx : x ≠ .ref q) : LRw (L2.upd H q o') x rs := by
  obtain ⟨b, ys, rfl, h1, h2⟩ := h
  exact ⟨b, ys, rfl, by rw [upd_ne (fun z => hx (by rw [z]))]; exact h1, Paired.imp (fun _ _ z => z.upd hq ne) h2⟩
theorem erase_perm {α : Type} : ∀ {l : List α} {i : Nat} (h : i < l.length), (l[i] :: l.eraseIdx i).Perm l
  | _ :: _, 0, _ => List.Perm.refl _
  | a :: l, i + 1, h => by
    have h2 : i < l.length := by simpa using h
    have ih := erase_perm (l := l) (i := i) h2
    show (l[i] :: a :: l.eraseIdx i).Perm (a :: l)
    exact (List.Perm.swap _ _ _).trans (ih.cons a)
theorem lst_ntup (ys : List V) : ∀ xs, HO.lst ys ≠ .tup xs := fun _ z => by cases z
theorem Paired.take {α β : Type} {F : α → β → Prop} : ∀ {xs : List α} {ys : List β} (n : Nat), Paired F xs ys → Paired F (xs.take n) (ys.take n)
  | _, _, 0, _ => by rw [List.take_zero, List.take_zero]; exact .nil
  | _, _, _ + 1, .nil => .nil
  | _, _, n + 1, .cons h t => .cons h (Paired.take n t)
theorem Paired.drop {α β : Type} {F : α → β → Prop} : ∀ {xs : List α} {ys : List β} (n : Nat), Paired F xs ys → Paired F (xs.drop n) (ys.drop n)
  | _, _, 0, h => h
  | _, _, _ + 1, .nil => .nil
  | _, _, n + 1, .cons _ t => Paired.drop n t
theorem Paired.erase {α β : Type} {F : α → β → Prop} : ∀ {xs : List α} {ys : List β} (n : Nat), Paired F xs ys → Paired F (xs.eraseIdx n) (ys.eraseIdx n)
  | _, _, _, .nil => .nil
  | _, _, 0, .cons _ t => t
  | _, _, n + 1, .cons h t => .cons h (Paired.erase n t)
section
variable {P : Program} {w : World} {K : PySem.W.Frag} {mg : Str → Option Value} {base : Heap} {a : Nat → Addr} {d : Nat → FuncData} {tk : Nat → Tok}
/-! _law_cell, _law_box -/
def sp__law_cell (K : PySem.W.Frag) : Sp := fun vs H Q _ => ∃ (p : Addr) (ns : List Int) (k : Nat), vs = [.ref p, .int (k : Int)] ∧ SqL K H p (ns.map V.int) ∧ k ≤ 100 ∧ ∀ c, RetV (.int c) H Q
theorem ok__law_cell (T : All K mg a d tk) : FnOk P w K mg base CX0 1 (a 19) (d 19) ["script", "k"] (sp__law_cell K) := by
  refine T.F__law_cell.fn.ok sc__law_cell (fun vs H Q E h => ?_) (fun cdv A outer s H vs Q E hr h => ?_)
  · obtain ⟨p, ns, k, rfl, _⟩ := h
    rfl
  · obtain ⟨p, ns, k, rfl, hs, hk, kk⟩ := h
    have nd := sc__law_cell.nd
    refine ⟨_, (pss_cons (ps_if (pt_cmpR op_lt (pv 1) (pe_callB call_len_seq (by rfl) T.n_len PySem.boot_len (pa_cons (pv 0) pa_nil)) (nomark _))
 (pss_one (ps_ret (pe_ix ix_list (pv 0) (pv 1) (fun _ _ => rfl))))
 pss_nil)
 (pss_one (ps_ret (pe_op op_add (pe_op op_mul pe_int (pv 1)) pe_int)))), ?_⟩
    refine q_when (et_I0 (ev_var rfl) (ev_len (ev_var rfl) hs)) (fun hb H1 e1 => ?_) fun hb H1 e1 => ?_
    · have hb := of_decide_eq_true hb
      have hlt : k < (ns.map V.int).length := by omega
      obtain ⟨c, hc⟩ : ∃ c, (ns.map V.int)[k]? = some (V.int c) := by
        rw [List.length_map] at hlt
        exact ⟨ns[k], by rw [List.getElem?_map, List.getElem?_eq_getElem hlt] <;> rfl⟩
      exact s_ret (ev_ixL (i := (k : Int)) (ev_var rfl) (ev_var rfl) (ex_l e1 hs) (atI_nat hc)) fun H2 e2 => kk c H2 (e1.trans e2)
    · exact s_ret (ev_I0 (ev_I ev_c (ev_var rfl) (.inl ⟨by decide, by decide⟩)) ev_c) fun H2 e2 => kk _ H2 (e1.trans e2)
def sp__law_box : Sp := fun vs H Q _ => ∃ c : Int, vs = [.int c] ∧ ∀ p H2, H p = none → Ex H H2 → BoxAt H2 p 0 → Q (.ref p) H2
theorem ok__law_box (T : All K mg a d tk) : FnOk P w K mg base CX0 1 (a 20) (d 20) ["cell"] sp__law_box := by
  refine T.F__law_box.fn.ok sc__law_box (fun vs H Q E h => ?_) (fun cdv A outer s H vs Q E hr h => ?_)
  · obtain ⟨c, rfl, _⟩ := h
    rfl
  · obtain ⟨c, rfl, k⟩ := h
    have nd := sc__law_box.nd
    refine ⟨_, (pss_one (ps_ret (pe_lst (pa_cons (pe_callB (call_max2 rfl) (by rfl) T.n_max PyProof.Rows.boot_max (pa_cons pe_int (pa_cons (pe_op op_sub (pv 0) (pe_op op_pow pe_int pe_int)) pa_nil))) (pa_cons (pe_op op_mod (pv 0) pe_int) (pa_cons pe_int pa_nil)))))), ?_⟩
    refine s_retL (el_lst (ea_cons (ev_max2 ev_c (ev_I0 (ev_var rfl) (ev_I (i := 10) (j := 18) ev_c ev_c ⟨by decide, by decide, by decide⟩))) (ea_cons (ev_I (j := 2147483629) (ev_var rfl) ev_c (by show (0 : Int) < 2147483629; decide)) (ea_cons ev_c ea_nil))) (show 3 ≤ 100000 by decide)) fun p H1 hp e h => ?_
    exact k p H1 hp e ⟨_, _, _, h, Int.emod_nonneg _ (by decide), Int.emod_lt_of_pos _ (by decide), Int.le_refl _, Int.le_refl _⟩
/-! _law_take -/
def sp__law_take : Sp := fun vs H Q _ => ∃ (p : Addr) (m : Int) (n : Nat), vs = [.ref p, .int m] ∧ 1 ≤ m ∧ m ≤ 100000 ∧ BoxAt H p n ∧ n ≤ 100000 ∧ ∀ (i : Int) (H2 : Hp), 0 ≤ i → i < m → ExB p H H2 → BoxAt H2 p (n + 1) → Q (.int i) H2
theorem ok__law_take (T : All K mg a d tk) : FnOk P w K mg base CX0 1 (a 21) (d 21) ["box", "many"] sp__law_take := by
  refine T.F__law_take.fn.ok sc__law_take (fun vs H Q E h => ?_) (fun cdv A outer s H vs Q E hr h => ?_)
  · obtain ⟨p, m, n, rfl, _⟩ := h
    rfl
  · obtain ⟨p, m, n, rfl, h1, h2, ⟨b0, b1, b2, hb, c1, c2, c3, c4⟩, hn, k⟩ := h
    have nd := sc__law_take.nd
    refine ⟨_, (pss_cons (ps_if (pt_cmpR op_gt (pe_ix ix_list (pv 0) pe_int (fun _ _ => rfl)) pe_int (nomark _))
 (pss_cons (ps_set (i := 2) nd rfl (Or.inl rfl) (pe_op op_mod (pe_ix ix_list (pv 0) pe_int (fun _ _ => rfl)) (pv 1)))
 (pss_cons (ps_asg (pe_op op_fdivW (pe_ix ix_list (pv 0) pe_int (fun _ _ => rfl)) (pv 1)) (pg_sub (pv 0) pe_int set_list))
 (pss_one (ps_ret (pv 2)))))
 pss_nil)
 (pss_cons (ps_asg (pe_op op_add (pe_ix ix_list (pv 0) pe_int (fun _ _ => rfl)) pe_int) (pg_sub (pv 0) pe_int set_list))
 (pss_cons (ps_set (i := 3) nd rfl (Or.inl rfl) (pe_op op_mod (pe_op op_pow (pe_op op_add (pe_op op_add (pe_ix ix_list (pv 0) pe_int (fun _ _ => rfl)) (pe_op op_mul pe_int (pe_ix ix_list (pv 0) pe_int (fun _ _ => rfl)))) pe_int) pe_int) pe_int))
 (pss_cons (ps_set (i := 3) nd rfl (Or.inl rfl) (pe_op op_mod (pe_op op_pow (pe_op op_add (pv 3) (pe_op op_mul pe_int (pe_ix ix_list (pv 0) pe_int (fun _ _ => rfl)))) pe_int) pe_int))
 (pss_one (ps_ret (pe_op op_mod (pe_op op_fdivW (pv 3) pe_int) (pv 1)))))))), ?_⟩
    have g0 : ∀ {H' : Hp} {σ' : L2.St} {x y z : Int}, σ'[0]? = some (some (.ref p)) → H' p = some (.lst [.int x, .int y, .int z]) → Ev (tOp (rIxL K) (tVar 0) (tC (.int 0))) σ' H' (.int x) := fun hσ h => ev_ixL (i := 0) (ev_var hσ) ev_c (sq_of h) rfl
    have g1 : ∀ {H' : Hp} {σ' : L2.St} {x y z : Int}, σ'[0]? = some (some (.ref p)) → H' p = some (.lst [.int x, .int y, .int z]) → Ev (tOp (rIxL K) (tVar 0) (tC (.int 1))) σ' H' (.int y) := fun hσ h => ev_ixL (i := 1) (ev_var hσ) ev_c (sq_of h) rfl
    have g2 : ∀ {H' : Hp} {σ' : L2.St} {x y z : Int}, σ'[0]? = some (some (.ref p)) → H' p = some (.lst [.int x, .int y, .int z]) → Ev (tOp (rIxL K) (tVar 0) (tC (.int 2))) σ' H' (.int z) := fun hσ h => ev_ixL (i := 2) (ev_var hσ) ev_c (sq_of h) rfl
    refine q_when (et_I0 (g0 rfl hb) ev_c) (fun _ H1 e1 => ?_) fun _ H1 e1 => ?_
    · refine q_asg (ev_I (j := m) (g0 rfl (e1 _ _ hb)) (ev_var rfl) (by show (0 : Int) < m; omega)) fun H2 e2 => ?_
      have e12 := e1.trans e2
      refine q_setL (j := 0) (e12 _ _ hb) (ev_I (j := m) (g0 rfl (e12 _ _ hb)) (ev_var rfl) (wide_div (b := 40) (by omega) (by omega) (by decide) (by decide))) (ev_var rfl) ev_c (show 0 < 3 by decide) fun H3 e3 => ?_
      refine s_ret (ev_var rfl) fun H4 e4 => k _ H4 (Int.emod_nonneg _ (by omega)) (Int.emod_lt_of_pos _ (by omega)) ((Ex.b (e12.trans e3)).own.trans (Ex.b e4)) ⟨_, b1, b2, e4 _ _ upd_same, c1, c2, c3, by omega⟩
    · refine q_setL (j := 2) (e1 _ _ hb) (ev_I0 (g2 rfl (e1 _ _ hb)) ev_c) (ev_var rfl) ev_c (show 2 < 3 by decide) fun H2 e2 => ?_
      have e12 := e1.trans e2
      have hb2 : upd H2 p (.lst ([V.int b0, .int b1, .int b2].set 2 (.int (b2 + 1)))) p = some (.lst [.int b0, .int b1, .int (b2 + 1)]) := upd_same
      generalize hH : upd H2 p (.lst ([V.int b0, .int b1, .int b2].set 2 (.int (b2 + 1)))) = H3 at hb2
      have eB : ExB p H H3 := by rw [← hH]; exact (Ex.b e12).own
      have mb : ∀ {i j : Int}, -(2 ^ 64) < i ∧ i < 2 ^ 64 → CMul i j := fun h => .inl h
      refine q_asg (ev_I (j := 2147483647) (ev_I (j := 5) (ev_I0 (ev_I0 (g1 rfl hb2) (ev_I ev_c (g2 rfl hb2) (mb ⟨by decide, by decide⟩))) ev_c) ev_c ⟨by decide, by decide, ?_⟩) ev_c (by show (0 : Int) < 2147483647; decide)) fun H4 e4 => ?_
      · have : (2 : Nat) ^ 64 = 18446744073709551616 := by decide
        rw [this]
        omega
      generalize hmx : (b1 + 15487667 * (b2 + 1) + 389) ^ Int.toNat 5 % 2147483647 = mx
      have q1 : 0 ≤ mx := by rw [← hmx]; exact Int.emod_nonneg _ (by decide)
      have q2 : mx < 2147483647 := by rw [← hmx]; exact Int.emod_lt_of_pos _ (by decide)
      refine q_asg (ev_I (j := 2147483587) (ev_I (j := 3) (ev_I0 (ev_var rfl) (ev_I ev_c (g2 rfl (e4 _ _ hb2)) (mb ⟨by decide, by decide⟩))) ev_c ⟨by decide, by decide, ?_⟩) ev_c (by show (0 : Int) < 2147483587; decide)) fun H5 e5 => ?_
      · have : (2 : Nat) ^ 64 = 18446744073709551616 := by decide
        rw [this]
        omega
      refine s_ret (ev_I (j := m) (ev_I (j := 16) (ev_var rfl) ev_c (wide_div (b := 40) (by decide) (by decide) (by decide) (by decide))) (ev_var rfl) (by show (0 : Int) < m; omega)) fun H6 e6 => ?_
      exact k _ H6 (Int.emod_nonneg _ (by omega)) (Int.emod_lt_of_pos _ (by omega)) (eB.trans (Ex.b ((e4.trans e5).trans e6))) ⟨b0, b1, b2 + 1, (e4.trans (e5.trans e6)) _ _ hb2, c1, c2, by omega, by omega⟩
/-! _law_mixed -/
def PermRes (p : Addr) (n : Nat) (H : Hp) (rs : List (List Int)) (Q : VK) : Prop := ∀ (v : V) (cs : List (List Int)) (H2 : Hp), LRw H2 v cs → cs.Perm rs → ExB p H H2 → BoxAt H2 p n → Q v H2
def sp__law_mixed : Sp := fun vs H Q _ => ∃ (p : Addr) (x : V) (rs : List (List Int)) (n : Nat), vs = [.ref p, x] ∧ LRw H x rs ∧ rs.length ≤ 60 ∧ BoxAt H p n ∧ n ≤ 90000 ∧ PermRes p (n + 100) H rs Q
theorem ok__law_mixed (T : All K mg a d tk) : FnOk P w K mg base CX0 2 (a 22) (d 22) ["box", "things"] sp__law_mixed := by
  refine T.F__law_mixed.fn.ok sc__law_mixed (fun vs H Q E h => ?_) (fun cdv A outer s H vs Q E hr h => ?_)
  · obtain ⟨p, x, rs, n, rfl, _⟩ := h
    rfl
  · obtain ⟨p, x, rs, n, rfl, ⟨xb, xs, rfl, hx, hxp⟩, h60, hB, hn, k⟩ := h
    have nd := sc__law_mixed.nd
    have hu0 := hr.units0
    refine ⟨_, (pss_cons (ps_par (i := 2) (j := 3) rfl nd rfl rfl (by decide) rfl rfl (pa_cons (pe_callTy call_list_of rfl T.n_list PyProof.Rows.boot_list (pa_cons (pv 1) pa_nil)) (pa_cons (pe_lst pa_nil) pa_nil)) (by rfl))
 (pss_cons (ps_while PassesOwn.never (pt_cmpR (op_neNil hu0) (pv 2) (pe_lst pa_nil) (nomark _))
 (pss_one (ps_expr (pe_bm PySem.F.plainAttrs_list PySem.F.slot_list_append PySem.F.type_list_append mt_append (pv 3) (pa_cons (pe_bm PySem.F.plainAttrs_list PySem.F.slot_list_pop PySem.F.type_list_pop mt_popAt (pv 2) (pa_cons (pe_call (ok__law_take T) (hr.mono (by decide)) rfl T.F__law_take.m T.F__law_take.kp T.F__law_take.b .nil pass0 (pa_cons (pv 0) (pa_cons (pe_callB call_len_seq (by rfl) T.n_len PySem.boot_len (pa_cons (pv 2) pa_nil)) pa_nil))) pa_nil)) pa_nil)))))
 (pss_one (ps_ret (pv 3))))), ?_⟩
    refine ⟨_, rfl, xb, xs, rfl, .inl (sq_of hx), fun lf hlf => ⟨Nat.zero_le _, fun fd hfd => ⟨_, _, rfl, ?_⟩⟩⟩
    have eL : Ex H (upd H lf (.lst xs)) := Ex.new hlf
    have nfd : H fd = none := fresh_back eL hfd
    have nlf : lf ≠ fd := fun z => by rw [← z, upd_same] at hfd; cases hfd
    have eF : Ex (upd H lf (.lst xs)) (upd (upd H lf (.lst xs)) fd (.lst [])) := Ex.new hfd
    have e0 := eL.trans eF
    have bl : p ≠ lf := hB.ne hlf
    have bf : p ≠ fd := hB.ne nfd
    let W : Nat → L2.St → Hp → Prop := fun m σ' H' => ExB p H H' ∧ ∃ (ls fs : List V) (cl cf : List (List Int)), σ' = [some (.ref p), some (.ref xb), some (.ref lf), some (.ref fd)] ∧ H' lf = some (.lst ls) ∧ H' fd = some (.lst fs) ∧ Paired (IsRow H') ls cl ∧ Paired (IsRow H') fs cf ∧ (cl ++ cf).Perm rs ∧ ls.length = m ∧ m ≤ rs.length ∧ BoxAt H' p (n + (rs.length - m))
    have lx : xs.length = rs.length := Paired.length hxp
    refine q_while W rs.length ⟨Ex.b e0, xs, [], rs, [], rfl, eF _ _ upd_same, upd_same, Paired.imp (fun _ _ h => h.ex e0) hxp, .nil, by rw [List.append_nil], lx, Nat.le_refl _, by rw [Nat.sub_self]; exact hB.ex e0⟩ ?_
    rintro m σ' H' ⟨e', ls, fs, cl, cf, rfl, hl, hf, hlp, hfp, pm, hlm, hmr, hBx⟩
    refine ⟨!ls.isEmpty, et_test (ev_neNil (ev_var rfl) (sq_of hl)), fun hb H1 e1 => ?_, fun hb H1 e1 => ?_⟩
    · have hne : ls ≠ [] := fun z => by rw [z] at hb; cases hb
      have hm : 0 < m := by rw [← hlm]; exact List.length_pos_iff.mpr hne
      have lenl : cl.length = ls.length := (Paired.length hlp).symm
      have lenf : fs.length ≤ 60 := by
        have a := Paired.length hfp
        have b := pm.length_eq
        rw [List.length_append] at b
        omega
      refine ⟨fun σ2 H2 => ∃ m', m' < m ∧ W m' σ2 H2, fun _ _ h => h, ?_⟩
      refine ⟨_, rfl, .inl ⟨rfl, fs, sq_of (e1 _ _ hf)⟩, _, rfl, .inl ⟨rfl, ls, sq_of (e1 _ _ hl)⟩, _, rfl, _, rfl, lf, ls, rfl, .inl (sq_of (e1 _ _ hl)), ?_⟩
      refine ⟨p, _, n + (rs.length - m), rfl, by omega, by omega, hBx.ex e1, by omega, fun i H2 i0 i1 e2 hB2 => ?_⟩
      have hl2 : H2 lf = some (.lst ls) := e2 _ _ (Ne.symm bl) (e1 _ _ hl)
      have hf2 : H2 fd = some (.lst fs) := e2 _ _ (Ne.symm bf) (e1 _ _ hf)
      have hBx1 := hBx.ex e1
      have hlp2 : Paired (IsRow H2) ls cl := Paired.imp (fun _ _ h => (h.ex e1).exB hBx1 e2) hlp
      have hfp2 : Paired (IsRow H2) fs cf := Paired.imp (fun _ _ h => (h.ex e1).exB hBx1 e2) hfp
      have hi : i.toNat < ls.length := by omega
      have gy := List.getElem?_eq_getElem hi
      obtain ⟨r, hr, hrow⟩ := Paired.at_l hlp2 _ _ gy
      have hrl : i.toNat < cl.length := by omega
      refine ⟨lf, ls, i, i.toNat, _, rfl, rfl, hl2, by omega, by omega, seqIndex_of i0 i1, gy, ?_⟩
      refine ⟨fd, fs, _, rfl, rfl, by rw [upd_ne (Ne.symm nlf)]; exact hf2, Nat.lt_of_le_of_lt lenf (show 60 < sizeLine by decide), ?_⟩
      have mv : ∀ {x : V} {q : List Int}, IsRow H2 x q → IsRow (upd (upd H2 lf (.lst (ls.eraseIdx i.toNat))) fd (.lst (fs ++ [ls[i.toNat]]))) x q := fun h => (h.upd hl2 (lst_ntup _)).upd (by rw [upd_ne (Ne.symm nlf)]; exact hf2) (lst_ntup fs)
      refine ⟨m - 1, by omega, (((e'.trans (Ex.b e1)).trans e2).mut hlf).mut nfd, ls.eraseIdx i.toNat, fs ++ [ls[i.toNat]], cl.eraseIdx i.toNat, cf ++ [r], rfl, by rw [upd_ne nlf, upd_same], upd_same, Paired.erase _ (Paired.imp (fun _ _ h => mv h) hlp2), Paired.append (Paired.imp (fun _ _ h => mv h) hfp2) (.cons (mv hrow) .nil), ?_, ?_, by omega, ?_⟩
      · have hr' : cl[i.toNat] = r := by
          rw [List.getElem?_eq_getElem hrl] at hr
          exact Option.some.inj hr
        have z := erase_perm hrl
        rw [hr'] at z
        have z2 : (cl.eraseIdx i.toNat ++ (cf ++ [r])).Perm ((r :: cl.eraseIdx i.toNat) ++ cf) := by
          rw [← List.append_assoc]
          refine (List.perm_append_comm).trans ?_
          rw [List.cons_append]
          exact List.Perm.refl _
        exact (z2.trans (z.append_right cf)).trans pm
      · rw [List.length_eraseIdx_of_lt hi]
        omega
      · have : n + (rs.length - (m - 1)) = n + (rs.length - m) + 1 := by omega
        rw [this]
        exact (hB2.upd bl).upd bf
    · have hls : ls = [] := by
        cases ls with
        | nil => rfl
        | cons _ _ => cases hb
      subst hls
      cases hlp
      refine s_ret (ev_var rfl) fun H2 e2 => ?_
      have e12 := e1.trans e2
      exact k _ cf H2 ⟨fd, fs, rfl, e12 _ _ hf, Paired.imp (fun _ _ h => h.ex e12) hfp⟩ pm (e'.trans (Ex.b e12)) ((hBx.ex e12).mono (by omega))
end
end Mv
/-! _law_rows, _law_other. -/
namespace Mv
open PySem PySem.Spec PyProof.Rows L2 Evl
theorem add_go {i w : Int} {Q : VK} {H : Hp} (e : 1 + i = w) (h : Q (.int w) H) : rI0 (fun i j => V.int (i + j)) (.int 1) (.int i) H Q := ⟨1, i, rfl, rfl, by
  show Q (.int (1 + i)) H
  rw [e]
  exact h⟩
theorem cutV_from (xs : List V) (n : Nat) (h : n ≤ xs.length) : cutV xs (some (n : Int)) none = xs.drop n := by
  unfold cutV
  rw [HT.sIx_nat, HT.sIx_none, Nat.min_eq_left h]
  exact List.take_of_length_le (by rw [List.length_drop]; omega)
theorem cutV_to (xs : List V) (n : Nat) (h : n ≤ xs.length) : cutV xs none (some (n : Int)) = xs.take n := by
  unfold cutV
  rw [HT.sIx_nat, HT.sIx_none, Nat.min_eq_left h, List.drop_zero, Nat.sub_zero]
section
variable {K : PySem.W.Frag} {σ : L2.St} {H H' : Hp} {ta tb tc te tl tx : TE} {t u : TT} {x y z v : V} {D : Ends}
/-- a new list of two new lists -/
theorem el_cat {xs ys : List V} (ha : EvL ta σ H xs) (hb : EvL tb σ H ys) (hz : xs.length + ys.length ≤ 100000) : EvL (tOp rCat ta tb) σ H (xs ++ ys) := fun H1 e Q q =>
  ha H1 e _ fun p1 H2 hp1 e2 h1 => hb H2 (e.trans e2) _ fun p2 H3 hp2 e3 h2 => ⟨p1, p2, xs, ys, rfl, rfl, e3 _ _ h1, h2, sz_of hz, fun p hp => q p _ (fresh_back (e2.trans e3) hp) ((e2.trans e3).trans (Ex.new hp)) upd_same⟩
theorem el_rev {xs : List V} (ha : EvL ta σ H xs) : EvL (tRevL K ta) σ H xs.reverse := fun H1 e Q q =>
  ha H1 e _ fun p1 H2 hp1 e2 h1 => ⟨p1, xs, rfl, sq_of h1, fun p hp => q p _ (fresh_back e2 hp) (e2.trans (Ex.new hp)) upd_same⟩
/-- a row in a list of rows -/
theorem rv_inRows {f : Addr} {ys : List V} {rs : List (List Int)} {r : List Int} (hf : H f = some (.lst ys)) (hp : Paired (IsRow H) ys rs) (hx : IsRow H x r) : RV (rInD K) x (.ref f) H (.bl (decide (r ∈ rs))) := fun H1 e Q q => by
  refine ⟨rd r, rs.map rd, (hx.ex e).dp, .lst (sq_of (e _ _ hf)) (dp_rows (Paired.imp (fun _ _ h => h.ex e) hp)), shaped_row r, shaped_rows rs, ?_⟩
  have ee : ((rs.map rd).any fun z => PyData.eqv z (rd r)) = decide (r ∈ rs) := by
    rw [List.any_map, Bool.eq_iff_iff, List.any_eq_true, decide_eq_true_eq]
    constructor
    · rintro ⟨q, hq, e⟩
      have e : PyData.eqv (rd q) (rd r) = true := e
      rw [eqv_row] at e
      rw [← of_decide_eq_true e]
      exact hq
    · intro h
      exact ⟨r, h, by show PyData.eqv (rd r) (rd r) = true; rw [eqv_row, decide_eq_true rfl]⟩
  rw [ee]
  exact q H1 (Ex.refl H1)
theorem rv_ninRows {f : Addr} {ys : List V} {rs : List (List Int)} {r : List Int} (hf : H f = some (.lst ys)) (hp : Paired (IsRow H) ys rs) (hx : IsRow H x r) : RV (rNotInD K) x (.ref f) H (.bl (!decide (r ∈ rs))) := fun H1 e Q q => by
  refine ⟨rd r, rs.map rd, (hx.ex e).dp, .lst (sq_of (e _ _ hf)) (dp_rows (Paired.imp (fun _ _ h => h.ex e) hp)), shaped_row r, shaped_rows rs, ?_⟩
  have ee : ((rs.map rd).any fun z => PyData.eqv z (rd r)) = decide (r ∈ rs) := by
    rw [List.any_map, Bool.eq_iff_iff, List.any_eq_true, decide_eq_true_eq]
    constructor
    · rintro ⟨q, hq, e⟩
      have e : PyData.eqv (rd q) (rd r) = true := e
      rw [eqv_row] at e
      rw [← of_decide_eq_true e]
      exact hq
    · intro h
      exact ⟨r, h, by show PyData.eqv (rd r) (rd r) = true; rw [eqv_row, decide_eq_true rfl]⟩
  rw [ee]
  exact q H1 (Ex.refl H1)
/-- (k,) * width -/
theorem ep_rep {i : Int} {w : Nat} (ha : Ev ta σ H (.int i)) (hb : Ev tb σ H (.int (w : Int))) (h1 : 1 ≤ w) (h5 : w ≤ 5) : EvP (tOp (rRepU K) (tTup (tCons ta tNil)) tb) σ H (fun v H2 => IsRow H2 v (List.replicate w i)) := fun H1 e Q q =>
  ha H1 e _ fun H2 e2 => ⟨sz_of (show 1 ≤ 100000 by decide), fun t ht => by
    have e3 : Ex H2 (upd H2 t (.tup [.int i])) := Ex.new ht
    refine hb _ ((e.trans e2).trans e3) _ fun H4 e4 => ?_
    have g := e4 _ _ (upd_same (H := H2) (a := t) (o := .tup [.int i]))
    refine ⟨t, (w : Int), [.int i], rfl, rfl, st_of g, by simp, by omega, by omega, show 1 ≤ 1000 by decide, fun hw => ?_, fun hw p hp => ?_⟩
    · have e1 : w = 1 := by omega
      subst e1
      exact q _ _ ((e2.trans e3).trans e4) ⟨t, rfl, g⟩
    · refine q _ _ (((e2.trans e3).trans e4).trans (Ex.new hp)) ⟨p, rfl, ?_⟩
      rw [upd_same, Int.toNat_natCast]
      congr 2
      clear q e4 g hw h1 h5 hb
      induction w with
      | zero => rfl
      | succ w ih =>
        rw [List.replicate_succ, List.flatten_cons, ih, List.replicate_succ, List.map_cons] <;> rfl⟩
end
section
variable {P : Program} {w : World} {K : PySem.W.Frag} {mg : Str → Option Value} {base : Heap} {a : Nat → Addr} {d : Nat → FuncData} {tk : Nat → Tok}
/-! _law_rows -/
def sp__law_rows : Sp := fun vs H Q _ => ∃ (p : Addr) (m : Nat) (n : Nat), vs = [.ref p, .int (m : Int)] ∧ m ≤ 60 ∧ BoxAt H p n ∧ n ≤ 80000 ∧ ∀ (v : V) (rs : List (List Int)) (w : Nat) (H2 : Hp), LRw H2 v rs → OkRows w rs → rs.length ≤ m → ExB p H H2 → BoxAt H2 p (n + 1000) → Q v H2
theorem ok__law_rows (T : All K mg a d tk) : FnOk P w K mg base CX0 2 (a 23) (d 23) ["box", "many"] sp__law_rows := by
  refine T.F__law_rows.fn.ok sc__law_rows (fun vs H Q E h => ?_) (fun cdv A outer s H vs Q E hr h => ?_)
  · obtain ⟨p, m, n, rfl, _⟩ := h
    rfl
  · obtain ⟨p, m, n, rfl, hm, hB, hn, k⟩ := h
    have nd := sc__law_rows.nd
    have hu65 := hu65_of hr
    refine ⟨_, (pss_cons (ps_asg (pe_tup (pa_cons (pe_op op_add pe_int (pe_call (ok__law_take T) (hr.mono (by decide)) rfl T.F__law_take.m T.F__law_take.kp T.F__law_take.b .nil pass0 (pa_cons (pv 0) (pa_cons pe_int pa_nil)))) (pa_cons (pe_ix ix_list (pe_lst (pa_cons pe_int (pa_cons pe_int (pa_cons pe_int pa_nil)))) (pe_call (ok__law_take T) (hr.mono (by decide)) rfl T.F__law_take.m T.F__law_take.kp T.F__law_take.b .nil pass0 (pa_cons (pv 0) (pa_cons pe_int pa_nil))) (fun _ _ => rfl)) pa_nil))) (pg_tup rfl (pgs_cons (pg_name (i := 2) nd rfl (Or.inl rfl)) (pgs_cons (pg_name (i := 3) nd rfl (Or.inr rfl)) pgs_nil))) (hw := by rfl))
 (pss_cons (ps_set (i := 4) nd rfl (Or.inl rfl) (pe_lst pa_nil))
 (pss_cons (ps_for PassesOwn.never rfl (pi_range1 rfl T.n_range (pa_cons (pv 1) pa_nil)) (pg_name (i := 5) nd rfl (Or.inl rfl))
 (pss_cons (ps_set (i := 6) nd rfl (Or.inl rfl) (pe_callTy call_tuple_of rfl T.n_tuple PyProof.Rows.boot_tuple (pa_cons (pe_lc (own := [("column", 7)]) (g := (gName 7)) rfl nd (pi_range1 rfl T.n_range (pa_cons (pv 2) pa_nil)) (blkOk_by (N := N__law_rows) (sc := defScope s__law_rows) (by decide +kernel)) (fun _ _ _ _ _ => (pg_name (i := 7) nd rfl (Or.inl rfl))) (fun _ _ _ _ _ => pts_nil) (fun _ _ _ _ _ => (pe_call (ok__law_take T) (hr.mono (by decide)) rfl T.F__law_take.m T.F__law_take.kp T.F__law_take.b .nil pass0 (pa_cons (pv 0) (pa_cons (pv 3) pa_nil))))) pa_nil)))
 (pss_cons (ps_if (pt_cmpR (op_inD hu65) (pv 6) (pv 4) rfl)
 (pss_one (ps_set (i := 6) nd rfl (Or.inl rfl) (pe_ifExp (pt_cmpR (op_notInD hu65) (pe_op op_repU (pe_tup (pa_cons (pv 5) pa_nil)) (pv 2)) (pv 4) rfl) (pe_op op_repU (pe_tup (pa_cons (pv 5) pa_nil)) (pv 2)) (pe_op op_repU (pe_tup (pa_cons (pe_op op_sub pe_int (pv 5)) pa_nil)) (pv 2)))))
 pss_nil)
 (pss_one (ps_if (pt_cmpR (op_notInD hu65) (pv 6) (pv 4) rfl)
 (pss_one (ps_expr (pe_bm PySem.F.plainAttrs_list PySem.F.slot_list_append PySem.F.type_list_append mt_append (pv 4) (pa_cons (pv 6) pa_nil))))
 pss_nil)))))
 (pss_one (ps_ret (pv 4)))))), ?_⟩
    refine ⟨_, rfl, p, 5, n, rfl, by decide, by decide, hB, by omega, fun i0 H1 i0a i0b e1 hB1 => ?_⟩
    obtain ⟨wd, hwd, w1, w5⟩ : ∃ wd : Nat, 1 + i0 = (wd : Int) ∧ 1 ≤ wd ∧ wd ≤ 5 := ⟨(1 + i0).toNat, by omega, by omega, by omega⟩
    refine add_go hwd ?_
    refine ⟨sz_of (show 3 ≤ 100000 by decide), fun tl htl => ?_⟩
    have hBl : BoxAt (upd H1 tl (.lst [V.int 8, .int 30, .int 1000])) p (n + 1) := hB1.upd (hB1.ne htl)
    refine ⟨_, rfl, p, 3, n + 1, rfl, by decide, by decide, hBl, by omega, fun i1 H2 i1a i1b e2 hB2 => ?_⟩
    have htl2 : H2 tl = some (.lst [V.int 8, .int 30, .int 1000]) := e2 _ _ (Ne.symm (hB1.ne htl)) upd_same
    obtain ⟨top, htop, t1, t2⟩ : ∃ top : Int, atI [V.int 8, .int 30, .int 1000] i1 = some (.int top) ∧ 1 ≤ top ∧ top ≤ 1000 := by
      have : i1 = 0 ∨ i1 = 1 ∨ i1 = 2 := by omega
      rcases this with z | z | z
      · subst z; exact ⟨8, rfl, by decide, by decide⟩
      · subst z; exact ⟨30, rfl, by decide, by decide⟩
      · subst z; exact ⟨1000, rfl, by decide, by decide⟩
    refine ⟨tl, _, i1, _, rfl, rfl, sq_of htl2, htop, ?_⟩
    refine ⟨sz_of (show 2 ≤ 100000 by decide), fun tt htt => ?_⟩
    refine ⟨tt, _, rfl, st_of upd_same, rfl, _, _, rfl, _, _, rfl, rfl, ?_⟩
    have hB3 : BoxAt (upd H2 tt (.tup [V.int (wd : Int), .int top])) p (n + 1 + 1) := hB2.upd (hB2.ne htt)
    have eB3 : ExB p H (upd H2 tt (.tup [V.int (wd : Int), .int top])) := (e1.trans ((Ex.b (Ex.new htl)).trans e2)).trans (Ex.b (Ex.new htt))
    generalize hH3 : upd H2 tt (HO.tup [V.int (wd : Int), V.int top]) = H3 at hB3 eB3
    refine q_asgL (el_lst ea_nil (Nat.zero_le _)) fun fd H4 hfd e4 hf4 => ?_
    have bf : p ≠ fd := hB3.ne hfd
    have nfd : H fd = none := eB3.back (Ne.symm bf) hfd
    have eB4 := eB3.trans (Ex.b e4)
    let Ov : Nat → L2.St → Hp → Prop := fun j σ' H' => ExB p H H' ∧ BoxAt H' p (n + 2 + 5 * j) ∧ ∃ (ys : List V) (rs : List (List Int)) (v5 v6 : Option V), σ' = [some (.ref p), some (.int (m : Int)), some (.int (wd : Int)), some (.int top), some (.ref fd), v5, v6, none] ∧
      H' fd = some (.lst ys) ∧ Paired (IsRow H') ys rs ∧ rs.Nodup ∧ (∀ r ∈ rs, OkRow wd r) ∧ rs.length ≤ j
    refine q_forR1 (ea_cons (ev_var rfl) ea_nil) ⟨by omega, by omega⟩ Ov (fun H5 e5 => ⟨eB4.trans (Ex.b e5), (hB3.ex (e4.trans e5)).mono (by omega), [], [], none, none, rfl, e5 _ _ hf4, .nil, List.nodup_nil, fun r hr => (by cases hr), Nat.le_refl _⟩) ?_ ?_
    · rintro j σ' H5 hj ⟨e5, hB5, ys, rs, v5, v6, rfl, hf, hfp, hnd, hok, hlen⟩
      have hj60 : j < 60 := by omega
      have l60 : ys.length ≤ 60 := by rw [Paired.length hfp]; omega
      refine ⟨_, rfl, (wd : Int), rfl, by omega, by omega, fun Dl hD => ?_⟩
      have bD : p ≠ Dl := hB5.ne hD
      rw [Int.toNat_natCast]
      refine lc_it (walk_range (lo := 0) (n := wd)) (fun i H' => ExB p H5 H' ∧ BoxAt H' p (n + 2 + 5 * j + i) ∧ ∃ is : List Int, H' Dl = some (.lst (is.map V.int)) ∧ is.length = i ∧ ∀ x ∈ is, 0 ≤ x ∧ x ≤ 999) ⟨Ex.b (Ex.new hD), hB5.upd bD, [], upd_same, rfl, fun x h => (by cases h)⟩ (fun _ _ _ _ => trivial) ?_ ?_
      · rintro i x H6 H6' hi ⟨e6, hB6, is, g1, g2, g3⟩ ⟨rfl, rfl⟩
        refine ⟨rfl, yes_go ?_⟩
        refine ⟨_, rfl, _, rfl, p, top, _, rfl, t1, by omega, hB6, by omega, fun c H7 c0 c1 e7 hB7 => ?_⟩
        have g7 : H7 Dl = some (.lst (is.map V.int)) := e7 _ _ (Ne.symm bD) g1
        refine ⟨_, g7, Nat.lt_of_le_of_lt (by rw [List.length_map, g2]; omega) (show 1000 < sizeLine by decide), (e6.trans e7).mut hD, (hB7.upd bD).mono (by omega), is ++ [c], by rw [upd_same, List.map_append] <;> rfl, by rw [List.length_append, g2] <;> rfl, fun x hx => ?_⟩
        rcases List.mem_append.mp hx with hx | hx
        · exact g3 x hx
        · rw [List.mem_singleton.mp hx]
          omega
      · rintro H6 ⟨e6, hB6, is, g1, g2, g3⟩
        refine ⟨Dl, _, rfl, .inl ⟨sq_of g1, fun tr htr => ?_⟩⟩
        have eR : Ex H6 (upd H6 tr (.tup (is.map V.int))) := Ex.new htr
        have hB7 := hB6.ex eR
        have e57 : ExB p H5 (upd H6 tr (.tup (is.map V.int))) := e6.trans (Ex.b eR)
        have f7 : upd H6 tr (.tup (is.map V.int)) fd = some (.lst ys) := e57 _ _ (Ne.symm bf) hf
        have p7 : Paired (IsRow (upd H6 tr (.tup (is.map V.int)))) ys rs := Paired.imp (fun _ _ h => h.exB hB5 e57) hfp
        have r7 : IsRow (upd H6 tr (.tup (is.map V.int))) (.ref tr) is := ⟨tr, rfl, upd_same⟩
        generalize hH7 : upd H6 tr (HO.tup (is.map V.int)) = H7 at eR hB7 e57 f7 p7 r7
        have okIs : OkRow wd is := ⟨g2, g3⟩
        have okRep : ∀ c : Int, 0 ≤ c → c ≤ 999 → OkRow wd (List.replicate wd c) := fun c c0 c1 => ⟨List.length_replicate, fun x hx => by rw [(List.mem_replicate.mp hx).2]; exact ⟨c0, c1⟩⟩
        have last : ∀ (x : V) (r : List Int) (H8 : Hp), Ex H7 H8 → IsRow H8 x r → OkRow wd r →
            tIfS (tTest (tOp (rNotInD K) (tVar 6) (tVar 4))) (tDrop (tBM K "list" rAppend (tVar 4) (tCons (tVar 6) tNil))) tNext { nx := Ov (j + 1), rt := Q, ct := Ov (j + 1), bk := fun σ' H' => tRet (tVar 4) { nx := fun _ H' => Q .non H', rt := Q } σ' H' }
              [some (.ref p), some (.int (m : Int)), some (.int (wd : Int)), some (.int top), some (.ref fd), some (.int (j : Int)), some x, none] H8 := by
          intro x r H8 e8 hx hro
          have p8 : Paired (IsRow H8) ys rs := Paired.imp (fun _ _ h => h.ex e8) p7
          refine s_when (et_test (ev_op (ev_var rfl) (ev_var rfl) (rv_ninRows (e8 _ _ f7) p8 hx))) (fun hb H9 e9 => ?_) fun hb H9 e9 => ?_
          · have hnr : r ∉ rs := fun z => by rw [decide_eq_true z] at hb; cases hb
            refine s_app ((e8.trans e9) _ _ f7) (ev_var rfl) (ev_var rfl) (by omega) fun H10 e10 => ?_
            have e710 := (e8.trans e9).trans e10
            have mv : ∀ {x : V} {q : List Int}, IsRow H8 x q → IsRow (upd H10 fd (.lst (ys ++ [x]))) x q := fun h => (h.ex (e9.trans e10)).upd (e710 _ _ f7) (lst_ntup ys)
            refine ⟨((e5.trans e57).trans (Ex.b e710)).mut nfd, ((hB7.ex e710).upd bf).mono (by omega), ys ++ [x], rs ++ [r], _, _, rfl, upd_same, Paired.append (Paired.imp (fun _ _ h => (h.ex (e9.trans e10)).upd (e710 _ _ f7) (lst_ntup ys)) p8) (.cons ((hx.ex (e9.trans e10)).upd (e710 _ _ f7) (lst_ntup ys)) .nil), ?_, fun q hq => ?_, by rw [List.length_append, List.length_singleton]; omega⟩
            · rw [List.nodup_append]
              refine ⟨hnd, List.nodup_cons.mpr ⟨by simp, List.nodup_nil⟩, fun z hz u hu' e3 => ?_⟩
              rw [List.mem_singleton.mp hu'] at e3
              exact hnr (e3 ▸ hz)
            · rcases List.mem_append.mp hq with hq | hq
              · exact hok q hq
              · rw [List.mem_singleton.mp hq]; exact hro
          · have e79 := e8.trans e9
            exact ⟨(e5.trans e57).trans (Ex.b e79), (hB7.ex e79).mono (by omega), ys, rs, _, _, rfl, e79 _ _ f7, Paired.imp (fun _ _ h => h.ex e9) p8, hnd, hok, by omega⟩
        refine q_when (et_test (ev_op (ev_var rfl) (ev_var rfl) (rv_inRows f7 p7 r7))) (fun _ H8 e8 => ?_) fun _ H8 e8 => last _ _ H8 e8 (r7.ex e8) okIs
        have p8 : Paired (IsRow H8) ys rs := Paired.imp (fun _ _ h => h.ex e8) p7
        refine ep_rep (K := K) (i := (j : Int)) (w := wd) (ev_var rfl) (ev_var rfl) w1 w5 H8 (Ex.refl H8) _ fun v1 H9 e9 hv1 => ?_
        refine ⟨_, rfl, ?_⟩
        have e89 := e8.trans e9
        have p9 : Paired (IsRow H9) ys rs := Paired.imp (fun _ _ h => h.ex e9) p8
        refine rv_ninRows (e89 _ _ f7) p9 hv1 H9 (Ex.refl H9) _ fun H10 e10 => ⟨_, rfl, ?_⟩
        have e810 := e89.trans e10
        refine ite2 (fun _ => ?_) fun _ => ?_
        · refine ep_rep (K := K) (i := (j : Int)) (w := wd) (ev_var rfl) (ev_var rfl) w1 w5 H10 (Ex.refl H10) _ fun v2 H11 e11 hv2 => ?_
          exact last v2 _ H11 (e810.trans e11) hv2 (okRep _ (by omega) (by omega))
        · refine ep_rep (K := K) (i := 999 - (j : Int)) (w := wd) (ev_I0 ev_c (ev_var rfl)) (ev_var rfl) w1 w5 H10 (Ex.refl H10) _ fun v2 H11 e11 hv2 => ?_
          exact last v2 _ H11 (e810.trans e11) hv2 (okRep _ (by omega) (by omega))
    · rintro σ' H5 ⟨e5, hB5, ys, rs, v5, v6, rfl, hf, hfp, hnd, hok, hlen⟩
      rw [Int.toNat_natCast] at hB5 hlen
      refine s_ret (ev_var rfl) fun H6 e6 => ?_
      exact k _ rs wd H6 ⟨fd, ys, rfl, e6 _ _ hf, Paired.imp (fun _ _ h => h.ex e6) hfp⟩ ⟨w1, w5, hnd, hok, by omega⟩ (by omega) (e5.trans (Ex.b e6)) ((hB5.ex e6).mono (by omega))
/-! _law_other -/
def sp__law_other : Sp := fun vs H Q _ => ∃ (p : Addr) (x : V) (rs : List (List Int)) (n : Nat), vs = [.ref p, x] ∧ LRw H x rs ∧ rs.length ≤ 60 ∧ BoxAt H p n ∧ n ≤ 80000 ∧ PermRes p (n + 200) H rs Q
theorem ok__law_other (T : All K mg a d tk) : FnOk P w K mg base CX0 3 (a 24) (d 24) ["box", "rows"] sp__law_other := by
  refine T.F__law_other.fn.ok sc__law_other (fun vs H Q E h => ?_) (fun cdv A outer s H vs Q E hr h => ?_)
  · obtain ⟨p, x, rs, n, rfl, _⟩ := h
    rfl
  · obtain ⟨p, x, rs, n, rfl, hx, h60, hB, hn, k⟩ := h
    have nd := sc__law_other.nd
    refine ⟨_, (pss_cons (ps_par (i := 2) (j := 3) rfl nd rfl rfl (by decide) rfl rfl (pa_cons (pe_call (ok__law_take T) (hr.mono (by decide)) rfl T.F__law_take.m T.F__law_take.kp T.F__law_take.b .nil pass0 (pa_cons (pv 0) (pa_cons pe_int pa_nil))) (pa_cons (pe_callB call_len_seq (by rfl) T.n_len PySem.boot_len (pa_cons (pv 1) pa_nil)) pa_nil)) (by rfl))
 (pss_cons (ps_if (PW.pt (pw_or (pt_cmpR op_eq (pv 2) pe_int (nomark _)) (pw_or1 (pt_cmpR op_eq (pv 3) pe_int (nomark _)))))
 (pss_one (ps_ret (pe_call (ok__law_mixed T) (hr.mono (by decide)) rfl T.F__law_mixed.m T.F__law_mixed.kp T.F__law_mixed.b .nil pass0 (pa_cons (pv 0) (pa_cons (pv 1) pa_nil)))))
 pss_nil)
 (pss_cons (ps_set (i := 4) nd rfl (Or.inl rfl) (pe_call (ok__law_take T) (hr.mono (by decide)) rfl T.F__law_take.m T.F__law_take.kp T.F__law_take.b .nil pass0 (pa_cons (pv 0) (pa_cons (pv 3) pa_nil))))
 (pss_cons (ps_if (pt_cmpR op_eq (pv 2) pe_int (nomark _))
 (pss_one (ps_ret (pe_op op_cat (pe_slice sl_list (pv 1) (po_some (pv 4)) po_none) (pe_slice sl_list (pv 1) po_none (po_some (pv 4))))))
 pss_nil)
 (pss_cons (ps_if (pt_cmpR op_eq (pv 2) pe_int (nomark _))
 (pss_one (ps_ret (pe_op op_cat (pe_slice sl_list (pv 1) po_none (po_some (pv 4))) (pe_revL (pe_slice sl_list (pv 1) (po_some (pv 4)) po_none)))))
 pss_nil)
 (pss_cons (ps_set (i := 5) nd rfl (Or.inl rfl) (pe_callTy call_list_of rfl T.n_list PyProof.Rows.boot_list (pa_cons (pv 1) pa_nil)))
 (pss_cons (ps_for PassesOwn.never rfl (pi_range1 rfl T.n_range (pa_cons (pe_op op_add pe_int (pe_call (ok__law_take T) (hr.mono (by decide)) rfl T.F__law_take.m T.F__law_take.kp T.F__law_take.b .nil pass0 (pa_cons (pv 0) (pa_cons pe_int pa_nil)))) pa_nil)) (pg_name (i := 6) nd rfl (Or.inl rfl))
 (pss_cons (ps_set (i := 7) nd rfl (Or.inl rfl) (pe_bm PySem.F.plainAttrs_list PySem.F.slot_list_pop PySem.F.type_list_pop mt_popAt (pv 5) (pa_cons (pe_call (ok__law_take T) (hr.mono (by decide)) rfl T.F__law_take.m T.F__law_take.kp T.F__law_take.b .nil pass0 (pa_cons (pv 0) (pa_cons (pv 3) pa_nil))) pa_nil)))
 (pss_one (ps_expr (pe_bm PySem.F.plainAttrs_list PySem.F.slot_list_insert PySem.F.type_list_insert mt_insert (pv 5) (pa_cons (pe_call (ok__law_take T) (hr.mono (by decide)) rfl T.F__law_take.m T.F__law_take.kp T.F__law_take.b .nil pass0 (pa_cons (pv 0) (pa_cons (pv 3) pa_nil))) (pa_cons (pv 7) pa_nil)))))))
 (pss_one (ps_ret (pv 5)))))))))), ?_⟩
    refine ⟨_, rfl, p, 5, n, rfl, by decide, by decide, hB, by omega, fun way H1 wa wb e1 hB1 => ?_⟩
    have hx1 := hx.exB hB e1
    obtain ⟨xb, xs, rfl, hxs, hxp⟩ := id hx1
    have lx : xs.length = rs.length := Paired.length hxp
    refine ⟨_, rfl, xb, xs, rfl, .inl (sq_of hxs), _, _, rfl, ?_⟩
    rw [lx]
    refine q_when (et_or (et_test (ev_op (ev_var rfl) ev_c (rv_eq rfl))) fun _ => et_test (ev_op (ev_var rfl) ev_c (rv_eq rfl))) (fun _ H2 e2 => ?_) fun hb H2 e2 => ?_
    · refine ⟨_, rfl, _, rfl, p, .ref xb, rs, n + 1, rfl, hx1.ex e2, h60, hB1.ex e2, by omega, fun v cs H3 h1 h2 h3 h4 => ?_⟩
      exact k v cs H3 h1 h2 ((e1.trans (Ex.b e2)).trans h3) (h4.mono (by omega))
    · obtain ⟨hb1, hb2⟩ := Bool.or_eq_false_iff.mp hb
      have hne : rs.length ≠ 0 := fun z => by
        rw [z] at hb2
        exact absurd hb2 (by decide)
      have hB2 := hB1.ex e2
      refine ⟨_, rfl, _, rfl, p, (rs.length : Int), n + 1, rfl, by omega, by omega, hB2, by omega, fun at_ H3 a0 a1 e3 hB3 => ?_⟩
      have hx3 := (hx1.ex e2).exB hB2 e3
      have eB3 : ExB p H H3 := (e1.trans (Ex.b e2)).trans e3
      obtain ⟨atn, rfl, hat⟩ : ∃ atn : Nat, at_ = (atn : Int) ∧ atn < rs.length := ⟨at_.toNat, by omega, by omega⟩
      obtain ⟨xb3, xs3, exb, hxs3, hxp3⟩ := id hx3
      cases exb
      have lx3 : xs3.length = rs.length := Paired.length hxp3
      have done : ∀ (zs : List V) (cs : List (List Int)) (pz : Addr) (H5 : Hp), Ex H3 H5 → H5 pz = some (.lst zs) → Paired (IsRow H3) zs cs → cs.Perm rs → Q (.ref pz) H5 := fun zs cs pz H5 e5 hz hp pm =>
        k _ cs H5 ⟨pz, zs, rfl, hz, Paired.imp (fun _ _ h => h.ex e5) hp⟩ pm (eB3.trans (Ex.b e5)) ((hB3.ex e5).mono (by omega))
      have pdrop := Paired.drop atn hxp3
      have ptake := Paired.take atn hxp3
      have slF : ∀ {σ' : L2.St} {H5 : Hp}, Ex H3 H5 → σ'[1]? = some (some (.ref xb)) → σ'[4]? = some (some (.int (atn : Int))) → EvL (tSl (rSlL K) (tVar 1) (tPart (tVar 4)) tNoPart) σ' H5 (xs3.drop atn) := fun e5 h1 h4 => by
        have z := el_sl (K := K) (lo := some (atn : Int)) (hi := none) (ev_var h1) (eo_some (ev_var h4)) eo_none (sq_of (e5 _ _ hxs3))
        rwa [cutV_from _ _ (by omega)] at z
      have slT : ∀ {σ' : L2.St} {H5 : Hp}, Ex H3 H5 → σ'[1]? = some (some (.ref xb)) → σ'[4]? = some (some (.int (atn : Int))) → EvL (tSl (rSlL K) (tVar 1) tNoPart (tPart (tVar 4))) σ' H5 (xs3.take atn) := fun e5 h1 h4 => by
        have z := el_sl (K := K) (lo := none) (hi := some (atn : Int)) (ev_var h1) eo_none (eo_some (ev_var h4)) (sq_of (e5 _ _ hxs3))
        rwa [cutV_to _ _ (by omega)] at z
      have ltk : (xs3.take atn).length ≤ 60 := by rw [List.length_take]; omega
      have ldr : (xs3.drop atn).length ≤ 60 := by rw [List.length_drop]; omega
      refine q_when (et_test (ev_op (ev_var rfl) ev_c (rv_eq rfl))) (fun _ H4 e4 => ?_) fun _ H4 e4 => ?_
      · refine s_retL (el_cat (slF e4 rfl rfl) (slT e4 rfl rfl) (by omega)) fun pz H5 _ e5 hz => ?_
        refine done _ (rs.drop atn ++ rs.take atn) pz H5 (e4.trans e5) hz (Paired.append pdrop ptake) ?_
        have z := List.perm_append_comm (l₁ := rs.drop atn) (l₂ := rs.take atn)
        rwa [List.take_append_drop] at z
      refine q_when (et_test (ev_op (ev_var rfl) ev_c (rv_eq rfl))) (fun _ H5 e5 => ?_) fun _ H5 e5 => ?_
      · refine s_retL (el_cat (slT (e4.trans e5) rfl rfl) (el_rev (slF (e4.trans e5) rfl rfl)) (by rw [List.length_reverse]; omega)) fun pz H6 _ e6 hz => ?_
        refine done _ (rs.take atn ++ (rs.drop atn).reverse) pz H6 ((e4.trans e5).trans e6) hz (Paired.append ptake (Paired.rev pdrop)) ?_
        have z := (List.reverse_perm (rs.drop atn)).append_left (rs.take atn)
        rwa [List.take_append_drop] at z
      have e35 := e4.trans e5
      refine ⟨_, rfl, xb, xs3, rfl, .inl (sq_of (e35 _ _ hxs3)), fun fd hfd => ?_⟩
      have eF : Ex H5 (upd H5 fd (.lst xs3)) := Ex.new hfd
      have hB5 := hB3.ex e35
      have bf : p ≠ fd := hB5.ne hfd
      have nfd : H fd = none := (eB3.trans (Ex.b e35)).back (Ne.symm bf) hfd
      refine ⟨_, rfl, p, 3, n + 2, rfl, by decide, by decide, hB5.ex eF, by omega, fun lp H6 la lb e6 hB6 => ?_⟩
      refine ⟨1, lp, rfl, rfl, ?_⟩
      refine ⟨1 + lp, rfl, by omega, by omega, ?_⟩
      have eB6 : ExB p H H6 := ((eB3.trans (Ex.b e35)).trans (Ex.b eF)).trans e6
      have hf6 : H6 fd = some (.lst xs3) := e6 _ _ (Ne.symm bf) upd_same
      have hfp6 : Paired (IsRow H6) xs3 rs := Paired.imp (fun _ _ h => (h.ex (e35.trans eF)).exB (hB5.ex eF) e6) hxp3
      let Ov : Nat → L2.St → Hp → Prop := fun j σ' H' => ExB p H H' ∧ BoxAt H' p (n + 3 + 2 * j) ∧ ∃ (ys : List V) (cs : List (List Int)) (v6 v7 : Option V), σ' = [some (.ref p), some (.ref xb), some (.int way), some (.int (rs.length : Int)), some (.int (atn : Int)), some (.ref fd), v6, v7] ∧
        H' fd = some (.lst ys) ∧ Paired (IsRow H') ys cs ∧ cs.Perm rs
      refine for_range (lo := 0) (n := (1 + lp).toNat) Ov ⟨eB6, hB6, xs3, rs, _, _, rfl, hf6, hfp6, .refl _⟩ ?_ ?_
      · rintro j σ' H7 hj ⟨e7, hB7, ys, cs, v6, v7, rfl, hf7, hfp7, pm⟩
        have lcs : cs.length = rs.length := pm.length_eq
        have lys : ys.length = rs.length := by rw [Paired.length hfp7, lcs]
        refine ⟨_, rfl, .inl ⟨rfl, ys, sq_of hf7⟩, _, rfl, _, rfl, p, (rs.length : Int), _, rfl, by omega, by omega, hB7, by omega, fun i H8 i0 i1 e8 hB8 => ?_⟩
        have hf8 : H8 fd = some (.lst ys) := e8 _ _ (Ne.symm bf) hf7
        have hfp8 : Paired (IsRow H8) ys cs := Paired.imp (fun _ _ h => h.exB hB7 e8) hfp7
        have hi : i.toNat < ys.length := by omega
        have hic : i.toNat < cs.length := by omega
        have gy := List.getElem?_eq_getElem hi
        obtain ⟨r, hr, hrow⟩ := Paired.at_l hfp8 _ _ gy
        refine ⟨fd, ys, i, i.toNat, _, rfl, rfl, hf8, by omega, by omega, seqIndex_of i0 (by omega), gy, ?_⟩
        have eP : ∀ {x : V} {q : List Int}, IsRow H8 x q → IsRow (upd H8 fd (.lst (ys.eraseIdx i.toNat))) x q := fun h => h.upd hf8 (lst_ntup ys)
        have hB9 : BoxAt (upd H8 fd (.lst (ys.eraseIdx i.toNat))) p (n + 3 + 2 * j + 1) := hB8.upd bf
        refine ⟨_, rfl, .inl ⟨rfl, _, sq_of upd_same⟩, _, rfl, _, rfl, p, (rs.length : Int), _, rfl, by omega, by omega, hB9, by omega, fun i2 H10 i20 i21 e10 hB10 => ⟨_, rfl, ?_⟩⟩
        have hf10 : H10 fd = some (.lst (ys.eraseIdx i.toNat)) := e10 _ _ (Ne.symm bf) upd_same
        have hfp10 : Paired (IsRow H10) (ys.eraseIdx i.toNat) (cs.eraseIdx i.toNat) := Paired.erase _ (Paired.imp (fun _ _ h => (eP h).exB hB9 e10) hfp8)
        have hrow10 : IsRow H10 ys[i.toNat] r := (eP hrow).exB hB9 e10
        refine ⟨fd, _, i2, _, rfl, rfl, hf10, Nat.lt_of_le_of_lt (by rw [List.length_eraseIdx_of_lt hi]; omega) (show 1000 < sizeLine by decide), i20, by omega, ?_⟩
        have mv : ∀ {x : V} {q : List Int}, IsRow H10 x q → IsRow (upd H10 fd (.lst ((ys.eraseIdx i.toNat).take i2.toNat ++ [ys[i.toNat]] ++ (ys.eraseIdx i.toNat).drop i2.toNat))) x q := fun h => h.upd hf10 (lst_ntup _)
        refine ⟨((e7.trans e8).mut nfd |>.trans e10).mut nfd, (hB10.upd bf).mono (by omega), _, (cs.eraseIdx i.toNat).take i2.toNat ++ [r] ++ (cs.eraseIdx i.toNat).drop i2.toNat, _, _, rfl, upd_same, ?_, ?_⟩
        · exact Paired.append (Paired.append (Paired.take _ (Paired.imp (fun _ _ h => mv h) hfp10)) (.cons (mv hrow10) .nil)) (Paired.drop _ (Paired.imp (fun _ _ h => mv h) hfp10))
        · have hr' : cs[i.toNat] = r := by
            rw [List.getElem?_eq_getElem hic] at hr
            exact Option.some.inj hr
          have z := erase_perm hic
          rw [hr'] at z
          refine List.Perm.trans ?_ (z.trans pm)
          have z2 : ((cs.eraseIdx i.toNat).take i2.toNat ++ [r] ++ (cs.eraseIdx i.toNat).drop i2.toNat).Perm (r :: ((cs.eraseIdx i.toNat).take i2.toNat ++ (cs.eraseIdx i.toNat).drop i2.toNat)) := by
            rw [List.append_assoc]
            exact List.perm_middle
          rwa [List.take_append_drop] at z2
      · rintro σ' H7 ⟨e7, hB7, ys, cs, v6, v7, rfl, hf7, hfp7, pm⟩
        refine s_ret (ev_var rfl) fun H8 e8 => ?_
        exact k _ cs H8 ⟨fd, ys, rfl, e8 _ _ hf7, Paired.imp (fun _ _ h => h.ex e8) hfp7⟩ pm (e7.trans (Ex.b e8)) ((hB7.ex e8).mono (by omega))
end
end Mv
/-! _law_right. -/
namespace Mv
open PySem PySem.Spec PyProof.Rows L2 Evl
/-- the lists as data -/
def ld (Ls : List (List (List Int))) : PyData := .list (Ls.map fun rs => .list (rs.map rd))
theorem int_small {i : Int} (h : 0 ≤ i ∧ i ≤ 999) : i.natAbs.log2 ≤ 9 := by
  by_cases z : i.natAbs = 0
  · rw [z]; decide
  · have : i.natAbs.log2 < 10 := (Nat.log2_lt z).mpr (by omega)
    omega
theorem ints_w : ∀ r : List Int, (∀ i ∈ r, 0 ≤ i ∧ i ≤ 999) → PyData.weightAll (r.map PyData.int) ≤ 11 * r.length ∧ PyData.showableAll (r.map PyData.int) = true
  | [], _ => ⟨Nat.le_refl _, rfl⟩
  | i :: r, h => by
    obtain ⟨h1, h2⟩ := ints_w r fun j hj => h j (List.mem_cons_of_mem _ hj)
    have hi := int_small (h i List.mem_cons_self)
    refine ⟨?_, ?_⟩
    · simp only [List.map_cons, PyData.weightAll, PyData.weight, List.length_cons]
      split <;> omega
    · rw [List.map_cons, PyData.showableAll, h2, PyData.showable, decide_eq_true (by omega)] <;> rfl
theorem row_w {n : Nat} {r : List Int} (h : OkRow n r) (h5 : n ≤ 5) : (rd r).weight ≤ 55 ∧ (rd r).showable = true ∧ (rd r).intsShort 13 = true := by
  obtain ⟨a, b⟩ := ints_w r h.2
  have := h.1
  unfold rd
  refine ⟨?_, ?_, ?_⟩
  · simp only [PyData.weight]
    omega
  · rw [PyData.showable, b]
  · rw [PyData.intsShort]
    exact PyData.intsShortAll_ints r fun i hi => by
      have := h.2 i hi
      omega
theorem rows_w {n : Nat} (h5 : n ≤ 5) : ∀ rs : List (List Int), (∀ r ∈ rs, OkRow n r) → PyData.weightAll (rs.map rd) ≤ 56 * rs.length ∧ PyData.showableAll (rs.map rd) = true ∧ PyData.intsShortAll 13 (rs.map rd) = true
  | [], _ => ⟨Nat.le_refl _, rfl, rfl⟩
  | r :: rs, h => by
    obtain ⟨a, b, c⟩ := rows_w h5 rs fun q hq => h q (List.mem_cons_of_mem _ hq)
    obtain ⟨x, y, z⟩ := row_w (h r List.mem_cons_self) h5
    refine ⟨?_, ?_, ?_⟩
    · simp only [List.map_cons, PyData.weightAll, List.length_cons]
      omega
    · rw [List.map_cons, PyData.showableAll, b, y] <;> rfl
    · rw [List.map_cons, PyData.intsShortAll, c, z] <;> rfl
theorem lists_w {n : Nat} : ∀ Ls : List (List (List Int)), (∀ rs ∈ Ls, OkRows n rs) → PyData.weightAll (Ls.map fun rs => .list (rs.map rd)) ≤ 4000 * Ls.length ∧ PyData.showableAll (Ls.map fun rs => .list (rs.map rd)) = true ∧ PyData.intsShortAll 13 (Ls.map fun rs => .list (rs.map rd)) = true ∧
    PyData.canLayAll0 (Ls.map fun rs => .list (rs.map rd)) = true ∧ PyData.depthAll (Ls.map fun rs => .list (rs.map rd)) ≤ 5
  | [], _ => ⟨Nat.le_refl _, rfl, rfl, rfl, by simp [PyData.depthAll]⟩
  | rs :: Ls, h => by
    obtain ⟨a, b, c, d, e⟩ := lists_w Ls fun q hq => h q (List.mem_cons_of_mem _ hq)
    have o := h rs List.mem_cons_self
    obtain ⟨x, y, z⟩ := rows_w o.w5 rs o.row
    have := o.few
    have dr := deep_rows rs
    refine ⟨?_, ?_, ?_, ?_, ?_⟩
    · simp only [List.map_cons, PyData.weightAll, PyData.weight, List.length_cons]
      omega
    · rw [List.map_cons, PyData.showableAll, b, PyData.showable, y] <;> rfl
    · rw [List.map_cons, PyData.intsShortAll, c, PyData.intsShort, z] <;> rfl
    · rw [List.map_cons, PyData.canLayAll0, d, PyData.canLay0, lay_rows] <;> rfl
    · simp only [List.map_cons, PyData.depthAll, PyData.depth]
      omega
section
variable {K : PySem.W.Frag} {σ : L2.St} {H H' : Hp} {ta tb tc te tl tx : TE} {t u : TT} {x y z v : V} {D : Ends}
theorem lls_dp : ∀ {xs : List V} {Ls : List (List (List Int))}, Paired (LRw H) xs Ls → DpAll K H xs (Ls.map fun rs => .list (rs.map rd))
  | _, _, .nil => .nil
  | _, _, .cons ⟨b, ys, e, h1, h2⟩ t => by
    subst e
    exact .cons (.lst (sq_of h1) (dp_rows h2)) (lls_dp t)
/-- repr(many) -/
theorem ev_repr {n : Nat} {Ls : List (List (List Int))} (ha : Ev ta σ H x) (hx : LLs H x Ls) (ho : OkLists n Ls) : Ev (tCB (rRepr K) (tCons ta tNil)) σ H (.str (ld Ls).shown) := fun H1 e Q q =>
  ha H1 e _ fun H2 e2 => by
    obtain ⟨b, ys, rfl, h1, h2⟩ := hx.ex (e.trans e2)
    obtain ⟨w1, w2, w3, w4, w5⟩ := lists_w Ls ho.ok
    have h6 := ho.six
    have cl : (ld Ls).canLay0 = true := by unfold ld; rw [PyData.canLay0, w4]
    refine ⟨b, ld Ls, rfl, .lst (sq_of h1) (lls_dp h2), by unfold ld; rw [PyData.showable, w2], PyData.hasDict_of_canLay _ cl, ?_, ?_, q H2 e2⟩
    · unfold ld
      simp only [PyData.depth]
      omega
    · refine PyData.shown_fits (B := 13) (by decide) (by decide) (PyData.leavesShort_of_canLay0 13 _ cl (by unfold ld; rw [PyData.intsShort, w3])) ?_
      unfold ld
      simp only [PyData.weight]
      have : (2 : Nat) ^ 20 = 1048576 := by decide
      omega
end
theorem OkLists.take {n k : Nat} {Ls : List (List (List Int))} (h : OkLists n Ls) (hk : 0 < k) : OkLists n (Ls.take k) where
  ne := fun z => by
    have a := h.ne
    cases Ls with
    | nil => exact a rfl
    | cons _ _ =>
      cases k with
      | zero => omega
      | succ k => cases z
  six := by
    rw [List.length_take]
    have := h.six
    omega
  ok := fun rs hr => h.ok rs (List.mem_of_mem_take hr)
  pm := fun rs hr qs hq => h.pm rs (List.mem_of_mem_take hr) qs (List.mem_of_mem_take hq)
section
variable {P : Program} {w : World} {K : PySem.W.Frag} {mg : Str → Option Value} {base : Heap} {a : Nat → Addr} {d : Nat → FuncData} {tk : Nat → Tok}
theorem LevsRes.v {H H2 : Hp} {Ls : List (List (List Int))} {R : List (List Int)} {p : Addr} {lev : List Int → Nat} {ahd : List Int → Option (List Int)} {M : Nat} (h : LevsRes H Ls R p H2) (hR : R ∈ Ls) (L : LevOn Ls R lev ahd) (hM : IsCount R lev M) :
    LevV H2 (.ref p) R lev M ∧ ∃ ys, H2 p = some (.lst ys) ∧ ys.length = M ∧ ∀ (i : Nat) (z : V), ys[i]? = some z → ∃ q zs, z = .ref q ∧ H q = none ∧ q ≠ p ∧ H2 q = some (.lst zs) ∧ zs.length ≤ R.length := by
  obtain ⟨ys, lev', ahd', M', h1, h2, L', hM', h3⟩ := h
  have eM : M' = M := count_unique L' L hR hM' hM
  subst eM
  have el : ∀ r ∈ R, lev' r = lev r := fun r hr => lev_unique L' L hR _ r hr rfl
  have ef : ∀ i, (R.filter fun r => decide (lev' r = i)) = R.filter fun r => decide (lev r = i) := fun i => List.filter_congr fun r hr => by rw [el r hr]
  refine ⟨⟨p, ys, rfl, h1, h2, fun i z hz => ?_⟩, ys, h1, h2, fun i z hz => ?_⟩
  · obtain ⟨q, zs, z1, _, z3, z4⟩ := h3 i z hz
    rw [ef] at z4
    exact ⟨q, zs, z1, z3, z4⟩
  · obtain ⟨q, zs, z1, z2, z3, z4⟩ := h3 i z hz
    refine ⟨q, zs, z1, z2, fun e => ?_, z3, ?_⟩
    · rw [e, h1] at z3
      injection z3 with z3
      injection z3 with z3
      subst z3
      obtain ⟨r, _, hrow⟩ := Paired.mem_l z4 z (List.mem_of_getElem? hz)
      obtain ⟨b, eb, hb⟩ := hrow
      rw [z1] at eb
      cases eb
      rw [e, h1] at hb
      cases hb
    · rw [Paired.length z4]
      exact List.length_filter_le _ _
def sp__law_right : Sp := fun vs H Q _ => ∃ (x : V) (Ls : List (List (List Int))) (n : Nat), vs = [x] ∧ LLs H x Ls ∧ OkLists n Ls ∧ RetV (.bl true) H Q
theorem okG {x qual : Str} {st : Stmt} {f : Addr} {fd : FuncData} {N ps : List Str} {k : Nat} {sp : Sp} (F : Fun K x qual st f fd) (S : FnScope N ps (defScope st)) (len : ∀ vs H Q E, sp vs H Q E → vs.length = ps.length)
    (hbody : ∀ (cdv : Value) (A : Around) (outer : List Env) (s : Shared) (H : Hp) (vs : List V) (Q : VK) (E : XK), (A.deeper (envOfC qual (defScope st) s.heap.objs.size f cdv)).guards = some [] → Room k (A.deeper (envOfC qual (defScope st) s.heap.objs.size f cdv)) → sp vs H Q E →
      ∃ t, PSs (cxOf CX0 P w K mg base N qual (defScope st) f cdv A outer s H E).nox (defBody st) t ∧ t { nx := fun _ H' => Q .non H', rt := Q } (start N vs) H) : FnG P w K mg base CX0 (k + 1) f fd ps sp := by
  obtain ⟨oc, od, kV, doc, pm, an, cdv, ct, osl, rfl, lk, hcd⟩ := F.ex
  refine fn_ofG lk hcd S len fun A outer s H vs Q E hgd hr hsp => ?_
  obtain ⟨t, h, q⟩ := hbody cdv A outer s H vs Q E hgd hr hsp
  exact ⟨t, h.nox, q⟩
end
end Mv
/-! Rules for moves; falls, fewest_moves. -/
namespace Mv
open PySem PySem.Spec PyProof.Rows L2 Evl
section
variable {K : PySem.W.Frag} {σ : L2.St} {H H' : Hp} {ta tb tc te tl tx to : TE} {t u : TT} {x y z v : V}
theorem ev_isN (h : Ev ta σ H x) : Ev (tIsN ta) σ H (.bl (decide (x = .non))) := fun H1 e Q q => h H1 e _ fun H2 e2 => q H2 e2
theorem ev_notN (h : Ev ta σ H x) : Ev (tNotN ta) σ H (.bl (!decide (x = .non))) := fun H1 e Q q => h H1 e _ fun H2 e2 => q H2 e2
theorem AhV.isN {o : Option (List Int)} (h : AhV H y o) : decide (y = .non) = o.isNone := by
  cases o with
  | none =>
    cases (show y = .non from h)
    rfl
  | some q =>
    obtain ⟨b, rfl, _⟩ := (show IsRow H y q from h)
    rfl
def optD : Option (List Int) → PyData
  | none => .none
  | some q => rd q
theorem AhV.dp {o : Option (List Int)} (h : AhV H y o) : Dp K H y (optD o) := by
  cases o with
  | none =>
    cases (show y = .non from h)
    exact .non
  | some q => exact IsRow.dp h
theorem shaped_opt (o : Option (List Int)) : SeqAt.shaped (optD o) = true := by
  cases o with
  | none => decide +kernel
  | some q => exact shaped_row q
theorem eqv_opt (r : List Int) (o : Option (List Int)) : PyData.eqv (rd r) (optD o) = decide (o = some r) := by
  cases o with
  | none => rfl
  | some q =>
    show PyData.eqv (rd r) (rd q) = _
    rw [eqv_row]
    exact decide_eq_decide.mpr ⟨fun e => by rw [e], fun e => (Option.some.inj e).symm⟩
theorem eqv_opt' (r : List Int) (o : Option (List Int)) : PyData.eqv (optD o) (rd r) = decide (o = some r) := by
  cases o with
  | none => rfl
  | some q =>
    show PyData.eqv (rd q) (rd r) = _
    rw [eqv_row]
    exact decide_eq_decide.mpr ⟨fun e => by rw [e], fun e => Option.some.inj e⟩
theorem rv_eqOpt {r : List Int} {o : Option (List Int)} (hx : IsRow H x r) (hy : AhV H y o) : RV (rEqD K) x y H (.bl (decide (o = some r))) := fun H1 e Q q => by
  refine ⟨rd r, optD o, (hx.ex e).dp, (hy.ex e).dp, shaped_row r, shaped_opt o, ?_⟩
  rw [eqv_opt]
  exact q H1 (Ex.refl H1)
theorem rv_neOpt {r : List Int} {o : Option (List Int)} (hx : IsRow H x r) (hy : AhV H y o) : RV (rNeD K) x y H (.bl (!decide (o = some r))) := fun H1 e Q q => by
  refine ⟨rd r, optD o, (hx.ex e).dp, (hy.ex e).dp, shaped_row r, shaped_opt o, ?_⟩
  rw [eqv_opt]
  exact q H1 (Ex.refl H1)
theorem rv_neRow {r q : List Int} (hx : IsRow H x q) (hy : IsRow H y r) : RV (rNeD K) x y H (.bl (!decide (q = r))) := fun H1 e Q k => by
  refine ⟨rd q, rd r, (hx.ex e).dp, (hy.ex e).dp, shaped_row q, shaped_row r, ?_⟩
  rw [eqv_row]
  exact k H1 (Ex.refl H1)
/-- behind not in rows, where behind may be None -/
theorem rv_ninOpt {f : Addr} {ys : List V} {rs : List (List Int)} {o : Option (List Int)} {q : List Int} (hf : H f = some (.lst ys)) (hp : Paired (IsRow H) ys rs) (hx : AhV H x o) (eo : o = some q) : RV (rNotInD K) x (.ref f) H (.bl (!decide (q ∈ rs))) := by
  subst eo
  exact rv_ninRows hf hp hx
theorem ea_star {t : TA} {xs vs : List V} (h : EvL te σ H xs) (hr : EvA t σ H vs) : EvA (StX.tStar K te t) σ H (xs ++ vs) := fun H1 e Q q => h H1 e _ fun p H2 hp e2 hl => ⟨p, xs, rfl, .inr (sq_of hl), hr H2 (e.trans e2) _ fun H3 e3 => q H3 (e2.trans e3)⟩
theorem ev_indexR {f : Addr} {ys : List V} {rs : List (List Int)} {q : List Int} (ho : Ev to σ H (.ref f)) (hf : H f = some (.lst ys)) (hp : Paired (IsRow H) ys rs) (ha : Ev ta σ H y) (hy : IsRow H y q) (hq : q ∈ rs) :
    Ev (tBM K "list" (rIndexD K) to (tCons ta tNil)) σ H (.int (rs.idxOf q : Nat)) := fun H1 e Q k => ho H1 e _ fun H2 e2 =>
  ⟨Or.inl ⟨rfl, ys, sq_of (e2 _ _ (e _ _ hf))⟩, ha H2 (e.trans e2) _ fun H3 e3 => by
    have e03 := (e.trans e2).trans e3
    have hlt := List.idxOf_lt_length_iff.mpr hq
    refine ⟨f, y, rd q, rs.map rd, rs.idxOf q, rd rs[rs.idxOf q], rfl, rfl, .lst (sq_of (e03 _ _ hf)) (dp_rows (Paired.imp (fun _ _ h => h.ex e03) hp)), (hy.ex e03).dp, shaped_rows rs, shaped_row q, ?_, ?_, fun m z' hm hz => ?_, k H3 (e2.trans e3)⟩
    · rw [List.getElem?_map, List.getElem?_eq_getElem hlt] <;> rfl
    · rw [eqv_row]
      exact decide_eq_true (List.getElem_idxOf hlt)
    · rw [List.getElem?_map] at hz
      obtain ⟨p, hp1, rfl⟩ := Option.map_eq_some_iff.mp hz
      rw [eqv_row]
      refine decide_eq_false fun ee => ?_
      subst ee
      obtain ⟨hml, he⟩ := List.getElem?_eq_some_iff.mp hp1
      have := List.not_of_lt_findIdx (p := fun z => z == p) (xs := rs) (i := m) (by exact hm)
      simp [he] at this⟩
theorem el_lcF {a : Addr} {xs : List V} {j : Nat} {vs : List Nat} (f : V → Bool) (g : V → V) (h : Ev tl σ H (.ref a)) (hx : SqL K H a xs) (hz : xs.length ≤ 40000) (hw : ∀ x, wipe ((wipe σ vs).set j (some x)) vs = wipe σ vs)
    (ht : ∀ (x : V) H1, Ex H H1 → x ∈ xs → EvT t ((wipe σ vs).set j (some x)) H1 (f x)) (he : ∀ (x : V) H1, Ex H H1 → x ∈ xs → f x = true → Ev te ((wipe σ vs).set j (some x)) H1 (g x)) :
    EvL (tLc (iList K tl) (gName j) t te vs) σ H ((xs.filter f).map g) := by
  rw [← given_eq]
  have hm : ∀ i x, xs[i]? = some x → xs.getD i .non = x := fun i x e => by rw [List.getD_eq_getElem?_getD, e] <;> rfl
  exact el_lcL (K := K) (xs := xs) (fun i => f (xs.getD i .non)) (fun i => g (xs.getD i .non)) h hx hz hw (fun i x H1 e1 hi => by rw [hm i x hi]; exact ht x H1 e1 (List.mem_of_getElem? hi))
      (fun i x H1 e1 hi hf => by rw [hm i x hi] at hf ⊢; exact he x H1 e1 (List.mem_of_getElem? hi) hf)
theorem s_retP {P : V → Hp → Prop} {D : Ends} (h : EvP te σ H P) (k : ∀ v H1, Ex H H1 → P v H1 → D.rt v H1) : tRet te D σ H := h H (Ex.refl H) _ k
theorem ep_I0 {f : Int → Int → V} {i : Int} {R : Int → Prop} (ha : Ev ta σ H (.int i)) (hb : EvP tb σ H (fun v _ => ∃ j, v = .int j ∧ R j)) : EvP (tOp (rI0 f) ta tb) σ H (fun v _ => ∃ j, v = f i j ∧ R j) := fun H1 e Q q =>
  ha H1 e _ fun H2 e2 => hb H2 (e.trans e2) _ fun v H3 e3 ⟨j, ev, hj⟩ => ⟨i, j, rfl, ev, q _ H3 (e2.trans e3) ⟨j, rfl, hj⟩⟩
theorem q_asgE {i : Nat} {P : Addr → Hp → Prop} {D : Ends} {tz : TS} (h : EvF te σ H P) (k : ∀ p H1, H p = none → Ex H H1 → P p H1 → tz D (σ.set i (some (.ref p))) H1) : tSeq (tAsg te (gName i)) tz D σ H := h H (Ex.refl H) _ fun p H1 hp e hl => k p H1 hp e hl
/-- the rows other than r, in place -/
def drp (rs : List (List Int)) (r : List Int) : List (List Int) := rs.filter fun q => !decide (q = r)
def at' (left : List (List Int)) : Option (List Int) → Nat
  | none => 0
  | some q => left.idxOf q + 1
def inO (rs : List (List Int)) : Option (List Int) → Bool
  | none => true
  | some q => decide (q ∈ rs)
/-- a move done: row r behind o -/
def done (rs : List (List Int)) (r : List Int) (o : Option (List Int)) : Option (List (List Int)) :=
  if r ∈ rs ∧ o ≠ some r ∧ inO rs o = true then some ((drp rs r).take (at' (drp rs r) o) ++ r :: (drp rs r).drop (at' (drp rs r) o)) else none
def IsMv (H : Hp) (x : V) (r : List Int) (o : Option (List Int)) : Prop := ∃ a vr vo, x = .ref a ∧ H a = some (.tup [vr, vo]) ∧ IsRow H vr r ∧ AhV H vo o
theorem IsMv.ex {r : List Int} {o : Option (List Int)} (h : IsMv H x r o) (e : Ex H H') : IsMv H' x r o := let ⟨a, vr, vo, h1, h2, h3, h4⟩ := h; ⟨a, vr, vo, h1, e _ _ h2, h3.ex e, h4.ex e⟩
def DoneRes (H : Hp) (Q : VK) : Option (List (List Int)) → Prop
  | none => RetV .non H Q
  | some l => ∀ p H2, H p = none → Ex H H2 → LRw H2 (.ref p) l → Q (.ref p) H2
theorem drp_mem {rs : List (List Int)} {r q : List Int} : q ∈ drp rs r ↔ q ∈ rs ∧ q ≠ r := by
  unfold drp
  rw [List.mem_filter]
  constructor
  · rintro ⟨a, b⟩
    exact ⟨a, fun e => by rw [e, decide_eq_true rfl] at b; cases b⟩
  · rintro ⟨a, b⟩
    exact ⟨a, by rw [decide_eq_false b] <;> rfl⟩
theorem drp_len {rs : List (List Int)} (r : List Int) (nd : rs.Nodup) : (drp rs r).length = if r ∈ rs then rs.length - 1 else rs.length := by
  have e : drp rs r = rs.erase r := by
    rw [nd.erase_eq_filter r]
    unfold drp
    refine List.filter_congr fun q _ => ?_
    cases h : decide (q = r) with
    | true => simp [of_decide_eq_true h]
    | false => simp [of_decide_eq_false h]
  rw [e, List.length_erase]
end
section
variable {P : Program} {w : World} {K : PySem.W.Frag} {mg : Str → Option Value} {base : Heap} {a : Nat → Addr} {d : Nat → FuncData} {tk : Nat → Tok}
def FallRes (rs qs : List (List Int)) (H : Hp) (p1 : Addr) (H2 : Hp) : Prop := ∃ (bs : List Addr) (tops : List (List Int)) (lev : List Int → Nat) (ahd : List Int → Option (List Int)), H2 p1 = some (.lst (bs.map V.ref)) ∧ Paired (PileAt lev rs 100 H2) bs tops ∧
  (∀ b ∈ bs, H b = none ∧ b ≠ p1) ∧ bs.Nodup ∧ Pls rs qs rs tops lev ahd
def sp_falls : Sp := fun vs H Q _ => ∃ (x y : V) (rs qs : List (List Int)) (n : Nat), vs = [x, y] ∧ Rws H x rs ∧ Rws H y qs ∧ OkRows n rs ∧ qs.Perm rs ∧ ∀ p H2, H p = none → Ex H H2 → FallRes rs qs H p H2 → Q (.ref p) H2
theorem ok_falls (T : All K mg a d tk) : FnOk P w K mg base CX0 7 (a 11) (d 11) ["one", "other"] sp_falls := by
  refine T.F_falls.fn.ok sc_falls (fun vs H Q E h => ?_) (fun cdv A outer s H vs Q E hr h => ?_)
  · obtain ⟨x, y, rs, qs, n, rfl, _⟩ := h
    rfl
  · obtain ⟨x, y, rs, qs, n, rfl, hx, hy, ho, pm, k⟩ := h
    have nd := sc_falls.nd
    refine ⟨_, (pss_cons (ps_expr (pe_call (ok_need_pair T) (hr.mono (by decide)) rfl T.F_need_pair.m T.F_need_pair.kp T.F_need_pair.b .nil pass0 (pa_cons (pv 0) (pa_cons (pv 1) pa_nil))))
 (pss_cons (ps_asg (pe_call (ok_piles_of T) (hr.mono (by decide)) rfl T.F_piles_of.m T.F_piles_of.kp T.F_piles_of.b .nil pass0 (pa_cons (pv 0) (pa_cons (pv 1) pa_nil))) (pg_tup rfl (pgs_cons (pg_name (i := 2) nd rfl (Or.inl rfl)) (pgs_cons (pg_name (i := 3) nd rfl (Or.inl rfl)) pgs_nil))) (hw := by rfl))
 (pss_one (ps_ret (pv 2))))), ?_⟩
    refine q_drop (ev_call (ea_cons (ev_var rfl) (ea_cons (ev_var rfl) ea_nil)) (spv_need_pair hx hy ho pm)) fun H1 e1 => ?_
    refine ⟨_, rfl, _, rfl, x, y, rs, qs, n, rfl, hx.ex e1, hy.ex e1, ho, pm, fun t H2 e2 ⟨p1, p2, bs, tops, lev, ahd, g, ht, hp1, hb, hf, hn, np1, hp2, hg, hP⟩ => ?_⟩
    refine ⟨t, _, rfl, st_of ht, rfl, _, _, rfl, _, _, rfl, rfl, ?_⟩
    refine s_ret (ev_var rfl) fun H3 e3 => ?_
    exact k p1 H3 (fresh_back e1 np1) (e1.trans (e2.trans e3)) ⟨bs, tops, lev, ahd, e3 _ _ hp1, Paired.imp (fun _ _ h => h.ex e3) hb, fun b hb => ⟨fresh_back e1 (hf b hb).1, (hf b hb).2⟩, hn, hP⟩
theorem ep_lenLong {σ : L2.St} {H : Hp} {ta tb : TE} {x y : V} {rs qs : List (List Int)} {n : Nat} {E : XK} (ha : Ev ta σ H x) (hb : Ev tb σ H y) (hx : Rws H x rs) (hy : Rws H y qs) (ho : OkRows n rs) (pm : qs.Perm rs) :
    EvP (tCB (rLenS K) (tCons (tCall sp_longest_of [] E (tCons ta (tCons tb tNil))) tNil)) σ H fun v _ => ∃ j : Int, v = .int j ∧ ∃ lev ahd M, j = (M : Nat) ∧ LevOn [rs, qs] rs lev ahd ∧ IsCount rs lev M := fun H1 e Q q => by
  show tCons ta (tCons tb tNil) σ H1 (fun vs H2 => sp_longest_of (vs ++ []) H2 (fun v H3 => tNil σ H3 fun ws H4 => rLenS K (v :: ws) H4 Q) E)
  refine (show EvA (tCons ta (tCons tb tNil)) σ H [x, y] from ea_cons ha (ea_cons hb ea_nil)) H1 e _ fun H2 e2 => ?_
  refine ⟨x, y, rs, qs, n, rfl, hx.ex (e.trans e2), hy.ex (e.trans e2), ho, pm, fun p H3 np e3 ⟨ys, ds, lev, ahd, M, h1, h2, h3, h4, h5, h6, h7⟩ => ?_⟩
  refine ⟨p, ys, rfl, .inl (sq_of h1), ?_⟩
  exact q _ H3 (e2.trans e3) ⟨_, rfl, lev, ahd, M, by rw [h2], h6, h7⟩
end
end Mv
/-! moved, _law_done, _law_led. -/
namespace Mv
open PySem PySem.Spec PyProof.Rows L2 Evl
theorem at_le {l : List (List Int)} {o : Option (List Int)} (h : inO l o = true) : at' l o ≤ l.length := by
  cases o with
  | none => exact Nat.zero_le _
  | some q => exact List.idxOf_lt_length_iff.mpr (of_decide_eq_true h)
theorem inO_drp {rs : List (List Int)} {r : List Int} {o : Option (List Int)} (h : inO rs o = true) (n : o ≠ some r) : inO (drp rs r) o = true := by
  cases o with
  | none => rfl
  | some q => exact decide_eq_true (drp_mem.mpr ⟨of_decide_eq_true h, fun e => n (by rw [e])⟩)
theorem done_no {rs : List (List Int)} {r : List Int} {o : Option (List Int)} (h : (!decide (r ∈ rs) || (decide (o = some r) || (!o.isNone && !inO rs o))) = true) : done rs r o = none := by
  unfold done
  rw [if_neg]
  rintro ⟨h1, h2, h3⟩
  rw [decide_eq_true h1, decide_eq_false h2, h3] at h
  simp at h
theorem done_yes {rs : List (List Int)} {r : List Int} {o : Option (List Int)} (h : (!decide (r ∈ rs) || (decide (o = some r) || (!o.isNone && !inO rs o))) = false) : r ∈ rs ∧ o ≠ some r ∧ inO rs o = true := by
  rw [Bool.or_eq_false_iff, Bool.or_eq_false_iff] at h
  obtain ⟨h1, h2, h3⟩ := h
  refine ⟨?_, of_decide_eq_false h2, ?_⟩
  · by_cases z : r ∈ rs
    · exact z
    · rw [decide_eq_false z] at h1; cases h1
  · cases o with
    | none => rfl
    | some q =>
      cases z : inO rs (some q) with
      | true => rfl
      | false => rw [z] at h3; cases h3
theorem done_eq {rs : List (List Int)} {r : List Int} {o : Option (List Int)} (h : r ∈ rs ∧ o ≠ some r ∧ inO rs o = true) : done rs r o = some ((drp rs r).take (at' (drp rs r) o) ++ r :: (drp rs r).drop (at' (drp rs r) o)) := if_pos h
section
variable {P : Program} {w : World} {K : PySem.W.Frag} {mg : Str → Option Value} {base : Heap} {a : Nat → Addr} {d : Nat → FuncData} {tk : Nat → Tok}
/-- [item for item in rows if item != row] -/
theorem el_drp {σ : L2.St} {H : Hp} {tl tx : TE} {f : Addr} {ys : List V} {rs : List (List Int)} {r : List Int} {x : V} {j : Nat} (h : Ev tl σ H (.ref f)) (hf : H f = some (.lst ys)) (hp : Paired (IsRow H) ys rs) (hl : rs.length ≤ 60) (hx : IsRow H x r) (hw : ∀ x, wipe ((wipe σ [j]).set j (some x)) [j] = wipe σ [j])
    (hv : ∀ y : V, ((wipe σ [j]).set j (some y))[j]? = some (some y)) (hr : ∀ (y : V) H1, Ex H H1 → Ev tx ((wipe σ [j]).set j (some y)) H1 x) :
    EvF (tLc (iList K tl) (gName j) (tTest (tOp (rNeD K) (tVar j) tx)) (tVar j) [j]) σ H fun p H2 => LRw H2 (.ref p) (drp rs r) := fun H1 e Q q => by
  refine el_lcF (K := K) (byRow H fun q => !decide (q = r)) (fun x => x) h (sq_of hf) (by rw [Paired.length hp]; omega) hw (fun y H2 e2 hy => ?_) (fun y H2 e2 hy _ => ev_var (hv y)) H1 e _ fun p H2 np e2 h2 => q p H2 np e2 ?_
  · obtain ⟨z, hz, hrow⟩ := Paired.mem_l hp y hy
    rw [byRow_eq hrow]
    exact et_test (ev_op (ev_var (hv y)) (hr y H2 e2) (rv_neRow (hrow.ex e2) (hx.ex e2)))
  · rw [List.map_id'] at h2
    refine ⟨p, _, rfl, h2, Paired.filter (Paired.imp (fun _ _ h => h.ex (e.trans e2)) hp) fun y hy r' h => ?_⟩
    obtain ⟨z, hz, hrow⟩ := Paired.mem_l hp y hy
    rw [byRow_eq hrow, (hrow.ex (e.trans e2)).fn h]
def sp_moved : Sp := fun vs H Q _ => ∃ (x m : V) (rs : List (List Int)) (r : List Int) (o : Option (List Int)), vs = [x, m] ∧ LRw H x rs ∧ IsMv H m r o ∧ rs.length ≤ 60 ∧ DoneRes H Q (done rs r o)
theorem ok_moved (T : All K mg a d tk) : FnOk P w K mg base CX0 1 (a 17) (d 17) ["rows", "move"] sp_moved := by
  refine T.F_moved.fn.ok sc_moved (fun vs H Q E h => ?_) (fun cdv A outer s H vs Q E hr h => ?_)
  · obtain ⟨x, m, rs, r, o, rfl, _⟩ := h
    rfl
  · obtain ⟨x, m, rs, r, o, rfl, hx, hm, hl, k⟩ := h
    have nd := sc_moved.nd
    have hu := hu_of hr
    have hu0 := hr.units0
    have hu65 := hu65_of hr
    have hu64 := hr.units
    refine ⟨_, (pss_cons (ps_asg (pv 1) (pg_tup rfl (pgs_cons (pg_name (i := 2) nd rfl (Or.inr rfl)) (pgs_cons (pg_name (i := 3) nd rfl (Or.inl rfl)) pgs_nil))) (hw := by rfl))
 (pss_cons (ps_if (PW.pt (pw_or (pt_cmpR (op_notInD hu65) (pv 2) (pv 0) rfl) (pw_or (pt_cmpR (op_eqD hu64) (pv 2) (pv 3) (nomark _)) (pw_or1 (PW.pt (pw_and (pt_cmp (pc_notN (pv 3))) (pw_and1 (pt_cmpR (op_notInD hu65) (pv 3) (pv 0) rfl))))))))
 (pss_one (ps_ret pe_non))
 pss_nil)
 (pss_cons (ps_setLc (i := 4) (own := [("item", 6)]) (g := (gName 6)) rfl nd rfl rfl (sw_true rfl rfl rfl (by decide +kernel)) (pi_list (pv 0)) (blkOk_by (N := N_moved) (sc := defScope s_moved) (by decide +kernel)) (fun _ _ _ _ _ => (pg_name (i := 6) nd rfl (Or.inl rfl))) (fun _ _ _ _ _ => (pts_one (pt_cmpR (show OpR _ (compareOp .NotEq) (rNeD K) from (op_neD hu64)) (pv 6) (pv 2) (nomark _)))) (fun _ _ _ _ _ => (pv 6)))
 (pss_cons (ps_set (i := 5) nd rfl (Or.inl rfl) (pe_ifExp (pt_cmp (pc_isN (pv 3))) pe_int (pe_op op_add (pe_bm PySem.F.plainAttrs_list PySem.F.slot_list_index PySem.F.type_list_index (mt_indexD hu65) (pv 4) (pa_cons (pv 3) pa_nil)) pe_int)))
 (pss_one (ps_ret (pe_lst (StX.pa_star (pe_slice sl_list (pv 4) po_none (po_some (pv 5))) (pa_cons (pv 2) (StX.pa_star (pe_slice sl_list (pv 4) (po_some (pv 5)) po_none) pa_nil)))))))))), ?_⟩
    obtain ⟨f, ys, rfl, hf, hp⟩ := hx
    obtain ⟨ma, vr, vo, rfl, hma, hvr, hvo⟩ := hm
    refine ⟨_, rfl, ma, _, rfl, st_of hma, rfl, _, _, rfl, _, _, rfl, rfl, ?_⟩
    refine q_when (b := (!decide (r ∈ rs) || (decide (o = some r) || (!o.isNone && !inO rs o)))) (et_or (et_test (ev_op (ev_var rfl) (ev_var rfl) (rv_ninRows hf hp hvr))) fun _ => et_or (et_test (ev_op (ev_var rfl) (ev_var rfl) (rv_eqOpt hvr hvo))) fun _ => et_and (et_is (et_B (ev_notN (ev_var rfl))) (by rw [hvo.isN])) fun hn => ?_) (fun h H1 e1 => ?_) fun h H1 e1 => ?_
    · cases o with
      | none => cases hn
      | some q => exact et_test (ev_op (ev_var rfl) (ev_var rfl) (rv_ninOpt hf hp hvo rfl))
    · rw [done_no h] at k
      exact s_ret ev_c fun H2 e2 => k H2 (e1.trans e2)
    · have hy := done_yes h
      rw [done_eq hy] at k
      refine q_asgE (el_drp (K := K) (σ := [some (V.ref f), some (.ref ma), some vr, some vo, none, none, none]) (tl := tVar 0) (tx := tVar 2) (j := 6) (ev_var rfl) (e1 _ _ hf) (Paired.imp (fun _ _ h => h.ex e1) hp) hl (hvr.ex e1) (fun _ => rfl) (fun _ => rfl) (fun y H2 e2 => ev_var rfl)) fun L H2 nL e2 ⟨L', zs, eL, hL, hz⟩ => ?_
      cases eL
      have iD := inO_drp hy.2.2 hy.2.1
      have al := at_le iD
      have lz : zs.length = (drp rs r).length := Paired.length hz
      refine q_asg (v := .int (at' (drp rs r) o : Nat)) ?_ fun H3 e3 => ?_
      · cases o with
        | none => exact ev_if (b := true) (et_is (et_B (ev_isN (ev_var rfl))) (by rw [hvo.isN] <;> rfl)) (fun _ => ev_c) fun h => nomatch h
        | some q => exact ev_if (b := false) (et_is (et_B (ev_isN (ev_var rfl))) (by rw [hvo.isN] <;> rfl)) (fun h => nomatch h) fun _ => ev_is (ev_I0 (ev_indexR (ev_var rfl) hL hz (ev_var rfl) (hvo.ex (e1.trans e2)) (of_decide_eq_true iD)) ev_c) rfl
      · have s1 : EvL (tSl (rSlL K) (tVar 4) tNoPart (tPart (tVar 5))) [some (V.ref f), some (.ref ma), some vr, some vo, some (.ref L), some (.int (at' (drp rs r) o : Nat)), none] H3 (zs.take (at' (drp rs r) o)) := by
          have := el_sl (K := K) (te := tVar 4) (σ := [some (V.ref f), some (.ref ma), some vr, some vo, some (.ref L), some (.int (at' (drp rs r) o : Nat)), none]) (H := H3) (ev_var rfl) eo_none (eo_some (te := tVar 5) (ev_var rfl)) (sq_of (e3 _ _ hL))
          rwa [cutV_to _ _ (by omega)] at this
        have s2 : EvL (tSl (rSlL K) (tVar 4) (tPart (tVar 5)) tNoPart) [some (V.ref f), some (.ref ma), some vr, some vo, some (.ref L), some (.int (at' (drp rs r) o : Nat)), none] H3 (zs.drop (at' (drp rs r) o)) := by
          have := el_sl (K := K) (te := tVar 4) (σ := [some (V.ref f), some (.ref ma), some vr, some vo, some (.ref L), some (.int (at' (drp rs r) o : Nat)), none]) (H := H3) (ev_var rfl) (eo_some (te := tVar 5) (ev_var rfl)) eo_none (sq_of (e3 _ _ hL))
          rwa [cutV_from _ _ (by omega)] at this
        refine s_retL (el_lst (ea_star s1 (ea_cons (ev_var rfl) (ea_star s2 ea_nil))) ?_) fun p H4 np e4 h4 => ?_
        · have l60 : (drp rs r).length ≤ rs.length := List.length_filter_le _ _
          simp only [List.length_append, List.length_cons, List.length_take, List.length_drop, List.length_nil]
          omega
        · rw [List.append_nil] at h4
          have e14 := e1.trans (e2.trans (e3.trans e4))
          have hz4 := Paired.imp (fun _ _ h => IsRow.ex h (e3.trans e4)) hz
          exact k p H4 (fresh_back (e1.trans (e2.trans e3)) np) e14 ⟨p, _, rfl, h4, Paired.append (Paired.take _ hz4) (.cons (hvr.ex e14) (Paired.drop _ hz4))⟩
theorem sps_moved {x m : V} {rs : List (List Int)} {r : List Int} {o : Option (List Int)} {H : Hp} (h : LRw H x rs) (hm : IsMv H m r o) (hl : rs.length ≤ 60) {Q : VK} {E : XK} (k : DoneRes H Q (done rs r o)) : sp_moved [x, m] H Q E := ⟨x, m, rs, r, o, rfl, h, hm, hl, k⟩
theorem done_law {rs : List (List Int)} {r : List Int} {o : Option (List Int)} (nd : rs.Nodup) {b : Bool} (hb : b = !decide (V.int ((drp rs r).length : Int) = V.int ((rs.length : Int) - 1))) : (b || (!o.isNone && !inO (drp rs r) o)) = (!decide (r ∈ rs) || (decide (o = some r) || (!o.isNone && !inO rs o))) := by
  have e1 : b = !decide (r ∈ rs) := by
    rw [hb, drp_len r nd]
    congr 1
    refine decide_eq_decide.mpr ?_
    by_cases h : r ∈ rs
    · have : 0 < rs.length := List.length_pos_of_mem h
      rw [if_pos h]
      exact ⟨fun _ => h, fun _ => by congr 1; omega⟩
    · rw [if_neg h]
      refine ⟨fun e => ?_, fun e => absurd e h⟩
      injection e with e
      omega
  rw [e1]
  cases hr : decide (r ∈ rs) with
  | false => rfl
  | true =>
    have hr := of_decide_eq_true hr
    cases o with
    | none => rfl
    | some q =>
      show (false || (true && !decide (q ∈ drp rs r))) = (false || (decide (some q = some r) || (true && !decide (q ∈ rs))))
      by_cases e : q = r
      · subst e
        rw [decide_eq_true rfl, decide_eq_false fun h => (drp_mem.mp h).2 rfl] <;> rfl
      · rw [decide_eq_false (p := some q = some r) fun h => e (Option.some.inj h)]
        have : decide (q ∈ drp rs r) = decide (q ∈ rs) := decide_eq_decide.mpr ⟨fun h => (drp_mem.mp h).1, fun h => drp_mem.mpr ⟨h, e⟩⟩
        rw [this] <;> rfl
end
end Mv
/-! is_move, are_moves, need_moves, _law_led. -/
namespace Mv
open PySem PySem.Spec PyProof.Rows L2 Evl
abbrev Move := List Int × Option (List Int)
structure OkMv (n : Nat) (m : Move) : Prop where
  w1 : 1 ≤ n
  w5 : n ≤ 5
  row : OkRow n m.1
  beh : ∀ q, m.2 = some q → OkRow n q
def MvAll (H : Hp) (xs : List V) (ms : List Move) : Prop := Paired (fun x m => IsMv H x m.1 m.2) xs ms
theorem MvAll.ex {H H' : Hp} {xs : List V} {ms : List Move} (h : MvAll H xs ms) (e : Ex H H') : MvAll H' xs ms := Paired.imp (fun _ _ z => z.ex e) h
def MvS (H : Hp) (x : V) (ms : List Move) : Prop := ∃ a xs, x = .ref a ∧ Seq H a xs ∧ MvAll H xs ms
theorem MvS.ex {H H' : Hp} {x : V} {ms : List Move} (h : MvS H x ms) (e : Ex H H') : MvS H' x ms := let ⟨a, xs, h1, h2, h3⟩ := h; ⟨a, xs, h1, h2.ex e, h3.ex e⟩
theorem drp_erase {rs : List (List Int)} (r : List Int) (nd : rs.Nodup) : drp rs r = rs.erase r := by
  rw [nd.erase_eq_filter r]
  unfold drp
  refine List.filter_congr fun q _ => ?_
  cases h : decide (q = r) with
  | true => simp [of_decide_eq_true h]
  | false => simp [of_decide_eq_false h]
theorem done_perm {rs l : List (List Int)} {r : List Int} {o : Option (List Int)} (nd : rs.Nodup) (h : done rs r o = some l) : l.Perm rs := by
  by_cases c : r ∈ rs ∧ o ≠ some r ∧ inO rs o = true
  · rw [done_eq c] at h
    cases h
    refine List.perm_middle.trans ?_
    rw [List.take_append_drop, drp_erase r nd]
    exact (List.perm_cons_erase c.1).symm
  · unfold done at h
    rw [if_neg c] at h
    cases h
def led (rs : List (List Int)) (ms : List Move) : Option (List (List Int)) := ms.foldl (fun o m => o.bind fun l => done l m.1 m.2) (some rs)
theorem led_snoc (rs : List (List Int)) (ms : List Move) (m : Move) : led rs (ms ++ [m]) = (led rs ms).bind fun l => done l m.1 m.2 := by
  unfold led
  rw [List.foldl_append] <;> rfl
theorem led_perm {rs : List (List Int)} (nd : rs.Nodup) (ms : List Move) : ∀ l, led rs ms = some l → l.Perm rs := by
  have gen : ∀ (ms : List Move) (o : Option (List (List Int))), (∀ l, o = some l → l.Perm rs) → ∀ l, ms.foldl (fun o m => o.bind fun l => done l m.1 m.2) o = some l → l.Perm rs := by
    intro ms
    induction ms with
    | nil => exact fun o h l e => h l e
    | cons m ms ih =>
      intro o h l e
      refine ih _ (fun l' e' => ?_) l e
      cases o with
      | none => cases e'
      | some l0 => exact (done_perm ((h l0 rfl).nodup_iff.mpr nd) e').trans (h l0 rfl)
  exact gen ms (some rs) fun l e => by cases e; exact List.Perm.refl _
def LedAt (H : Hp) (v : V) : Option (List (List Int)) → Prop
  | none => v = .non
  | some l => LRw H v l
theorem LedAt.ex {H H' : Hp} {v : V} {o : Option (List (List Int))} (h : LedAt H v o) (e : Ex H H') : LedAt H' v o := by
  cases o with
  | none => exact h
  | some l => exact LRw.ex h e
section
variable {P : Program} {w : World} {K : PySem.W.Frag} {mg : Str → Option Value} {base : Heap} {a : Nat → Addr} {d : Nat → FuncData} {tk : Nat → Tok}
end
end Mv
/-! dict([(row, at) for at, row in enumerate(rows)]); _law_longest. -/
namespace Mv
open PySem PySem.Spec PyProof.Rows L2 Evl
section
variable {P : Program} {w : World} {K : PySem.W.Frag} {mg : Str → Option Value} {base : Heap} {a : Nat → Addr} {d : Nat → FuncData} {tk : Nat → Tok}
theorem ef_dictEnum {σ : L2.St} {H : Hp} {tl : TE} {f : Addr} {ys : List V} {rs : List (List Int)} {j1 j2 : Nat} {vs : List Nat} (h : Ev tl σ H (.ref f)) (hf : H f = some (.lst ys)) (hp : Paired (IsRow H) ys rs) (nR : rs.Nodup) (hl : rs.length ≤ 60)
    (hw : ∀ x y, wipe (((wipe σ vs).set j1 (some x)).set j2 (some y)) vs = wipe σ vs) (hv1 : ∀ x y : V, (((wipe σ vs).set j1 (some x)).set j2 (some y))[j1]? = some (some x)) (hv2 : ∀ x y : V, (((wipe σ vs).set j1 (some x)).set j2 (some y))[j2]? = some (some y)) :
    EvF (tCB rDictPT (tCons (tLc (iEnum K (tCons tl tNil)) (gTup K 2 (gCons (gName j1) (gCons (gName j2) gNil))) tYes (tTup (tCons (tVar j2) (tCons (tVar j1) tNil))) vs) tNil)) σ H fun p H2 => H2 p = some (.dT (dtab rs (plc rs))) := fun H0 e Q k => by
  have hlen : ys.length = rs.length := Paired.length hp
  refine h H0 e _ fun H1 e1 => ⟨f, ys, rfl, sq_of (e1 _ _ (e _ _ hf)), fun Dl hD => ?_⟩
  have hf1 := e1 _ _ (e _ _ hf)
  have hp1 : Paired (IsRow H1) ys rs := Paired.imp (fun _ _ h => h.ex (e.trans e1)) hp
  refine lc_it (walk_enum (K := K) (a := f) (xs := ys)) (fun i H' => Ex H1 H' ∧ ∃ ps : List (Addr × List Key × Addr × V), H' Dl = some (.lst (ps.map fun p => V.ref p.1)) ∧ ps.length = i ∧
      (∀ p ∈ ps, H' p.1 = some (.tup [.ref p.2.2.1, p.2.2.2]) ∧ H' p.2.2.1 = some (.tup (p.2.1.map kV))) ∧ ps.map (fun p => (p.2.1, p.2.2.2)) = (rs.take i).map fun r => (ky r, plc rs r))
    ⟨Ex.new hD, [], upd_same, rfl, fun p h => (by cases h), rfl⟩ (fun i H' _ p => sq_of (p.1 _ _ hf1)) ?_ ?_
  · rintro i y H' H'' hi ⟨e', ps, h1, h2, h3, h4⟩ ⟨T2, x1, x2, rfl, hT, rfl, ex1, ex2⟩
    cases ex1
    have eT : Ex H' (upd H' T2 (.tup [.int (i : Nat), x2])) := Ex.new hT
    obtain ⟨r, hr, hrow⟩ := Paired.at_l hp1 i x2 ex2
    have hi60 : i < 60 := by
      have := (List.getElem?_eq_some_iff.mp hr).1
      omega
    refine ⟨T2, _, rfl, st_of upd_same, rfl, _, _, rfl, _, _, rfl, rfl, hw _ _, yes_go ?_⟩
    refine ⟨x2, hv2 _ _, .int (i : Nat), hv1 _ _, sz_of (show 2 ≤ 100000 by decide), fun t ht => ?_⟩
    have et : Ex (upd H' T2 (.tup [.int (i : Nat), x2])) (upd (upd H' T2 (.tup [.int (i : Nat), x2])) t (.tup [x2, .int (i : Nat)])) := Ex.new ht
    have eTt := eT.trans et
    obtain ⟨b, eb, hb⟩ := (hrow.ex (e'.trans eTt)).key
    have ntD : t ≠ Dl := fun z => by rw [z, eT _ _ h1] at ht; cases ht
    have nD : ∀ {q : Addr} {zs : List V}, (upd (upd H' T2 (.tup [.int (i : Nat), x2])) t (.tup [x2, .int (i : Nat)])) q = some (.tup zs) → q ≠ Dl := fun hq z => by
      rw [z, eTt _ _ h1] at hq
      cases hq
    refine ⟨_, eTt _ _ h1, Nat.lt_of_le_of_lt (by rw [List.length_map, h2]; omega) (show 1000 < sizeLine by decide), Ex.mut (e'.trans eTt) hD, ps ++ [(t, ky r, b, .int (i : Nat))], ?_, by rw [List.length_append, h2] <;> rfl, fun p hp => ?_, ?_⟩
    · rw [upd_same, List.map_append] <;> rfl
    · rcases List.mem_append.mp hp with hp | hp
      · obtain ⟨g1, g2⟩ := h3 p hp
        exact ⟨by rw [upd_ne (nD (eTt _ _ g1))]; exact eTt _ _ g1, by rw [upd_ne (nD (eTt _ _ g2))]; exact eTt _ _ g2⟩
      · rw [List.mem_singleton.mp hp]
        refine ⟨?_, by rw [upd_ne (nD hb)]; exact hb⟩
        rw [upd_ne ntD, upd_same, eb]
    · rw [take_next hr, List.map_append, List.map_append, h4]
      show _ ++ [(ky r, V.int (i : Nat))] = _ ++ [(ky r, plc rs r)]
      unfold plc
      rw [idxOf_at nR hr]
  · rintro H2 ⟨e2, ps, h1, h2, h3, h4⟩
    rw [hlen, List.take_length] at h4
    refine ⟨Dl, ps, rfl, h1, fun p hp => (h3 p hp).1, fun p hp => (h3 p hp).2, fun dd hdd => ?_⟩
    have ef : (ps.foldl (fun acc p => putK acc p.2.1 p.2.2.2) []) = dtab rs (plc rs) := by
      have z := dtab_fold (f := plc rs) rs [] (by rw [List.nil_append]; exact nR)
      rw [← h4, List.foldl_map] at z
      exact z
    rw [ef]
    exact k dd _ (fresh_back (e1.trans e2) hdd) ((e1.trans e2).trans (Ex.new hdd)) upd_same
/-! _law_longest -/
def sp__law_longest : Sp := fun vs H Q _ => ∃ (x y : V) (R qs : List (List Int)) (n : Nat), vs = [x, y] ∧ LRw H x R ∧ LRw H y qs ∧ OkRows n R ∧ qs.Perm R ∧ ∀ lev ahd M H2, LevOn [R, qs] R lev ahd → IsCount R lev M → Ex H H2 → Q (.int (M : Nat)) H2
theorem ok__law_longest (T : All K mg a d tk) : FnOk P w K mg base CX0 1 (a 25) (d 25) ["first", "second"] sp__law_longest := by
  refine T.F__law_longest.fn.ok sc__law_longest (fun vs H Q E h => ?_) (fun cdv A outer s H vs Q E hr h => ?_)
  · obtain ⟨x, y, R, qs, n, rfl, _⟩ := h
    rfl
  · obtain ⟨x, y, R, qs, n, rfl, hx, hy, oR, pm, k⟩ := h
    have nd := sc__law_longest.nd
    have hu := hu_of hr
    have hu0 := hr.units0
    have hu64 := hr.units
    have oq := oR.perm pm
    have hR60 := oR.few
    obtain ⟨a0, xs0, rfl, hs0, hp0⟩ := id hx
    obtain ⟨b0, ys0, rfl, ht0, hq0⟩ := id hy
    have hlen0 : xs0.length = R.length := Paired.length hp0
    let Ls : List (List (List Int)) := [R, qs]
    have hRm : R ∈ Ls := List.mem_cons_self
    refine ⟨_, (pss_cons (ps_asg (pe_tup (pa_cons (pe_lst pa_nil) (pa_cons (pe_callTy (cr_dictPT rfl hu64) rfl T.n_dict PyProof.Rows.boot_dict (pa_cons (pe_lc (own := [("at", 4), ("row", 5)]) (g := (gTup K 2 (gCons (gName 4) (gCons (gName 5) gNil)))) rfl nd (pi_enum rfl T.n_enumerate (pa_cons (pv 1) pa_nil)) (blkOk_by (N := N__law_longest) (sc := defScope s__law_longest) (by decide +kernel)) (fun _ _ _ _ _ => (pg_tup rfl (pgs_cons (pg_name (i := 4) nd rfl (Or.inl rfl)) (pgs_cons (pg_name (i := 5) nd rfl (Or.inl rfl)) pgs_nil)))) (fun _ _ _ _ _ => pts_nil) (fun _ _ _ _ _ => (pe_tup (pa_cons (pv 5) (pa_cons (pv 4) pa_nil))))) pa_nil)) pa_nil))) (pg_tup rfl (pgs_cons (pg_name (i := 2) nd rfl (Or.inr rfl)) (pgs_cons (pg_name (i := 3) nd rfl (Or.inr rfl)) pgs_nil))) (hw := by rfl))
 (pss_cons (ps_for PassesOwn.never rfl (pi_enum rfl T.n_enumerate (pa_cons (pv 0) pa_nil)) (pg_tup rfl (pgs_cons (pg_name (i := 4) nd rfl (Or.inl rfl)) (pgs_cons (pg_name (i := 5) nd rfl (Or.inr rfl)) pgs_nil)))
 (pss_cons (ps_setLc (i := 6) (own := [("k", 7)]) (g := (gName 7)) rfl nd rfl rfl (sw_true rfl rfl rfl (by decide +kernel)) (pi_range1 rfl T.n_range (pa_cons (pv 4) pa_nil)) (blkOk_by (N := N__law_longest) (sc := defScope s__law_longest) (by decide +kernel)) (fun _ _ _ _ _ => (pg_name (i := 7) nd rfl (Or.inl rfl))) (fun _ _ _ _ _ => (pts_one (pt_cmpR op_lt (pe_dget hu (pv 3) (pe_ix (show IxR _ (rIxL K) from ix_list) (pv 0) (pv 7) (fun _ _ => rfl)) (fun _ _ => rfl)) (pe_dget hu (pv 3) (pv 5) (fun _ _ => rfl)) (nomark _)))) (fun _ _ _ _ _ => (pe_ix (show IxR _ (rIxL K) from ix_list) (pv 2) (pv 7) (fun _ _ => rfl))))
 (pss_one (ps_expr (pe_bm PySem.F.plainAttrs_list PySem.F.slot_list_append PySem.F.type_list_append mt_append (pv 2) (pa_cons (pe_op op_add pe_int (pe_callB (cr_max rfl) (by rfl) T.n_max PyProof.Rows.boot_max (pa_cons (pe_op op_cat (pv 6) (pe_lst (pa_cons pe_int pa_nil))) pa_nil))) pa_nil))))))
 (pss_one (ps_ret (pe_callB (cr_max rfl) (by rfl) T.n_max PyProof.Rows.boot_max (pa_cons (pe_op op_cat (pv 2) (pe_lst (pa_cons pe_int pa_nil))) pa_nil)))))), ?_⟩
    refine ⟨Nat.zero_le _, fun kn hkn => ?_⟩
    have eK : Ex H (upd H kn (.lst [])) := Ex.new hkn
    refine ef_dictEnum (K := K) (σ := [some (V.ref a0), some (.ref b0), none, none, none, none, none, none]) (tl := tVar 1) (j1 := 4) (j2 := 5) (vs := [4, 5]) (ev_var rfl) (eK _ _ ht0) (Paired.imp (fun _ _ h => h.ex eK) hq0) oq.nd oq.few (fun _ _ => rfl) (fun _ _ => rfl) (fun _ _ => rfl) _ (Ex.refl _) _ fun pd H2 npd e2 hPos => ⟨sz_of (show 2 ≤ 100000 by decide), fun t ht => ?_⟩
    have eT : Ex H2 (upd H2 t (.tup [.ref kn, .ref pd])) := Ex.new ht
    refine ⟨t, _, rfl, st_of upd_same, rfl, _, _, rfl, _, _, rfl, rfl, ?_⟩
    generalize hH3 : upd H2 t (HO.tup [V.ref kn, V.ref pd]) = H3
    have e3 : Ex H H3 := by rw [← hH3]; exact (eK.trans e2).trans eT
    have hk3 : H3 kn = some (.lst []) := by rw [← hH3]; exact (e2.trans eT) _ _ upd_same
    have hP3 : H3 pd = some (.dT (dtab qs (plc qs))) := by rw [← hH3]; exact eT _ _ hPos
    have irr : ∀ r, Ah Ls r r = false := fun r => by
      cases q : Ah Ls r r with
      | false => rfl
      | true => exact absurd (Ah.lt q hRm) (Nat.lt_irrefl _)
    have ix : ∀ {j : Nat} {r : List Int}, R[j]? = some r → R.idxOf r = j := fun h => idxOf_at oR.nd h
    refine ⟨_, rfl, a0, xs0, rfl, sq_of (e3 _ _ hs0), ?_⟩
    let Ov : Nat → L2.St → Hp → Prop := fun j σ' H' => Ex H H' ∧ H' pd = some (.dT (dtab qs (plc qs))) ∧ ∃ (lev : List Int → Nat) (ahd : List Int → Option (List Int)) (v4 v5 v6 : Option V), σ' = [some (.ref a0), some (.ref b0), some (.ref kn), some (.ref pd), v4, v5, v6, none] ∧
      H' kn = some (.lst (((R.take j).map fun r => lev r + 1).map fun n : Nat => V.int (n : Int))) ∧ LevOn Ls (R.take j) lev ahd
    refine for_it (walk_enum (K := K) (a := a0) (xs := xs0)) Ov ⟨e3, hP3, fun _ => 0, fun _ => none, none, none, none, rfl, hk3, ⟨fun r hr => by simp at hr, fun r hr => by simp at hr⟩⟩ (fun j σ' H' _ ⟨e', _⟩ => sq_of (e' _ _ hs0)) ?_ ?_
    · rintro j y σ' H' H'' hj ⟨e', hPo, lev, ahd, v4, v5, v6, rfl, h1, h2⟩ ⟨T0, x1, x2, rfl, hT0, rfl, ex1, ex2⟩
      cases ex1
      have eT0 : Ex H' (upd H' T0 (.tup [.int (j : Nat), x2])) := Ex.new hT0
      obtain ⟨r, hr, hrow⟩ := Paired.at_l hp0 j x2 ex2
      have hjR : j < R.length := (List.getElem?_eq_some_iff.mp hr).1
      have ej := ix hr
      have memT : ∀ q ∈ R.take j, R.idxOf q < j ∧ q ∈ R := fun q hq => by
        obtain ⟨i, hi, ei⟩ := List.mem_iff_getElem.mp hq
        have hi2 : i < j := by rw [List.length_take] at hi; omega
        rw [List.getElem_take] at ei
        have g1 : R[i]? = some q := by rw [← ei]; exact List.getElem?_eq_getElem _
        exact ⟨by rw [ix g1]; exact hi2, List.mem_of_getElem? g1⟩
      have nr : r ∉ R.take j := fun h => by have := (memT r h).1; omega
      have eTk : R.take (j + 1) = R.take j ++ [r] := take_next hr
      have back : ∀ q ∈ R.take j, Ah Ls r q = false := fun q hq => by
        cases z : Ah Ls r q with
        | false => rfl
        | true =>
          have h1 := Ah.lt z hRm
          have h2 := (memT q hq).1
          omega
      refine ⟨T0, _, rfl, st_of upd_same, rfl, _, _, rfl, _, _, rfl, rfl, ?_⟩
      generalize hH4 : upd H' T0 (HO.tup [V.int (j : Nat), x2]) = H4
      have e4 : Ex H' H4 := by rw [← hH4]; exact eT0
      have eH4 := e'.trans e4
      have ah : ∀ q ∈ R.take j, Ah Ls q r = decide ((qs.idxOf q : Int) < (qs.idxOf r : Int)) := fun q hq => by
        have z1 : decide (R.idxOf q < R.idxOf r) = true := decide_eq_true (by rw [ej]; exact (memT q hq).1)
        show (decide (R.idxOf q < R.idxOf r) && (decide (qs.idxOf q < qs.idxOf r) && true)) = _
        rw [z1, Bool.and_true, Bool.true_and]
        exact decide_eq_decide.mpr (by omega)
      let f : Nat → Bool := fun i => Ah Ls (R.getD i []) r
      let v : Nat → V := fun i => .int ((lev (R.getD i []) + 1 : Nat) : Int)
      have rget : ∀ i, i < j → ∃ q, R[i]? = some q ∧ R.getD i [] = q ∧ (R.take j)[i]? = some q := fun i hi => by
        have h := List.getElem?_eq_getElem (l := R) (i := i) (by omega)
        exact ⟨_, h, by rw [List.getD_eq_getElem?_getD, h] <;> rfl, by rw [List.getElem?_take_of_lt hi]; exact h⟩
      have rq : r ∈ qs := pm.mem_iff.mpr (List.mem_of_getElem? hr)
      have hPo4 : H4 pd = some (.dT (dtab qs (plc qs))) := e4 _ _ hPo
      have comp := el_lcR1 (σ := [some (.ref a0), some (.ref b0), some (.ref kn), some (.ref pd), some (.int (j : Nat)), some x2, v6, none]) (H := H4) (ta := tCons (tVar 4) tNil) (j := 7) (vs := [7]) (n := (j : Int)) (t := tTest (tOp (rI0 fun i j => .bl (decide (i < j))) (tDGet (tVar 3) (tOp (rIxL K) (tVar 0) (tVar 7))) (tDGet (tVar 3) (tVar 5))))
        (te := tOp (rIxL K) (tVar 2) (tVar 7)) f v (ea_cons (ev_var rfl) ea_nil) ⟨by omega, by omega⟩ (fun _ => rfl)
        (fun i H5 e5 hi => by
          obtain ⟨q, g1, g2, g3⟩ := rget i (by omega)
          obtain ⟨xq, g4, g5⟩ := Paired.at_r hp0 i q g1
          show EvT _ _ _ (Ah Ls (R.getD i []) r)
          rw [g2, ah q (List.mem_of_getElem? g3)]
          exact et_I0 (ev_dget (ev_var rfl) (ev_ixL (i := (i : Int)) (ev_var rfl) (ev_var rfl) (sq_of ((eH4.trans e5) _ _ hs0)) (atI_nat g4)) (e5 _ _ hPo4) (g5.ex (eH4.trans e5)) (pm.mem_iff.mpr (List.mem_of_getElem? g1))) (ev_dget (ev_var rfl) (ev_var rfl) (e5 _ _ hPo4) (hrow.ex (eH4.trans e5)) rq))
        (fun i H5 e5 hi _ => by
          obtain ⟨q, g1, g2, g3⟩ := rget i (by omega)
          show Ev _ _ _ (V.int ((lev (R.getD i []) + 1 : Nat) : Int))
          rw [g2]
          refine ev_ixL (i := (i : Int)) (ev_var rfl) (ev_var rfl) (sq_of ((e4.trans e5) _ _ h1)) (atI_nat ?_)
          rw [List.getElem?_map, List.getElem?_map, g3] <;> rfl)
      rw [Int.toNat_natCast] at comp
      have eg : given j f v = (((R.take j).filter fun q => Ah Ls q r).map fun q => lev q + 1).map fun n : Nat => V.int (n : Int) := by
        have gen : ∀ m, m ≤ j → given m f v = (((R.take m).filter fun q => Ah Ls q r).map fun q => lev q + 1).map fun n : Nat => V.int (n : Int) := by
          intro m
          induction m with
          | zero => exact fun _ => rfl
          | succ m ih =>
            intro hm
            obtain ⟨q, g1, g2, _⟩ := rget m (by omega)
            have ihm := ih (by omega)
            cases hf : Ah Ls q r with
            | true =>
              rw [given_yes (f := f) (by show Ah Ls (R.getD m []) r = true; rw [g2]; exact hf), ihm, take_next g1, List.filter_append, List.map_append, List.map_append]
              show _ ++ [V.int ((lev (R.getD m []) + 1 : Nat) : Int)] = _
              rw [g2]
              simp [hf]
            | false =>
              rw [given_no (f := f) (by show Ah Ls (R.getD m []) r = false; rw [g2]; exact hf), ihm, take_next g1, List.filter_append, List.map_append, List.map_append]
              simp [hf]
        exact gen j (Nat.le_refl _)
      rw [eg] at comp
      obtain ⟨c, hc1, hc2⟩ := max_zero (((R.take j).filter fun q => Ah Ls q r).map fun q => lev q + 1)
      refine q_asgL (D := { nx := Ov (j + 1), rt := Q, ct := Ov (j + 1), bk := _ }) comp fun pa H5 hpa e5 h5 => ?_
      have mx := ev_max0 (K := K) (σ := [some (.ref a0), some (.ref b0), some (.ref kn), some (.ref pd), some (.int (j : Nat)), some x2, some (.ref pa), none]) (ta := tVar 6) (ev_var rfl) h5 (by
        rw [List.length_map]
        have := List.length_filter_le (fun q => Ah Ls q r) (R.take j)
        rw [List.length_take] at this
        omega) hc1 hc2
      refine s_app ((e4.trans e5) _ _ h1) (ev_var rfl) (ev_I0 ev_c mx) (by rw [List.length_map, List.length_map, List.length_take]; omega) fun H6 e6 => ?_
      have e46 := (e4.trans e5).trans e6
      have inn : ∃ o, Inner Ls (R.take j) (R.take j) lev r c o := by
        rcases hc1 with z | z
        · exact ⟨none, fun q hq _ ha => by
            have := hc2 (lev q + 1) (List.mem_map_of_mem (f := fun q => lev q + 1) (List.mem_filter.mpr ⟨hq, ha⟩))
            omega, .inl ⟨z, rfl⟩⟩
        · obtain ⟨q, hq, eq⟩ := List.mem_map.mp z
          obtain ⟨hq1, hq2⟩ := List.mem_filter.mp hq
          exact ⟨some q, fun q2 hq2 _ ha => by
            have := hc2 (lev q2 + 1) (List.mem_map_of_mem (f := fun q => lev q + 1) (List.mem_filter.mpr ⟨hq2, ha⟩))
            omega, .inr ⟨q, hq1, hq2, eq.symm, rfl⟩⟩
      obtain ⟨o, inn⟩ := inn
      have L := h2.snoc nr (irr r) back inn
      refine ⟨Ex.mut (e'.trans e46) hkn, ?_, nset lev r c, nset ahd r o, _, _, _, rfl, ?_, by rw [eTk]; exact L⟩
      · have ne1 : pd ≠ kn := fun z => by rw [z, h1] at hPo; cases hPo
        rw [upd_ne ne1]
        exact e46 _ _ hPo
      · rw [upd_same, eTk, List.map_append, List.map_append]
        congr 2
        congr 1
        · rw [List.map_map, List.map_map]
          refine List.map_congr_left fun q hq => ?_
          show V.int ((lev q + 1 : Nat) : Int) = V.int ((nset lev r c q + 1 : Nat) : Int)
          rw [nset_ne (fun (e : q = r) => nr (e ▸ hq))]
        · show [V.int (1 + (c : Int))] = [V.int ((nset lev r c r + 1 : Nat) : Int)]
          rw [nset_same]
          congr 2
          omega
    · rintro σ' H' ⟨e', hPo, lev, ahd, v4, v5, v6, rfl, h1, h2⟩
      rw [hlen0, List.take_length] at h1 h2
      obtain ⟨M, hM⟩ := exists_count R lev
      refine s_ret (ev_max0 (K := K) (m := M) (ev_var rfl) h1 (by rw [List.length_map]; omega) ?_ fun x hx => ?_) fun H2' e2' => k lev ahd M H2' h2 hM (e'.trans e2')
      · rcases Classical.em (R = []) with z | z
        · exact .inl (hM.nil z)
        · obtain ⟨r, hr, e⟩ := hM.hit z
          exact .inr (by rw [← e]; exact List.mem_map_of_mem (f := fun r => lev r + 1) hr)
      · obtain ⟨r, hr, e⟩ := List.mem_map.mp hx
        have := hM.lt r hr
        omega
end
end Mv
/-! check_moves. -/
namespace Mv
open PySem PySem.Spec PyProof.Rows L2 Evl
theorem led_from (o : Option (List (List Int))) (ms : List Move) (l : List (List Int)) (h : ms.foldl (fun o m => o.bind fun l => done l m.1 m.2) o = some l) : ∃ l', o = some l' := by
  cases o with
  | some l' => exact ⟨l', rfl⟩
  | none =>
    have : ∀ ms : List Move, ms.foldl (fun o m => o.bind fun l => done l m.1 m.2) (none : Option (List (List Int))) = none := by
      intro ms
      induction ms with
      | nil => rfl
      | cons m ms ih => exact ih
    rw [this] at h
    cases h
theorem led_take {rs l : List (List Int)} {ms : List Move} (h : led rs ms = some l) (i : Nat) : ∃ l', led rs (ms.take i) = some l' := by
  refine led_from _ (ms.drop i) l ?_
  unfold led
  rw [← List.foldl_append, List.take_append_drop]
  exact h
section
variable {P : Program} {w : World} {K : PySem.W.Frag} {mg : Str → Option Value} {base : Heap} {a : Nat → Addr} {d : Nat → FuncData} {tk : Nat → Tok}
theorem el_listS {σ : L2.St} {H : Hp} {ta : TE} {p : Addr} {xs : List V} (ha : Ev ta σ H (.ref p)) (h : Seq H p xs) : EvL (tCB (rListS K) (tCons ta tNil)) σ H xs := fun H1 e Q q =>
  ha H1 e _ fun H2 e2 => ⟨p, xs, rfl, (h.ex (e.trans e2)).sq, fun l hl => q l _ (fresh_back e2 hl) (e2.trans (Ex.new hl)) upd_same⟩
/-- two lists of the same rows, compared -/
theorem eq_rows {H : Hp} {p q : Addr} {xs ys : List V} {rs : List (List Int)} {Q : VK} (h1 : H p = some (.lst xs)) (h2 : Paired (IsRow H) xs rs) (h3 : H q = some (.lst ys)) (h4 : Paired (IsRow H) ys rs) (k : Q (.bl true) H) : rEqD K (.ref p) (.ref q) H Q := by
  refine ⟨.list (rs.map rd), .list (rs.map rd), .lst (sq_of h1) (dp_rows h2), .lst (sq_of h3) (dp_rows h4), shaped_rows _, shaped_rows _, ?_⟩
  rw [SeqAt.eqv_refl _ (SeqAt.canLay_of_shaped (shaped_rows rs))]
  exact k
end
end Mv
/-! Rules: t[::-1] of tuples, of lists or tuples; comprehensions over lists or tuples, over zip(xs, a new list); in of dicts. -/
namespace Mv
open PySem PySem.Spec PyProof.Rows L2 Evl HT
section
variable {prog : Program} {w : World} {A : Around} {E : Value → Shared → Prop} {s : Shared}
theorem pick_rev (xs : Array Value) : ((List.range xs.size).filterMap fun (m : Nat) => xs[(((xs.size : Int) - 1) + (m : Int) * (-1)).toNat]?).toArray = xs.toList.reverse.toArray := by
  congr 1
  refine List.ext_getElem? fun i => ?_
  have gen : ∀ l : List Nat, (∀ m ∈ l, m < xs.size) → (l.filterMap fun (m : Nat) => xs[(((xs.size : Int) - 1) + (m : Int) * (-1)).toNat]?) = l.map fun m => xs.toList.reverse.getD m Value.none := by
    intro l
    induction l with
    | nil => exact fun _ => rfl
    | cons m l ih =>
      intro hm
      have hm1 := hm m List.mem_cons_self
      have e1 : (((xs.size : Int) - 1) + (m : Int) * (-1)).toNat = xs.size - 1 - m := by omega
      have h2 : xs.size - 1 - m < xs.size := by omega
      have e2 : xs[(((xs.size : Int) - 1) + (m : Int) * (-1)).toNat]? = some (xs.toList.reverse.getD m Value.none) := by
        rw [e1, Array.getElem?_eq_getElem h2, List.getD_eq_getElem?_getD, List.getElem?_reverse (by simpa using hm1)]
        simp [h2]
      rw [List.filterMap_cons, List.map_cons, ih fun q hq => hm q (List.mem_cons_of_mem _ hq), e2]
  have e := gen (List.range xs.size) fun m hm => List.mem_range.mp hm
  rw [e, List.getElem?_map]
  by_cases h : i < xs.size
  · rw [List.getElem?_range h]
    show some (xs.toList.reverse.getD i Value.none) = _
    rw [List.getD_eq_getElem?_getD, List.getElem?_eq_getElem (by simpa using h)] <;> rfl
  · rw [List.getElem?_eq_none (by simpa using h), List.getElem?_eq_none (by simpa using h)] <;> rfl
theorem getItem_tuple_rev {t sl : Addr} {items : Array Value} {vl vu vs : Value} {Q : Value → Shared → Prop} (ht : IsTup s.heap t items) (hs : s.heap.IsSliceOf sl vl vu vs) (pl : IsPart vl none) (pu : IsPart vu none) (ps : IsPart vs (some (-1)))
    (h : Q (.ref s.heap.objs.size) { s with heap := s.heap.push { cls := .type "tuple", data := .seq items.toList.reverse.toArray } })
    (hsz : items.size ≤ sizeLine) : wpAny (model prog w) A (getItem (.ref t) (.ref sl)) Q E s := by
  have htake : sizeOk (.seq items.toList.reverse.toArray) := by
    show items.toList.reverse.toArray.size ≤ sizeLine
    rw [List.size_toArray, List.length_reverse, Array.length_toList]
    exact hsz
  obtain ⟨os, hos, hcs, hds⟩ := id hs
  have hTs : s.TypeIs (.ref sl) "slice" := ⟨os, hos, hcs⟩
  unfold getItem
  try with_reducible refine wpAny_holding ?_
  first | refine wpAny_bind (wpAny_pure ?_) | skip
  refine wpAny_bind (wpAny_sequenceKey ht.typeIs (by decide) ?_)
  refine wpAny_bind (wpAny_callSpecial?_slot (name := Str.ofString "__getitem__") ht.typeIs PyProof.Rows.slot_tuple_getitem
    (wpAny_call_entry PyProof.Rows.slot_tuple_getitem ht.typeIs entry_tuple_getitem ?_ (args_tuple_getitem _ _)))
  show wpAny _ _ (Builtin.Tuple.tupleItemsOf (.ref t) >>= _) _ _ s
  refine wpAny_bind (tupleItemsOf_ ht ?_)
  refine wpAny_bind (wpAny_typeOf hTs ?_)
  rw [if_pos (by decide)]
  have hadj : Builtin.Slice.sliceAdjust none none (-1) (items.size : Int) = ((items.size : Int) - 1, -1) := rfl
  have hpl : Builtin.Slice.slicePlaces ((items.size : Int) - 1) (-1) (-1) = items.size := by
    unfold Builtin.Slice.slicePlaces
    have h1 : ¬ ((-1 : Int) > 0) := by omega
    simp only [h1, if_false]
    by_cases h0 : ((items.size : Int) - 1) > -1
    · simp only [h0, if_true]
      show (((items.size : Int) - 1 - -1 - 1) / (- -1) + 1).toNat = _
      have : (- -1 : Int) = 1 := by decide
      rw [this, Int.ediv_one]
      omega
    · simp only [h0, if_false]
      show (0 : Int).toNat = _
      omega
  have happ : ∀ A' : Around, wpAny (model prog w) A' (Builtin.Slice.sliceApplied (.ref sl) (pure (items.size : Int))) (fun r s' => r = ((items.size : Int) - 1, (-1 : Int), items.size) ∧ s' = s) E s := by
    intro A'
    unfold Builtin.Slice.sliceApplied Builtin.Slice.sliceFields
    refine wpAny_bind (wpAny_bind (wpAny_field hos hds (x := vl) rfl (wpAny_bind (wpAny_field hos hds (x := vu) rfl (wpAny_bind (wpAny_field hos hds (x := vs) rfl (wpAny_pure ?_)))))))
    refine wpAny_bind (slicePart_ ps ?_)
    show wpAny _ _ (if ((-1 : Int) == 0) = true then _ else _) _ _ s
    rw [if_neg (by decide)]
    refine wpAny_bind (slicePart_ pl (wpAny_bind (slicePart_ pu (wpAny_bind (wpAny_pure ?_)))))
    show wpAny _ _ (match Builtin.Slice.sliceAdjust none none (-1) (items.size : Int) with | (lo, hi) => pure (lo, (-1 : Int), Builtin.Slice.slicePlaces lo hi (-1))) _ _ s
    rw [hadj]
    show wpAny _ _ (pure ((items.size : Int) - 1, (-1 : Int), Builtin.Slice.slicePlaces ((items.size : Int) - 1) (-1) (-1))) _ _ s
    rw [hpl]
    exact wpAny_pure ⟨rfl, rfl⟩
  refine wpAny_bind (wpAny_mono (happ _) ?_ fun _ _ x => x)
  rintro r s' ⟨rfl, rfl⟩
  have hno : ¬ ((((items.size : Int) - 1) == 0 && (-1 : Int) == 1 && items.size == items.size) = true) := by
    rw [show ((-1 : Int) == 1) = false from by decide, Bool.and_false, Bool.false_and]
    exact Bool.false_ne_true
  show wpAny _ _ (if ((((items.size : Int) - 1) == 0 && (-1 : Int) == 1 && items.size == items.size)) = true then _ else _) _ _ s'
  rw [if_neg hno, pick_rev]
  first
    | exact wpAny_bind (m := Builtin.Tuple.tupleExact _) (wpAny_newObj_type (wpAny_pure ⟨_, rfl, wpAny_pure h⟩) htake)
    | exact wpAny_bind (m := Builtin.Tuple.tupleExact _) (wpAny_newObj_type (wpAny_bind (wpAny_pure (wpAny_pure ⟨_, rfl, wpAny_pure h⟩))) htake)
end
section
variable {X : Cx}
def tRevT (K : PySem.W.Frag) (te : TE) : TE := fun σ H Q => te σ H fun x H1 => ∃ a xs, x = .ref a ∧ SqT K H1 a xs ∧ ∀ p, H1 p = none → Q (.ref p) (upd H1 p (.tup xs.reverse))
theorem pe_revT {e : Expr} {te : TE} {k : Nat} {p1 p2 p3 pos : Pos} (he : PE X e te) : PE X (.Subscript e (.Slice none none (some (.UnaryOp .USub (.Constant (.int 1) k p1) p2)) p3) pos) (tRevT X.K te) := by
  refine ⟨fun pins s σ H Q I h => ?_⟩
  refine Subscript_ (thn (he.run pins s σ H _ I h) fun v s1 ⟨x, H1, I1, r1, q1⟩ => ?_)
  obtain ⟨a, xs, ex, hx, q⟩ := q1
  subst ex
  cases r1
  have hst : PO X (some (.UnaryOp .USub (.Constant (.int 1) k p1) p2)) (tPart (tUn (rU fun i => .int (-i)) (tC (.int 1)))) := po_some (pe_un un_neg pe_int)
  refine wpAny_Slice (thn (po_none.run pins s1 σ H1 (fun o H2 => o = none ∧ H2 = H1) I1 ⟨rfl, rfl⟩) fun vl s2 ⟨l, H2, I2, pl, el, e2⟩ => ?_)
  subst el e2
  refine thn (po_none.run pins s2 σ H2 (fun o H3 => o = none ∧ H3 = H2) I2 ⟨rfl, rfl⟩) fun vu s3 ⟨u, H3, I3, pu, eu, e3⟩ => ?_
  subst eu e3
  refine thn (hst.run pins s3 σ H3 (fun o H4 => o = some (-1) ∧ H4 = H3) I3 ⟨1, rfl, -1, rfl, rfl, rfl⟩) fun vs s4 ⟨o, H4, I4, ps, eo, e4⟩ => ?_
  subst eo e4
  have I5 : Inv X pins σ H4 { s4 with heap := s4.heap.push { cls := .type "slice", data := .fields #[vl, vu, vs] } } := I4.kept (t' := s4.toks) fun b ob q => Heap.get?_push_of_some _ q
  obtain ⟨its, r, ht, hz⟩ := I5.tuple hx
  have hlen := r.length
  show wpAny (model X.prog X.w) X.A (subscriptTail e (.Slice none none (some (.UnaryOp .USub (.Constant (.int 1) k p1) p2)) p3) (.ref a) (.ref s4.heap.objs.size)) (EP X pins σ Q) X.xe { s4 with heap := s4.heap.push { cls := .type "slice", data := .fields #[vl, vu, vs] } }
  refine tail_any (ops := [.ref a, .ref s4.heap.objs.size]) ht.typeIs (PyProof.Rows.slot_tuple_getitem.lookup) ?_ (by with_unfolding_all rfl)
  refine getItem_tuple_rev ht (Heap.IsSliceOf.new _ vl vu vs) pl pu ps ?_ (by rw [List.size_toArray]; omega)
  refine ⟨.ref _, _, I5.laid (t' := s4.toks) (o := .tup xs.reverse) (fun b ob q => Heap.get?_push_of_some _ q) (Nat.le_refl _) ?_, rfl, q _ (I5.hok.fresh (Nat.le_refl _))⟩
  exact ⟨by rw [List.length_reverse]; exact hz, _, r.reverse, IsTup.new _ _⟩
/-- of a list or a tuple -/
def tRevS (K : PySem.W.Frag) (te : TE) : TE := fun σ H Q => tRevL K te σ H Q ∨ tRevT K te σ H Q
theorem pe_revS {e : Expr} {te : TE} {k : Nat} {p1 p2 p3 pos : Pos} (he : PE X e te) : PE X (.Subscript e (.Slice none none (some (.UnaryOp .USub (.Constant (.int 1) k p1) p2)) p3) pos) (tRevS X.K te) := pe_either (pe_revL he) (pe_revT he)
end
section
variable {K : PySem.W.Frag} {σ : L2.St} {H H' : Hp} {ta tb tc te tl tx : TE} {t u : TT} {x y z v : V} {D : Ends}
theorem es_rev {a : Addr} {xs : List V} (h : Ev te σ H (.ref a)) (hs : Seq H a xs) : EvF (tRevS K te) σ H (fun p H2 => Seq H2 p xs.reverse) := fun H1 e Q q => by
  rcases hs with hs | hs
  · exact .inl (h H1 e _ fun H2 e2 => ⟨a, xs, rfl, sq_of (e2 _ _ (e _ _ hs)), fun p hp => q p _ (fresh_back e2 hp) (e2.trans (Ex.new hp)) (.inl upd_same)⟩)
  · exact .inr (h H1 e _ fun H2 e2 => ⟨a, xs, rfl, st_of (e2 _ _ (e _ _ hs)), fun p hp => q p _ (fresh_back e2 hp) (e2.trans (Ex.new hp)) (.inr upd_same)⟩)
/-- over a list or a tuple: what comes out, item by item -/
theorem el_lcSo {a : Addr} {xs out : List V} {j : Nat} {vs : List Nat} (h : Ev tl σ H (.ref a)) (hx : Seq H a xs) (hz : xs.length ≤ 40000) (hl : xs.length = out.length) (hw : ∀ x, wipe ((wipe σ vs).set j (some x)) vs = wipe σ vs)
    (he : ∀ (i : Nat) (x y : V) H1, Ex H H1 → xs[i]? = some x → out[i]? = some y → Ev te ((wipe σ vs).set j (some x)) H1 y) : EvL (tLc (iSeq K tl) (gName j) tYes te vs) σ H out := by
  intro H0 e Q q
  rcases hx with hx | hx
  · exact .inl (el_lcR (K := K) h (sq_of hx) hz hl hw he H0 e Q q)
  · refine .inr (h H0 e _ fun H1 e1 => ⟨a, rfl, ⟨xs, ex_t (e.trans e1) (st_of hx)⟩, fun Dl hD =>
      lc_tup (xs := xs) (Cw H1 (fun _ => true) (fun i => out.getD i .non) Dl) ⟨hD, Ex.new hD, upd_same⟩ (fun i H' _ p => ex_t ((e.trans e1).trans p.2.1) (st_of hx)) (fun i x H' hi p => ⟨hw x, cw_turn p (by have := (List.getElem?_eq_some_iff.mp hi).1; omega) et_yes fun _ => ?_⟩) (fun H' p => ?_)⟩)
    · have hi2 : i < out.length := by rw [← hl]; exact (List.getElem?_eq_some_iff.mp hi).1
      refine he i x _ H1 (e.trans e1) hi ?_
      rw [List.getD_eq_getElem?_getD, List.getElem?_eq_getElem hi2] <;> rfl
    · have p3 := p.2.2
      rw [hl, given_all] at p3
      exact q Dl H' (fresh_back e1 p.1) (e1.trans p.2.1) p3
/-- over zip(xs, a new list) -/
theorem el_lcZ1 {p : Addr} {xs ys : List V} {j1 j2 n : Nat} {vs : List Nat} (f : Nat → Bool) (v : Nat → V) (ha : Ev ta σ H (.ref p)) (hb : EvL tb σ H ys) (hx : SqL K H p xs) (hl : n = min xs.length ys.length) (hz : n ≤ 40000) (hw : ∀ x y, wipe (((wipe σ vs).set j1 (some x)).set j2 (some y)) vs = wipe σ vs)
    (ht : ∀ (i : Nat) (x y : V) H1, Ex H H1 → xs[i]? = some x → ys[i]? = some y → EvT t (((wipe σ vs).set j1 (some x)).set j2 (some y)) H1 (f i)) (he : ∀ (i : Nat) (x y : V) H1, Ex H H1 → xs[i]? = some x → ys[i]? = some y → f i = true → Ev te (((wipe σ vs).set j1 (some x)).set j2 (some y)) H1 (v i)) :
    EvL (tLc (iZip K (tCons ta (tCons tb tNil))) (gTup K 2 (gCons (gName j1) (gCons (gName j2) gNil))) t te vs) σ H (given n f v) := fun H0 e Q k => ha H0 e _ fun Ha ea => hb Ha (e.trans ea) _ fun q H1 nq eb hq => ⟨p, q, xs, ys, rfl, ex_l ((e.trans ea).trans eb) hx, sq_of hq, fun Dl hD => by
  have e1 := ea.trans eb
  refine lc_it (walk_zip (K := K) (a := p) (b := q) (xs := xs) (ys := ys) (n := n) hl) (Cw H1 f v Dl) ⟨hD, Ex.new hD, upd_same⟩ (fun i H' _ pv => ⟨ex_l ((e.trans e1).trans pv.2.1) hx, sq_of (pv.2.1 _ _ hq)⟩) ?_ fun H' pv => k Dl H' (fresh_back e1 pv.1) (e1.trans pv.2.1) pv.2.2
  rintro i x H' H'' hi pv ⟨T0, x1, x2, rfl, hT, rfl, g1, g2⟩
  obtain ⟨p1, p2, p3⟩ := pv
  have eT : Ex H' (upd H' T0 (.tup [x1, x2])) := Ex.new hT
  exact ⟨T0, _, rfl, st_of upd_same, rfl, _, _, rfl, _, _, rfl, rfl, hw _ _, cw_turn ⟨p1, p2.trans eT, eT _ _ p3⟩ (by omega) (ht i x1 x2 H1 (e.trans e1) g1 g2) (fun hf => he i x1 x2 H1 (e.trans e1) g1 g2 hf)⟩⟩
theorem dget_opt {H : Hp} {p : Addr} {rs : List (List Int)} {f : List Int → V} {x : V} {r : List Int} (hp : H p = some (.dT (dtab rs f))) (hx : IsRow H x r) : DGet H p x (if r ∈ rs then some (f r) else none) := by
  obtain ⟨b, e1, e2⟩ := hx.key
  subst e1
  have h := DGet.t hp e2
  rw [dtab_val] at h
  exact h
theorem ev_din {p : Addr} {rs : List (List Int)} {f : List Int → V} {r : List Int} (ha : Ev ta σ H (.ref p)) (hb : Ev tb σ H x) (hp : H p = some (.dT (dtab rs f))) (hx : IsRow H x r) : Ev (tDIn tb ta) σ H (.bl (decide (r ∈ rs))) := fun H1 e Q q =>
  hb H1 e _ fun H2 e2 => ha H2 (e.trans e2) _ fun H3 e3 => by
    have e13 := (e.trans e2).trans e3
    refine ⟨p, _, rfl, dget_opt (e13 _ _ hp) (hx.ex e13), ?_⟩
    have z : (if r ∈ rs then some (f r) else none).isSome = decide (r ∈ rs) := by
      by_cases h : r ∈ rs
      · rw [if_pos h, decide_eq_true h] <;> rfl
      · rw [if_neg h, decide_eq_false h] <;> rfl
    rw [z]
    exact q H3 (e2.trans e3)
theorem et_dnin {p : Addr} {rs : List (List Int)} {f : List Int → V} {r : List Int} (ha : Ev ta σ H (.ref p)) (hb : Ev tb σ H x) (hp : H p = some (.dT (dtab rs f))) (hx : IsRow H x r) : Ev (tDNotIn tb ta) σ H (.bl (!decide (r ∈ rs))) := fun H1 e Q q =>
  hb H1 e _ fun H2 e2 => ha H2 (e.trans e2) _ fun H3 e3 => by
    have e13 := (e.trans e2).trans e3
    refine ⟨p, _, rfl, dget_opt (e13 _ _ hp) (hx.ex e13), ?_⟩
    have z : (if r ∈ rs then some (f r) else none).isSome = decide (r ∈ rs) := by
      by_cases h : r ∈ rs
      · rw [if_pos h, decide_eq_true h] <;> rfl
      · rw [if_neg h, decide_eq_false h] <;> rfl
    rw [z]
    exact q H3 (e2.trans e3)
theorem given_true (n : Nat) : given n (fun _ => true) (fun _ => V.bl true) = (List.replicate n V.non).map fun _ => V.bl true := by
  unfold given
  rw [filter_true, List.map_replicate, List.map_const', List.length_range]
end
end Mv
/-! Two fors in a comprehension: [row for rows in lists for row in rows]. -/
namespace Mv
open PySem PySem.Spec PyProof.Rows L2 Evl
theorem wipe_two (σ : L2.St) (j : Nat) : wipe (wipe σ [j]) [j] = wipe σ [j] := by
  show ((σ.set j none).set j none) = σ.set j none
  rw [List.set_set]
theorem upd_self {H : Hp} {a : Addr} {o : HO} (h : H a = some o) : upd H a o = H := by
  funext b
  by_cases e : b = a
  · subst e
    rw [upd_same, h]
  · rw [upd_ne e]
section
variable {K : PySem.W.Frag} {σ : L2.St} {H H' : Hp} {ta tb tc te tl tx : TE} {t u : TT} {x y z v : V} {D : Ends}
def OfSeq (H : Hp) (x : V) (zs : List V) : Prop := ∃ b, x = .ref b ∧ Seq H b zs
theorem OfSeq.ex {zs : List V} (h : OfSeq H x zs) (e : Ex H H') : OfSeq H' x zs := let ⟨b, h1, h2⟩ := h; ⟨b, h1, h2.ex e⟩
theorem el_flat {a : Addr} {xs : List V} {zss : List (List V)} {j j1 : Nat} {vs : List Nat} (h : Ev tl σ H (.ref a)) (hx : Seq H a xs) (hp : Paired (OfSeq H) xs zss) (hz : zss.flatten.length ≤ 40000)
    (hw : ∀ x, wipe ((wipe σ vs).set j (some x)) vs = wipe σ vs)
    (hw1 : ∀ x y, wipe ((wipe ((wipe σ vs).set j (some x)) [j1]).set j1 (some y)) [j1] = wipe ((wipe σ vs).set j (some x)) [j1])
    (hw2 : ∀ x, wipe (wipe ((wipe σ vs).set j (some x)) [j1]) vs = wipe σ vs)
    (hv : ∀ x, ((wipe σ vs).set j (some x))[j]? = some (some x)) (hv1 : ∀ x y, ((wipe ((wipe σ vs).set j (some x)) [j1]).set j1 (some y))[j1]? = some (some y)) :
    EvL (tLc2 (iSeq K tl) (gName j) tYes (iSeq K (tVar j)) (gName j1) tYes (tVar j1) vs [j1]) σ H zss.flatten := by
  intro H0 e0 Q k
  let Pv : Hp → Addr → Nat → Hp → Prop := fun H1 Dl i H' => H1 Dl = none ∧ Ex H1 H' ∧ H' Dl = some (.lst (zss.take i).flatten)
  have fin : ∀ H1, Ex H0 H1 → ∀ Dl H', Pv H1 Dl xs.length H' → Q (.ref Dl) H' := by
    rintro H1 e1 Dl H' ⟨p1, p2, p3⟩
    rw [Paired.length hp, List.take_length] at p3
    exact k Dl H' (fresh_back e1 p1) (e1.trans p2) p3
  have step : ∀ H1, Ex H H1 → ∀ Dl (i : Nat) (x : V) H', xs[i]? = some x → Pv H1 Dl i H' →
      iSeq K (tVar j) ((wipe σ vs).set j (some x)) H' fun J1 H4 => ∃ W1 : Nat → Nat → Hp → Prop, (∃ m, W1 0 m H4) ∧ ∀ j2 k2 H, W1 j2 k2 H →
        (J1.stop j2 H ∧ Pv H1 Dl (i + 1) H) ∨ (J1.go j2 H ∧ ∃ Nx1 : Hp → Prop, (∀ H', Nx1 H' → ∃ k', k' < k2 ∧ W1 (j2 + 1) k' H') ∧ ∀ y H', J1.yld j2 H y H' → gName j1 y (wipe ((wipe σ vs).set j (some x)) [j1]) H' fun σ3 H5 => wipe σ3 [j1] = wipe ((wipe σ vs).set j (some x)) [j1] ∧ tYes σ3 H5 fun b H6 =>
          if b = true then tVar j1 σ3 H6 fun y H7 => ∃ acc, H7 Dl = some (.lst acc) ∧ acc.length < sizeLine ∧ Nx1 (upd H7 Dl (.lst (acc ++ [y]))) else Nx1 H6) := by
    rintro H1 e1 Dl i x H' hi ⟨p1, p2, p3⟩
    obtain ⟨zs, hzs, b, rfl, hb⟩ := Paired.at_l hp i x hi
    have hb' : Seq H' b zs := hb.ex (e1.trans p2)
    have et : (zss.take (i + 1)).flatten = (zss.take i).flatten ++ zs := by
      rw [take_next hzs, List.flatten_append, List.flatten_cons, List.flatten_nil, List.append_nil]
    let Pw : Nat → Hp → Prop := fun n H'' => Ex H1 H'' ∧ H'' Dl = some (.lst ((zss.take i).flatten ++ zs.take n))
    have hsz : ∀ n, ((zss.take i).flatten ++ zs.take n).length < sizeLine := fun n => by
      have hle : ((zss.take i).flatten ++ zs).length ≤ 40000 := by
        rw [← et]
        have : zss.flatten = (zss.take (i + 1)).flatten ++ (zss.drop (i + 1)).flatten := by rw [← List.flatten_append, List.take_append_drop]
        have hh := congrArg List.length this
        rw [List.length_append] at hh
        omega
      rw [List.length_append] at hle ⊢
      have : (zs.take n).length ≤ zs.length := by rw [List.length_take]; omega
      exact sz_lt (by omega)
    have h0 : Pw 0 (upd H' Dl (.lst (zss.take i).flatten)) := by
      rw [upd_self p3]
      exact ⟨p2, by rw [List.take_zero, List.append_nil]; exact p3⟩
    have turn : ∀ (n : Nat) (y : V) (H'' : Hp), zs[n]? = some y → Pw n H'' → gName j1 y (wipe ((wipe σ vs).set j (some (V.ref b))) [j1]) H'' fun σ2 H2 => wipe σ2 [j1] = wipe ((wipe σ vs).set j (some (V.ref b))) [j1] ∧ tYes σ2 H2 fun b H3 =>
        if b = true then (fun (_ : Addr) σ3 H6 (Nx1 : Hp → Prop) => tVar j1 σ3 H6 fun y H7 => ∃ acc, H7 Dl = some (.lst acc) ∧ acc.length < sizeLine ∧ Nx1 (upd H7 Dl (.lst (acc ++ [y])))) Dl σ2 H3 (Pw (n + 1)) else Pw (n + 1) H3 := by
      rintro n y H'' hy ⟨q1, q2⟩
      refine ⟨hw1 _ _, yes_go ⟨y, hv1 _ _, _, q2, hsz n, Ex.mut q1 p1, ?_⟩⟩
      rw [upd_same, take_next hy, List.append_assoc]
    have done : ∀ H'', Pw zs.length H'' → Pv H1 Dl (i + 1) H'' := by
      rintro H'' ⟨q1, q2⟩
      rw [List.take_length] at q2
      exact ⟨p1, q1, by rw [et]; exact q2⟩
    have nb : b ≠ Dl := fun z => by
      rcases hb.ex e1 with g | g <;> · rw [z, p1] at g; cases g
    rcases hb' with hb' | hb'
    · refine .inl ⟨.ref b, hv _, b, rfl, ⟨zs, sq_of hb'⟩, ?_⟩
      have z := cm_it (walk_list (K := K) (a := b) (xs := zs)) (g := gName j1) (tt := tYes) (tk := fun (_ : Addr) σ3 H6 (Nx1 : Hp → Prop) => tVar j1 σ3 H6 fun y H7 => ∃ acc, H7 Dl = some (.lst acc) ∧ acc.length < sizeLine ∧ Nx1 (upd H7 Dl (.lst (acc ++ [y])))) (vs := [j1]) (σ := (wipe ((wipe σ vs).set j (some (V.ref b))) [j1])) (H1 := H') (D := Dl) (ob := .lst (zss.take i).flatten) (Qd := Pv H1 Dl (i + 1)) Pw h0
        (fun n H'' _ q => by
          rcases hb.ex (e1.trans q.1) with g | g
          · exact sq_of g
          · have g1 := (hb.ex e1)
            rcases g1 with g1 | g1
            · exact sq_of (q.1 _ _ g1)
            · have := p2 _ _ g1
              rw [hb'] at this
              cases this) ?_ done
      · rw [upd_self p3, show wipe (wipe ((wipe σ vs).set j (some (V.ref b))) [j1]) [j1] = wipe ((wipe σ vs).set j (some (V.ref b))) [j1] from wipe_two _ _] at z
        exact z
      · rintro n y H'' H3 hn q ⟨rfl, hy⟩
        rw [show wipe (wipe ((wipe σ vs).set j (some (V.ref b))) [j1]) [j1] = wipe ((wipe σ vs).set j (some (V.ref b))) [j1] from wipe_two _ _]
        exact turn n y _ hy q
    · refine .inr ⟨.ref b, hv _, b, rfl, ⟨zs, st_of hb'⟩, ?_⟩
      have z := cm_it (walk_tup (K := K) (a := b) (xs := zs)) (g := gName j1) (tt := tYes) (tk := fun (_ : Addr) σ3 H6 (Nx1 : Hp → Prop) => tVar j1 σ3 H6 fun y H7 => ∃ acc, H7 Dl = some (.lst acc) ∧ acc.length < sizeLine ∧ Nx1 (upd H7 Dl (.lst (acc ++ [y])))) (vs := [j1]) (σ := (wipe ((wipe σ vs).set j (some (V.ref b))) [j1])) (H1 := H') (D := Dl) (ob := .lst (zss.take i).flatten) (Qd := Pv H1 Dl (i + 1)) Pw h0
        (fun n H'' _ q => by
          have g1 := (hb.ex e1)
          rcases g1 with g1 | g1
          · have := p2 _ _ g1
            rw [hb'] at this
            cases this
          · exact st_of (q.1 _ _ g1)) ?_ done
      · rw [upd_self p3, show wipe (wipe ((wipe σ vs).set j (some (V.ref b))) [j1]) [j1] = wipe ((wipe σ vs).set j (some (V.ref b))) [j1] from wipe_two _ _] at z
        exact z
      · rintro n y H'' H3 hn q ⟨rfl, hy⟩
        rw [show wipe (wipe ((wipe σ vs).set j (some (V.ref b))) [j1]) [j1] = wipe ((wipe σ vs).set j (some (V.ref b))) [j1] from wipe_two _ _]
        exact turn n y _ hy q
  rcases hx with hx | hx
  · refine .inl (h H0 e0 _ fun H1 e1 => ⟨a, rfl, ⟨xs, ex_l (e0.trans e1) (sq_of hx)⟩, fun Dl hD => ?_⟩)
    refine cm_it (walk_list (K := K) (a := a) (xs := xs)) (tk := fun (D : Addr) σ2 H3 (Nx : Hp → Prop) => iSeq K (tVar j) σ2 H3 fun J1 H4 => ∃ W1 : Nat → Nat → Hp → Prop, (∃ m, W1 0 m H4) ∧ ∀ j2 k2 H, W1 j2 k2 H →
        (J1.stop j2 H ∧ Nx H) ∨ (J1.go j2 H ∧ ∃ Nx1 : Hp → Prop, (∀ H', Nx1 H' → ∃ k', k' < k2 ∧ W1 (j2 + 1) k' H') ∧ ∀ y H', J1.yld j2 H y H' → gName j1 y (wipe σ2 [j1]) H' fun σ3 H5 => wipe σ3 [j1] = wipe σ2 [j1] ∧ tYes σ3 H5 fun b H6 =>
          if b = true then tVar j1 σ3 H6 fun y H7 => ∃ acc, H7 D = some (.lst acc) ∧ acc.length < sizeLine ∧ Nx1 (upd H7 D (.lst (acc ++ [y]))) else Nx1 H6)) (Pv H1 Dl) ⟨hD, Ex.new hD, upd_same⟩ (fun i H' _ q => ex_l ((e0.trans e1).trans q.2.1) (sq_of hx)) (fun i x H' H'' hi pv y => ?_) fun H' pv => fin H1 e1 Dl H' pv
    obtain ⟨rfl, hm⟩ := y
    exact ⟨hw x, yes_go (step H1 (e0.trans e1) Dl i x _ hm pv)⟩
  · refine .inr (h H0 e0 _ fun H1 e1 => ⟨a, rfl, ⟨xs, ex_t (e0.trans e1) (st_of hx)⟩, fun Dl hD => ?_⟩)
    refine cm_it (walk_tup (K := K) (a := a) (xs := xs)) (tk := fun (D : Addr) σ2 H3 (Nx : Hp → Prop) => iSeq K (tVar j) σ2 H3 fun J1 H4 => ∃ W1 : Nat → Nat → Hp → Prop, (∃ m, W1 0 m H4) ∧ ∀ j2 k2 H, W1 j2 k2 H →
        (J1.stop j2 H ∧ Nx H) ∨ (J1.go j2 H ∧ ∃ Nx1 : Hp → Prop, (∀ H', Nx1 H' → ∃ k', k' < k2 ∧ W1 (j2 + 1) k' H') ∧ ∀ y H', J1.yld j2 H y H' → gName j1 y (wipe σ2 [j1]) H' fun σ3 H5 => wipe σ3 [j1] = wipe σ2 [j1] ∧ tYes σ3 H5 fun b H6 =>
          if b = true then tVar j1 σ3 H6 fun y H7 => ∃ acc, H7 D = some (.lst acc) ∧ acc.length < sizeLine ∧ Nx1 (upd H7 D (.lst (acc ++ [y]))) else Nx1 H6)) (Pv H1 Dl) ⟨hD, Ex.new hD, upd_same⟩ (fun i H' _ q => ex_t ((e0.trans e1).trans q.2.1) (st_of hx)) (fun i x H' H'' hi pv y => ?_) fun H' pv => fin H1 e1 Dl H' pv
    obtain ⟨rfl, hm⟩ := y
    exact ⟨hw x, yes_go (step H1 (e0.trans e1) Dl i x _ hm pv)⟩
end
end Mv
/-! rises_in, check_papers. -/
namespace Mv
open PySem PySem.Spec PyProof.Rows L2 Evl
/-- sorted(xs) == sorted(ys) of the same rows is true -/
theorem ev_sortedEqP {K : PySem.W.Frag} {σ : L2.St} {H : Hp} {ta tb : TE} {n : Nat} {rs qs : List (List Int)} (ha : EvP ta σ H (fun x H2 => Rws H2 x rs)) (hb : EvP tb σ H (fun x H2 => Rws H2 x qs)) (ho : ∀ r ∈ rs, OkRow n r) (hq : ∀ r ∈ qs, OkRow n r) (h60 : rs.length < 64) (h61 : qs.length < 64) (pm : qs.Perm rs) :
    Ev (tOp (rEqD K) (tCB (rSortS K n 1000) (tCons ta tNil)) (tCB (rSortS K n 1000) (tCons tb tNil))) σ H (.bl true) := fun H1 e Q q =>
  ef_sortedP ha ho h60 H1 e _ fun p H2 _ e2 ⟨cs, xs, h1, h2, h3⟩ =>
    ef_sortedP hb hq h61 H2 (e.trans e2) _ fun p' H3 _ e3 ⟨ds, ys, g1, g2, g3⟩ => by
      have e0 : cs = ds := sorted_same h1 g1 ho pm
      subst e0
      refine ⟨.list (cs.map rd), .list (cs.map rd), .lst (sq_of (e3 _ _ h2)) (dp_rows (Paired.imp (fun _ _ z => z.ex e3) h3)), .lst (sq_of g2) (dp_rows g3), shaped_rows _, shaped_rows _, ?_⟩
      rw [SeqAt.eqv_refl _ (SeqAt.canLay_of_shaped (shaped_rows cs))]
      exact q H3 (e2.trans e3)
/-- the rows cs rise in L -/
def Rise (L cs : List (List Int)) : Prop := cs.Pairwise fun q r => L.idxOf q < L.idxOf r
theorem Rise.next {L cs : List (List Int)} (h : Rise L cs) {i : Nat} {q r : List Int} (h1 : cs[i]? = some q) (h2 : cs[i + 1]? = some r) : L.idxOf q < L.idxOf r := by
  obtain ⟨a, rfl⟩ := List.getElem?_eq_some_iff.mp h1
  obtain ⟨b, rfl⟩ := List.getElem?_eq_some_iff.mp h2
  exact List.pairwise_iff_getElem.mp h i (i + 1) a b (Nat.lt_succ_self i)
section
variable {P : Program} {w : World} {K : PySem.W.Frag} {mg : Str → Option Value} {base : Heap} {a : Nat → Addr} {d : Nat → FuncData} {tk : Nat → Tok}
structure FallsOk (rs qs : List (List Int)) (Ls : List (List (List Int))) : Prop where
  ne : ∀ L ∈ Ls, L ≠ []
  up : ∀ L ∈ Ls, Rise rs L
  dn : ∀ L ∈ Ls, Rise qs L.reverse
  pm : Ls.flatten.Perm rs
theorem FallsOk.mem {rs qs : List (List Int)} {Ls : List (List (List Int))} (h : FallsOk rs qs Ls) {L : List (List Int)} (hL : L ∈ Ls) {r : List Int} (hr : r ∈ L) : r ∈ rs := h.pm.mem_iff.mp (List.mem_flatten.mpr ⟨L, hL, hr⟩)
theorem len_flat {α : Type} : ∀ {Ls : List (List α)} {L : List α}, L ∈ Ls → L.length ≤ Ls.flatten.length
  | [], _, h => absurd h (by simp)
  | A :: Ls, L, h => by
    rw [List.flatten_cons, List.length_append]
    rcases List.mem_cons.mp h with e | h
    · subst e; omega
    · have := len_flat h; omega
theorem FallsOk.len {rs qs : List (List Int)} {Ls : List (List (List Int))} (h : FallsOk rs qs Ls) {L : List (List Int)} (hL : L ∈ Ls) : L.length ≤ rs.length := by
  rw [← h.pm.length_eq]
  exact len_flat hL
theorem lss_flat {H : Hp} : ∀ {xs : List V} {Ls : List (List (List Int))}, Paired (Rws H) xs Ls → ∃ zss : List (List V), Paired (OfSeq H) xs zss ∧ Paired (IsRow H) zss.flatten Ls.flatten
  | _, _, .nil => ⟨[], .nil, .nil⟩
  | _, _, .cons ⟨b, zs, e, h, hp⟩ t => by
    obtain ⟨zss, h1, h2⟩ := lss_flat t
    exact ⟨zs :: zss, .cons ⟨b, e, h⟩ h1, by rw [List.flatten_cons, List.flatten_cons]; exact Paired.append hp h2⟩
theorem Rise.nodup {L cs : List (List Int)} (h : Rise L cs) : cs.Nodup := List.Pairwise.imp (fun h e => by rw [e] at h; exact Nat.lt_irrefl _ h) h
theorem sub_len {rs ds : List (List Int)} (nd : ds.Nodup) (h : ∀ r ∈ ds, r ∈ rs) : ds.length ≤ rs.length := nodup_len ds rs nd h
end
end Mv
/-! Moves and chains: the plain mathematics. -/
namespace Mv
open PySem PySem.Spec PyProof.Rows L2 Evl
abbrev Row := List Int
theorem Rise.append {L cs : List (List Int)} {r : List Int} (h : Rise L cs) (hr : ∀ q ∈ cs, L.idxOf q < L.idxOf r) : Rise L (cs ++ [r]) := by
  refine List.pairwise_append.mpr ⟨h, List.pairwise_singleton _ _, fun q hq z hz => ?_⟩
  rw [List.mem_singleton.mp hz]
  exact hr q hq
theorem Rise.self {L : List (List Int)} (nd : L.Nodup) : Rise L L := by
  refine List.pairwise_iff_getElem.mpr fun i j hi hj hij => ?_
  rw [idxOf_at nd (List.getElem?_eq_getElem hi), idxOf_at nd (List.getElem?_eq_getElem hj)]
  exact hij
theorem Rise.sub {L cs ds : List (List Int)} (h : Rise L cs) (s : ds.Sublist cs) : Rise L ds := List.Pairwise.sublist s h
theorem rise_eq {L cs ds : List (List Int)} (h1 : Rise L cs) (h2 : Rise L ds) (pm : cs.Perm ds) : cs = ds := by
  refine List.Perm.eq_of_pairwise (le := fun q r => L.idxOf q < L.idxOf r) (fun q r _ _ a b => absurd (Nat.lt_trans a b) (Nat.lt_irrefl _)) h1 h2 pm
theorem nodup_filter {l : List (List Int)} (f : List Int → Bool) (nd : l.Nodup) : (l.filter f).Nodup := nd.filter f
theorem perm_of_mem {a b : List (List Int)} (ha : a.Nodup) (hb : b.Nodup) (h : ∀ r, r ∈ a ↔ r ∈ b) : a.Perm b := (List.perm_ext_iff_of_nodup ha hb).mpr h
/-- the rows of a chain are what is left of the list -/
theorem rise_filter {L ds : List (List Int)} (nd : L.Nodup) (h : Rise L ds) (hd : ∀ r ∈ ds, r ∈ L) : L.filter (fun q => decide (q ∈ ds)) = ds := by
  refine rise_eq ((Rise.self nd).sub List.filter_sublist) h (perm_of_mem (nd.filter _) h.nodup fun r => ?_)
  rw [List.mem_filter]
  exact ⟨fun z => of_decide_eq_true z.2, fun z => ⟨hd r z, decide_eq_true z⟩⟩
theorem split_at {α : Type} {q : α} : ∀ {A B X Y : List α}, A ++ q :: B = X ++ q :: Y → q ∉ A → q ∉ X → A = X ∧ B = Y
  | [], B, [], Y, h, _, _ => ⟨rfl, by simpa using h⟩
  | [], B, x :: X, Y, h, _, hx => by
    rw [List.nil_append, List.cons_append, List.cons.injEq] at h
    exact absurd (h.1 ▸ List.mem_cons_self) hx
  | a :: A, B, [], Y, h, ha, _ => by
    rw [List.nil_append, List.cons_append, List.cons.injEq] at h
    exact absurd (h.1 ▸ List.mem_cons_self) ha
  | a :: A, B, x :: X, Y, h, ha, hx => by
    rw [List.cons_append, List.cons_append, List.cons.injEq] at h
    obtain ⟨e, h⟩ := h
    obtain ⟨z1, z2⟩ := split_at h (fun z => ha (List.mem_cons_of_mem _ z)) (fun z => hx (List.mem_cons_of_mem _ z))
    exact ⟨by rw [e, z1], z2⟩
def orR (F : Row → Bool) (r : Row) : Row → Bool := fun q => F q || decide (q = r)
theorem filter_or {F : Row → Bool} {r : Row} {l : List Row} (h : r ∉ l) : l.filter (orR F r) = l.filter F := by
  refine List.filter_congr fun q hq => ?_
  have : q ≠ r := fun e => h (e ▸ hq)
  simp [orR, this]
theorem drp_filter {F : Row → Bool} {r : Row} (rs : List Row) (h : F r = false) : (drp rs r).filter F = rs.filter F := by
  unfold drp
  rw [List.filter_filter]
  refine List.filter_congr fun q hq => ?_
  by_cases e : q = r
  · subst e; simp [h]
  · simp [e]
theorem drp_nin (rs : List Row) (r : Row) : r ∉ drp rs r := fun h => (drp_mem.mp h).2 rfl
/-- behind whom r comes -/
def beh (qs : List Row) (F : Row → Bool) (r : Row) : Option Row := ((qs.take (qs.idxOf r)).filter F).getLast?
theorem qs_split {qs : List Row} {r : Row} (hr : r ∈ qs) : qs = qs.take (qs.idxOf r) ++ r :: qs.drop (qs.idxOf r + 1) := by
  have hlt := List.idxOf_lt_length_iff.mpr hr
  have e : qs.drop (qs.idxOf r) = r :: qs.drop (qs.idxOf r + 1) := by
    rw [List.drop_eq_getElem_cons hlt, List.getElem_idxOf]
  rw [← e, List.take_append_drop]
theorem done_step {qs here : List Row} {F : Row → Bool} {r : Row} (nq : qs.Nodup) (pm : here.Perm qs) (hF : here.filter F = qs.filter F) (hr : r ∈ qs) (hf : F r = false) :
    ∃ l, done here r (beh qs F r) = some l ∧ l.filter (orR F r) = qs.filter (orR F r) := by
  have nh : here.Nodup := pm.nodup_iff.mpr nq
  have hq := qs_split hr
  generalize hA : qs.take (qs.idxOf r) = pre at hq
  generalize hB : qs.drop (qs.idxOf r + 1) = post at hq
  have nn := nq
  rw [hq] at nn
  have rpre : r ∉ pre := fun z => by
    have := (List.nodup_append.mp nn).2.2 r z r List.mem_cons_self
    exact this rfl
  have rpost : r ∉ post := fun z => (List.nodup_cons.mp (List.nodup_append.mp nn).2.1).1 z
  have fq : qs.filter F = pre.filter F ++ post.filter F := by
    rw [hq, List.filter_append, List.filter_cons, hf] <;> rfl
  have fq' : qs.filter (orR F r) = pre.filter F ++ r :: post.filter F := by
    have z : orR F r r = true := by simp [orR]
    rw [hq, List.filter_append, List.filter_cons, z, filter_or rpre, filter_or rpost] <;> rfl
  have hl : (drp here r).filter F = pre.filter F ++ post.filter F := by rw [drp_filter _ hf, hF, fq]
  have rl := drp_nin here r
  have memr : r ∈ here := pm.mem_iff.mpr hr
  have zr : orR F r r = true := by simp [orR]
  have eb : beh qs F r = (pre.filter F).getLast? := by unfold beh; rw [hA]
  rw [eb]
  cases hp : (pre.filter F).getLast? with
  | none =>
    have z : pre.filter F = [] := List.getLast?_eq_none_iff.mp hp
    refine ⟨_, done_eq ⟨memr, nofun, rfl⟩, ?_⟩
    show (List.take 0 (drp here r) ++ r :: List.drop 0 (drp here r)).filter (orR F r) = _
    rw [List.take_zero, List.drop_zero, List.nil_append, List.filter_cons, zr, filter_or rl, fq', hl, z] <;> rfl
  | some q =>
    obtain ⟨A, eA⟩ := List.getLast?_eq_some_iff.mp hp
    have fq1 : q ∈ pre.filter F := by rw [eA]; exact List.mem_append_right _ List.mem_cons_self
    have hqF : F q = true := (List.mem_filter.mp fq1).2
    have nqr : q ≠ r := fun e => by rw [e, hf] at hqF; cases hqF
    have ql : q ∈ (drp here r).filter F := by rw [hl]; exact List.mem_append_left _ fq1
    have ql' : q ∈ drp here r := (List.mem_filter.mp ql).1
    have qh : q ∈ here := (drp_mem.mp ql').1
    refine ⟨_, done_eq ⟨memr, fun e => nqr (Option.some.inj e), decide_eq_true qh⟩, ?_⟩
    have hs := qs_split ql'
    generalize hL : drp here r = left at hs hl rl ql'
    show (List.take (left.idxOf q + 1) left ++ r :: List.drop (left.idxOf q + 1) left).filter (orR F r) = _
    have nl : left.Nodup := by rw [← hL]; exact nh.filter _
    generalize hX : left.take (left.idxOf q) = X at hs
    generalize hY : left.drop (left.idxOf q + 1) = Y at hs
    have hlt := List.idxOf_lt_length_iff.mpr ql'
    have et : left.take (left.idxOf q + 1) = X ++ [q] := by
      rw [← hX]
      have := take_next (l := left) (by rw [List.getElem?_eq_getElem hlt, List.getElem_idxOf])
      exact this
    have fl : left.filter F = X.filter F ++ q :: Y.filter F := by
      conv => lhs; rw [hs]
      rw [List.filter_append, List.filter_cons, hqF] <;> rfl
    have nX : q ∉ X := fun z => by
      rw [hs] at nl
      exact (List.nodup_append.mp nl).2.2 q z q List.mem_cons_self rfl
    have nA : q ∉ A := fun z => by
      have n2 : (pre.filter F).Nodup := ((List.nodup_append.mp nn).1).filter _
      rw [eA] at n2
      exact (List.nodup_append.mp n2).2.2 q z q List.mem_cons_self rfl
    have e0 : A ++ q :: post.filter F = X.filter F ++ q :: Y.filter F := by
      rw [← fl, hl, eA, List.append_assoc] <;> rfl
    obtain ⟨eX, eY⟩ := split_at e0 nA fun z => nX (List.mem_filter.mp z).1
    have rX : r ∉ X ++ [q] := fun z => rl (by rw [← et] at z; exact List.mem_of_mem_take z)
    have rY : r ∉ Y := fun z => rl (by rw [← hY] at z; exact List.mem_of_mem_drop z)
    rw [et, List.filter_append, List.filter_cons, zr, filter_or rX, filter_or rY, fq', List.filter_append, ← eX, ← eY, eA]
    rw [List.filter_cons, hqF] <;> rfl
/-- the rows of F stand as in qs -/
def LedInv (rs qs : List Row) (F : Row → Bool) (ms : List Move) : Prop := ∃ here, led rs ms = some here ∧ here.filter F = qs.filter F
theorem LedInv.start {rs qs ds : List Row} (nr : rs.Nodup) (nq : qs.Nodup) (h1 : Rise rs ds) (h2 : Rise qs ds) (s1 : ∀ r ∈ ds, r ∈ rs) (s2 : ∀ r ∈ ds, r ∈ qs) : LedInv rs qs (fun q => decide (q ∈ ds)) [] :=
  ⟨rs, rfl, by rw [rise_filter nr h1 s1, rise_filter nq h2 s2]⟩
theorem LedInv.step {rs qs : List Row} {F : Row → Bool} {ms : List Move} {r : Row} (h : LedInv rs qs F ms) (nr : rs.Nodup) (pm : qs.Perm rs) (hr : r ∈ qs) (hf : F r = false) : LedInv rs qs (orR F r) (ms ++ [(r, beh qs F r)]) := by
  obtain ⟨here, h1, h2⟩ := h
  have ph := led_perm nr ms here h1
  obtain ⟨l, g1, g2⟩ := done_step (pm.nodup_iff.mpr nr) (ph.trans pm.symm) h2 hr hf
  exact ⟨l, by rw [led_snoc, h1]; exact g1, g2⟩
theorem LedInv.congr {rs qs : List Row} {F G : Row → Bool} {ms : List Move} (h : LedInv rs qs F ms) (nr : rs.Nodup) (pm : qs.Perm rs) (e : ∀ q ∈ qs, F q = G q) : LedInv rs qs G ms := by
  obtain ⟨here, h1, h2⟩ := h
  have ph := led_perm nr ms here h1
  refine ⟨here, h1, ?_⟩
  rw [← List.filter_congr (fun q hq => e q (pm.mem_iff.mpr (ph.mem_iff.mp hq))), h2]
  exact List.filter_congr e
theorem LedInv.end_ {rs qs : List Row} {F : Row → Bool} {ms : List Move} (h : LedInv rs qs F ms) (nr : rs.Nodup) (pm : qs.Perm rs) (e : ∀ q ∈ qs, F q = true) : led rs ms = some qs := by
  obtain ⟨here, h1, h2⟩ := h
  have ph := led_perm nr ms here h1
  rw [List.filter_eq_self.mpr e, List.filter_eq_self.mpr (fun q hq => e q (pm.mem_iff.mpr (ph.mem_iff.mp hq)))] at h2
  rw [h1, h2]
/-! chains -/
theorem ah_two {rs qs : List Row} {q r : Row} : Ah [rs, qs] q r = true ↔ rs.idxOf q < rs.idxOf r ∧ qs.idxOf q < qs.idxOf r := by
  unfold Ah
  simp
theorem chain_lev {rs qs R : List Row} {lev : Row → Nat} {ahd : Row → Option Row} (L : LevOn [rs, qs] R lev ahd) {ds : List Row} (h1 : Rise rs ds) (h2 : Rise qs ds) (hd : ∀ r ∈ ds, r ∈ R) : ∀ (i : Nat) (r : Row), ds[i]? = some r → i ≤ lev r
  | 0, _, _ => Nat.zero_le _
  | i + 1, r, hr => by
    obtain ⟨hi, _⟩ := List.getElem?_eq_some_iff.mp hr
    have hq := List.getElem?_eq_getElem (l := ds) (i := i) (by omega)
    have ih := chain_lev L h1 h2 hd i _ hq
    have a := L.lt r (hd r (List.mem_of_getElem? hr)) _ (hd _ (List.mem_of_getElem? hq)) (ah_two.mpr ⟨h1.next hq hr, h2.next hq hr⟩)
    omega
theorem chain_len {rs qs R : List Row} {lev : Row → Nat} {ahd : Row → Option Row} {M : Nat} (L : LevOn [rs, qs] R lev ahd) (hM : IsCount R lev M) {ds : List Row} (h1 : Rise rs ds) (h2 : Rise qs ds) (hd : ∀ r ∈ ds, r ∈ R) : ds.length ≤ M := by
  rcases Nat.eq_zero_or_pos ds.length with z | z
  · omega
  · have hl := List.getElem?_eq_getElem (l := ds) (i := ds.length - 1) (by omega)
    have a := chain_lev L h1 h2 hd _ _ hl
    have b := hM.lt _ (hd _ (List.mem_of_getElem? hl))
    omega
theorem chain_to {rs qs R : List Row} {lev : Row → Nat} {ahd : Row → Option Row} (L : LevOn [rs, qs] R lev ahd) : ∀ (k : Nat) (r : Row), r ∈ R → lev r = k → ∃ ds, Rise rs (ds ++ [r]) ∧ Rise qs (ds ++ [r]) ∧ (∀ q ∈ ds, q ∈ R) ∧ ds.length = k
  | 0, r, hr, _ => ⟨[], List.pairwise_singleton _ _, List.pairwise_singleton _ _, fun _ h => absurd h (by simp), rfl⟩
  | k + 1, r, hr, e => by
    rcases L.how r hr with ⟨z, _⟩ | ⟨q, hq, ha, el, _⟩
    · omega
    · obtain ⟨ds, g1, g2, g3, g4⟩ := chain_to L k q hq (by omega)
      obtain ⟨a1, a2⟩ := ah_two.mp ha
      have up : ∀ {Z : List Row}, Rise Z (ds ++ [q]) → Z.idxOf q < Z.idxOf r → ∀ z ∈ ds ++ [q], Z.idxOf z < Z.idxOf r := fun h hqr z hz => by
        rcases List.mem_append.mp hz with hz | hz
        · exact Nat.lt_trans ((List.pairwise_append.mp h).2.2 z hz q List.mem_cons_self) hqr
        · rw [List.mem_singleton.mp hz]; exact hqr
      refine ⟨ds ++ [q], g1.append (up g1 a1), g2.append (up g2 a2), fun z hz => ?_, by rw [List.length_append, g4] <;> rfl⟩
      rcases List.mem_append.mp hz with hz | hz
      · exact g3 z hz
      · rw [List.mem_singleton.mp hz]; exact hq
theorem chain_most {rs qs R : List Row} {lev : Row → Nat} {ahd : Row → Option Row} {M : Nat} (L : LevOn [rs, qs] R lev ahd) (hM : IsCount R lev M) : ∃ ds, Rise rs ds ∧ Rise qs ds ∧ (∀ q ∈ ds, q ∈ R) ∧ ds.length = M := by
  rcases Classical.em (R = []) with z | z
  · exact ⟨[], List.Pairwise.nil, List.Pairwise.nil, fun _ h => absurd h (by simp), (hM.nil z).symm⟩
  · obtain ⟨r, hr, e⟩ := hM.hit z
    obtain ⟨ds, g1, g2, g3, g4⟩ := chain_to L (lev r) r hr rfl
    refine ⟨ds ++ [r], g1, g2, fun q hq => ?_, by rw [List.length_append, g4, List.length_singleton]; omega⟩
    rcases List.mem_append.mp hq with hq | hq
    · exact g3 q hq
    · rw [List.mem_singleton.mp hq]; exact hr
/-! no fewer moves do -/
theorem done_keeps {rs l : List Row} {r : Row} {o : Option Row} {G : Row → Bool} (h : done rs r o = some l) (hg : G r = false) : l.filter G = rs.filter G := by
  by_cases c : r ∈ rs ∧ o ≠ some r ∧ inO rs o = true
  · rw [done_eq c] at h
    cases h
    rw [List.filter_append, List.filter_cons, hg, ← drp_filter rs hg]
    conv => rhs; rw [← List.take_append_drop (at' (drp rs r) o) (drp rs r)]
    rw [List.filter_append] <;> rfl
  · unfold done at h
    rw [if_neg c] at h
    cases h
theorem led_keeps {rs : List Row} {G : Row → Bool} : ∀ (ms : List Move) (o : Option (List Row)), (∀ l, o = some l → l.filter G = rs.filter G) → (∀ m ∈ ms, G m.1 = false) → ∀ l, ms.foldl (fun o m => o.bind fun l => done l m.1 m.2) o = some l → l.filter G = rs.filter G
  | [], o, h, _, l, e => h l e
  | m :: ms, o, h, hg, l, e => by
    refine led_keeps ms _ (fun l' e' => ?_) (fun m' hm' => hg m' (List.mem_cons_of_mem _ hm')) l e
    cases o with
    | none => cases e'
    | some l0 => exact (done_keeps e' (hg m List.mem_cons_self)).trans (h l0 rfl)
theorem filter_nin_len (rs ks : List Row) (nr : rs.Nodup) : rs.length ≤ (rs.filter fun q => !decide (q ∈ ks)).length + ks.length := by
  have h : (rs.filter fun q => decide (q ∈ ks)).length ≤ ks.length := nodup_len _ ks (nr.filter _) fun x hx => of_decide_eq_true (List.mem_filter.mp hx).2
  have g : ∀ l : List Row, l.length = (l.filter fun q => decide (q ∈ ks)).length + (l.filter fun q => !decide (q ∈ ks)).length := by
    intro l
    induction l with
    | nil => rfl
    | cons q l ih =>
      rw [List.filter_cons, List.filter_cons]
      by_cases hq : q ∈ ks
      · rw [decide_eq_true hq]
        simp only [if_true, Bool.not_true, Bool.false_eq_true, if_false, List.length_cons]
        omega
      · rw [decide_eq_false hq]
        simp only [if_true, Bool.not_false, Bool.false_eq_true, if_false, List.length_cons]
        omega
  have := g rs
  omega
theorem led_least {rs qs : List Row} {lev : Row → Nat} {ahd : Row → Option Row} {M : Nat} (nr : rs.Nodup) (pm : qs.Perm rs) (L : LevOn [rs, qs] rs lev ahd) (hM : IsCount rs lev M) {ms : List Move} (h : led rs ms = some qs) : rs.length ≤ M + ms.length := by
  let G : Row → Bool := fun q => !decide (q ∈ ms.map (·.1))
  have hg : ∀ m ∈ ms, G m.1 = false := fun m hm => by
    show (!decide (m.1 ∈ ms.map (·.1))) = false
    rw [decide_eq_true (List.mem_map_of_mem hm)] <;> rfl
  have e : qs.filter G = rs.filter G := led_keeps (rs := rs) ms (some rs) (fun l e => by cases e; rfl) hg qs h
  have r1 : Rise rs (rs.filter G) := (Rise.self nr).sub List.filter_sublist
  have r2 : Rise qs (rs.filter G) := by rw [← e]; exact (Rise.self (pm.nodup_iff.mpr nr)).sub List.filter_sublist
  have a := chain_len L hM r1 r2 fun r hr => (List.mem_filter.mp hr).1
  have b := filter_nin_len rs (ms.map (·.1)) nr
  rw [List.length_map] at b
  have c : (rs.filter G).length = (rs.filter fun q => !decide (q ∈ ms.map (·.1))).length := rfl
  omega
/-! the plan -/
theorem getLast_take {qs : List Row} {p : Nat} (hp : p ≤ qs.length) : (qs.take p).getLast? = if p = 0 then none else qs[p - 1]? := by
  rcases Nat.eq_zero_or_pos p with z | z
  · subst z; rfl
  · rw [if_neg (by omega), List.getLast?_eq_getElem?, List.length_take, Nat.min_eq_left hp, List.getElem?_take_of_lt (by omega)]
def planAt (qs ds : List Row) : Nat → List Move
  | 0 => []
  | p + 1 => planAt qs ds p ++ (match qs[p]? with | some r => if r ∈ ds then [] else [(r, if p = 0 then none else qs[p - 1]?)] | none => [])
theorem plan_inv {rs qs ds : List Row} (nr : rs.Nodup) (pm : qs.Perm rs) (h1 : Rise rs ds) (h2 : Rise qs ds) (s1 : ∀ r ∈ ds, r ∈ rs) : ∀ p, p ≤ qs.length → LedInv rs qs (fun q => decide (q ∈ ds) || decide (q ∈ qs.take p)) (planAt qs ds p) ∧ (planAt qs ds p).length + ((qs.take p).filter fun q => decide (q ∈ ds)).length = p
  | 0, _ => by
    refine ⟨(LedInv.start nr (pm.nodup_iff.mpr nr) h1 h2 s1 fun r hr => pm.mem_iff.mpr (s1 r hr)).congr nr pm fun q _ => by simp, rfl⟩
  | p + 1, hp => by
    obtain ⟨ih, il⟩ := plan_inv nr pm h1 h2 s1 p (by omega)
    have nq := pm.nodup_iff.mpr nr
    have hr := List.getElem?_eq_getElem (l := qs) (i := p) (by omega)
    generalize qs[p] = r at hr
    have et := take_next hr
    have rq := List.mem_of_getElem? hr
    have ir := idxOf_at nq hr
    show LedInv rs qs _ (planAt qs ds p ++ (match qs[p]? with | some r => if r ∈ ds then [] else [(r, if p = 0 then none else qs[p - 1]?)] | none => [])) ∧ _ = _
    rw [show planAt qs ds (p + 1) = planAt qs ds p ++ (match qs[p]? with | some r => if r ∈ ds then [] else [(r, if p = 0 then none else qs[p - 1]?)] | none => []) from rfl, hr, et]
    show LedInv rs qs _ (planAt qs ds p ++ (if r ∈ ds then [] else [(r, if p = 0 then none else qs[p - 1]?)])) ∧ (planAt qs ds p ++ (if r ∈ ds then [] else [(r, if p = 0 then none else qs[p - 1]?)])).length + _ = _
    rw [List.filter_append]
    by_cases hd : r ∈ ds
    · rw [if_pos hd, List.append_nil]
      refine ⟨ih.congr nr pm fun q _ => ?_, ?_⟩
      · by_cases e : q = r
        · subst e; simp [hd]
        · simp [e]
      · rw [List.filter_cons, decide_eq_true hd]
        simp only [if_true, List.filter_nil, List.length_append, List.length_singleton]
        omega
    · have nrp : r ∉ qs.take p := fun z => by
        obtain ⟨i, hi, ei⟩ := List.mem_iff_getElem.mp z
        rw [List.length_take] at hi
        rw [List.getElem_take] at ei
        have := idxOf_at nq (show qs[i]? = some r by rw [← ei]; exact List.getElem?_eq_getElem _)
        omega
      have hf : (decide (r ∈ ds) || decide (r ∈ qs.take p)) = false := by simp [hd, nrp]
      have z := ih.step nr pm rq hf
      have eb : beh qs (fun q => decide (q ∈ ds) || decide (q ∈ qs.take p)) r = if p = 0 then none else qs[p - 1]? := by
        unfold beh
        rw [ir, List.filter_eq_self.mpr fun q hq => by simp [hq], getLast_take (by omega)]
      rw [eb] at z
      rw [if_neg hd]
      refine ⟨z.congr nr pm fun q _ => ?_, ?_⟩
      · unfold orR
        by_cases e : q = r
        · subst e; simp
        · simp [e]
      · rw [List.filter_cons, decide_eq_false hd]
        simp only [Bool.false_eq_true, if_false, List.filter_nil, List.length_append, List.length_singleton, List.length_nil]
        omega
theorem plan_led {rs qs ds : List Row} (nr : rs.Nodup) (pm : qs.Perm rs) (h1 : Rise rs ds) (h2 : Rise qs ds) (s1 : ∀ r ∈ ds, r ∈ rs) : led rs (planAt qs ds qs.length) = some qs := by
  refine (plan_inv nr pm h1 h2 s1 qs.length (Nat.le_refl _)).1.end_ nr pm fun q hq => ?_
  rw [List.take_length]
  simp [hq]
theorem plan_len {rs qs ds : List Row} (nr : rs.Nodup) (pm : qs.Perm rs) (h1 : Rise rs ds) (h2 : Rise qs ds) (s1 : ∀ r ∈ ds, r ∈ rs) : (planAt qs ds qs.length).length + ds.length = rs.length := by
  have z := (plan_inv nr pm h1 h2 s1 qs.length (Nat.le_refl _)).2
  rw [List.take_length, rise_filter (pm.nodup_iff.mpr nr) h2 fun r hr => pm.mem_iff.mpr (s1 r hr)] at z
  rw [z, pm.length_eq]
end Mv
/-! Comprehensions of new tuples; plan_moves. -/
namespace Mv
open PySem PySem.Spec PyProof.Rows L2 Evl
/-- the tuples stay -/
def TupK (H H' : Hp) : Prop := ∀ a xs, H a = some (.tup xs) → H' a = some (.tup xs)
theorem Ex.tk {H H' : Hp} (e : Ex H H') : TupK H H' := fun a xs h => e a _ h
theorem TupK.trans {H H1 H2 : Hp} (a : TupK H H1) (b : TupK H1 H2) : TupK H H2 := fun x o h => b x o (a x o h)
theorem TupK.upd {H : Hp} {p : Addr} {o o' : HO} (h : H p = some o) (n : ∀ xs, o ≠ .tup xs) : TupK H (L2.upd H p o') := fun a xs ha => by
  have : a ≠ p := fun e => by rw [e, h] at ha; exact n xs (Option.some.inj ha)
  rw [upd_ne this]
  exact ha
theorem IsRow.tk {H H' : Hp} {x : V} {r : List Int} (h : IsRow H x r) (e : TupK H H') : IsRow H' x r := let ⟨b, h1, h2⟩ := h; ⟨b, h1, e _ _ h2⟩
theorem AhV.tk {H H' : Hp} {x : V} {o : Option (List Int)} (h : AhV H x o) (e : TupK H H') : AhV H' x o := by
  cases o with
  | none => exact h
  | some q => exact IsRow.tk h e
theorem IsMv.tk {H H' : Hp} {x : V} {r : List Int} {o : Option (List Int)} (h : IsMv H x r o) (e : TupK H H') : IsMv H' x r o := let ⟨a, vr, vo, h1, h2, h3, h4⟩ := h; ⟨a, vr, vo, h1, e _ _ h2, h3.tk e, h4.tk e⟩
section
variable {K : PySem.W.Frag} {σ : L2.St} {H H' : Hp} {ta tb tc te tl tx : TE} {t u tt : TT} {x y z v : V} {D : Ends}
/-- a comprehension over some walk, by the items' facts about tuples -/
theorem lc_items {J : It} {n : Nat} {G : Hp → Prop} {Y : Nat → Hp → V → Hp → Prop} (w : Walk J n G Y) {g : TG} {M : Type} (It : Hp → V → M → Prop) (stab : ∀ H H' y m, TupK H H' → It H y m → It H' y m) (ms : Nat → List M) (m0 : ms 0 = []) (hb : ∀ i, i ≤ n → (ms i).length ≤ 1000)
    {vs : List Nat} {H1 : Hp} {Dl : Addr} {Qd : Hp → Prop} (hD : H1 Dl = none) (hG : ∀ H', Ex H1 H' → G H')
    (turn : ∀ (i : Nat) (x : V) (H' H'' : Hp), i < n → Ex H1 H' → Y i H' x H'' → g x (wipe σ vs) H'' fun σ2 H2 => Ex H' H2 ∧ wipe σ2 vs = wipe σ vs ∧ ∃ b, EvT tt σ2 H2 b ∧ (b = false → ms (i + 1) = ms i) ∧ (b = true → ∃ m, ms (i + 1) = ms i ++ [m] ∧ ∀ H3, Ex H2 H3 → ∀ Q : VK, (∀ v H4, Ex H3 H4 → It H4 v m → Q v H4) → te σ2 H3 Q))
    (gm : ∀ (x : V) (H'' : Hp) (P P' : L2.St → Hp → Prop), (∀ σ2 H2, P σ2 H2 → P' σ2 H2) → g x (wipe σ vs) H'' P → g x (wipe σ vs) H'' P')
    (hd : ∀ H' ys, Ex H1 H' → H' Dl = some (.lst ys) → Paired (It H') ys (ms n) → Qd H') :
    ∃ W : Nat → Nat → Hp → Prop, (∃ m, W 0 m (upd H1 Dl (.lst []))) ∧ ∀ i m H, W i m H →
      (J.stop i H ∧ Qd H) ∨ (J.go i H ∧ ∃ Nx : Hp → Prop, (∀ H', Nx H' → ∃ m', m' < m ∧ W (i + 1) m' H') ∧ ∀ x H', J.yld i H x H' → g x (wipe σ vs) H' fun σ2 H2 => wipe σ2 vs = wipe σ vs ∧ tt σ2 H2 fun b H3 =>
        if b = true then te σ2 H3 fun y H4 => ∃ acc, H4 Dl = some (.lst acc) ∧ acc.length < sizeLine ∧ Nx (upd H4 Dl (.lst (acc ++ [y]))) else Nx H3) := by
  refine lc_it w (fun i H' => Ex H1 H' ∧ ∃ ys, H' Dl = some (.lst ys) ∧ Paired (It H') ys (ms i)) ⟨Ex.new hD, [], upd_same, by rw [m0]; exact .nil⟩ (fun i H' _ q => hG H' q.1) ?_ fun H' ⟨e, ys, h1, h2⟩ => hd H' ys e h1 h2
  rintro i x H' H'' hi ⟨e, ys, h1, h2⟩ y
  refine gm x H'' _ _ ?_ (turn i x H' H'' hi e y)
  rintro σ2 H2 ⟨e2, hw, b, ht, f0, f1⟩
  refine ⟨hw, ht H2 (Ex.refl _) _ fun H3 e3 => ?_⟩
  have e23 := e2.trans e3
  cases b with
  | false =>
    show Ex H1 H3 ∧ _
    rw [f0 rfl]
    exact ⟨e.trans e23, ys, e23 _ _ h1, Paired.imp (fun _ _ z => stab _ _ _ _ (Ex.tk e23) z) h2⟩
  | true =>
    obtain ⟨m, em, hte⟩ := f1 rfl
    show te σ2 H3 _
    refine hte H3 e3 _ fun v H4 e4 hv => ?_
    have e24 := e23.trans e4
    have hl : ys.length = (ms i).length := Paired.length h2
    have k1 : H4 Dl = some (.lst ys) := e24 _ _ h1
    have tk : TupK H4 (upd H4 Dl (.lst (ys ++ [v]))) := TupK.upd k1 fun xs z => by cases z
    refine ⟨ys, k1, Nat.lt_of_le_of_lt (by rw [hl]; exact hb i (by omega)) (show 1000 < sizeLine by decide), Ex.mut (e.trans e24) hD, _, upd_same, ?_⟩
    rw [em]
    exact Paired.append (Paired.imp (fun _ _ z => stab _ _ _ _ ((Ex.tk e24).trans tk) z) h2) (.cons (stab _ _ _ _ tk hv) .nil)
theorem ef_enumS {M : Type} (It : Hp → V → M → Prop) (stab : ∀ H H' y m, TupK H H' → It H y m → It H' y m) (ms : Nat → List M) (m0 : ms 0 = []) {a : Addr} {xs : List V} {j1 j2 : Nat} {vs : List Nat} (hb : ∀ i, i ≤ xs.length → (ms i).length ≤ 1000)
    (h : Ev tl σ H (.ref a)) (hx : Seq H a xs) (hw : ∀ x y, wipe (((wipe σ vs).set j1 (some x)).set j2 (some y)) vs = wipe σ vs)
    (turn : ∀ (i : Nat) (y : V) (H2 : Hp), xs[i]? = some y → Ex H H2 → ∃ b, EvT tt (((wipe σ vs).set j1 (some (.int (i : Nat)))).set j2 (some y)) H2 b ∧ (b = false → ms (i + 1) = ms i) ∧ (b = true → ∃ m, ms (i + 1) = ms i ++ [m] ∧ ∀ H3, Ex H2 H3 → ∀ Q : VK, (∀ v H4, Ex H3 H4 → It H4 v m → Q v H4) → te (((wipe σ vs).set j1 (some (.int (i : Nat)))).set j2 (some y)) H3 Q)) :
    EvF (tLc (iEnumS K (tCons tl tNil)) (gTup K 2 (gCons (gName j1) (gCons (gName j2) gNil))) tt te vs) σ H (fun p H2 => ∃ ys, H2 p = some (.lst ys) ∧ Paired (It H2) ys (ms xs.length)) := by
  intro H0 e0 Q k
  have step : ∀ (H1 : Hp), Ex H H1 → ∀ (i : Nat) (x : V) (H' H'' : Hp), i < xs.length → Ex H1 H' → YPair (fun i => some (.int (i : Nat))) (fun i => xs[i]?) i H' x H'' →
      gTup K 2 (gCons (gName j1) (gCons (gName j2) gNil)) x (wipe σ vs) H'' fun σ2 H2 => Ex H' H2 ∧ wipe σ2 vs = wipe σ vs ∧ ∃ b, EvT tt σ2 H2 b ∧ (b = false → ms (i + 1) = ms i) ∧ (b = true → ∃ m, ms (i + 1) = ms i ++ [m] ∧ ∀ H3, Ex H2 H3 → ∀ Q : VK, (∀ v H4, Ex H3 H4 → It H4 v m → Q v H4) → te σ2 H3 Q) := by
    rintro H1 e1 i x H' H'' hi e' ⟨T, x1, x2, rfl, hT, rfl, g1, g2⟩
    cases g1
    have eT : Ex H' (upd H' T (.tup [.int (i : Nat), x2])) := Ex.new hT
    exact ⟨T, _, rfl, st_of upd_same, rfl, _, _, rfl, _, _, rfl, rfl, eT, hw _ _, turn i x2 _ g2 ((e1.trans e').trans eT)⟩
  have gm : ∀ (x : V) (H'' : Hp) (P P' : L2.St → Hp → Prop), (∀ σ2 H2, P σ2 H2 → P' σ2 H2) → gTup K 2 (gCons (gName j1) (gCons (gName j2) gNil)) x (wipe σ vs) H'' P → gTup K 2 (gCons (gName j1) (gCons (gName j2) gNil)) x (wipe σ vs) H'' P' := by
    rintro x H'' P P' f ⟨T, xs, h1, h2, h3, h4⟩
    obtain ⟨x1, r1, e1, x2, r2, e2, e3, h⟩ := h4
    exact ⟨T, xs, h1, h2, h3, x1, r1, e1, x2, r2, e2, e3, f _ _ h⟩
  rcases hx with hx | hx
  · refine .inl (h H0 e0 _ fun H1 e1 => ⟨a, xs, rfl, sq_of ((e0.trans e1) _ _ hx), fun Dl hD => ?_⟩)
    exact lc_items (walk_enum (K := K) (a := a) (xs := xs)) It stab ms m0 hb hD (fun H' e => sq_of ((e0.trans (e1.trans e)) _ _ hx)) (step H1 (e0.trans e1)) gm fun H' ys e g1 g2 => k Dl H' (fresh_back e1 hD) (e1.trans e) ⟨ys, g1, g2⟩
  · refine .inr (h H0 e0 _ fun H1 e1 => ⟨a, xs, rfl, st_of ((e0.trans e1) _ _ hx), fun Dl hD => ?_⟩)
    exact lc_items (walk_enumU (K := K) (a := a) (xs := xs)) It stab ms m0 hb hD (fun H' e => st_of ((e0.trans (e1.trans e)) _ _ hx)) (step H1 (e0.trans e1)) gm fun H' ys e g1 g2 => k Dl H' (fresh_back e1 hD) (e1.trans e) ⟨ys, g1, g2⟩
/-- over a list or a tuple -/
theorem ef_itemsS {M : Type} (It : Hp → V → M → Prop) (stab : ∀ H H' y m, TupK H H' → It H y m → It H' y m) (ms : Nat → List M) (m0 : ms 0 = []) {a : Addr} {xs : List V} {j : Nat} {vs : List Nat} (hb : ∀ i, i ≤ xs.length → (ms i).length ≤ 1000)
    (h : Ev tl σ H (.ref a)) (hx : Seq H a xs) (hw : ∀ x, wipe ((wipe σ vs).set j (some x)) vs = wipe σ vs)
    (turn : ∀ (i : Nat) (y : V) (H2 : Hp), xs[i]? = some y → Ex H H2 → ∃ b, EvT tt ((wipe σ vs).set j (some y)) H2 b ∧ (b = false → ms (i + 1) = ms i) ∧ (b = true → ∃ m, ms (i + 1) = ms i ++ [m] ∧ ∀ H3, Ex H2 H3 → ∀ Q : VK, (∀ v H4, Ex H3 H4 → It H4 v m → Q v H4) → te ((wipe σ vs).set j (some y)) H3 Q)) :
    EvF (tLc (iSeq K tl) (gName j) tt te vs) σ H (fun p H2 => ∃ ys, H2 p = some (.lst ys) ∧ Paired (It H2) ys (ms xs.length)) := by
  intro H0 e0 Q k
  have gm : ∀ (x : V) (H'' : Hp) (P P' : L2.St → Hp → Prop), (∀ σ2 H2, P σ2 H2 → P' σ2 H2) → gName j x (wipe σ vs) H'' P → gName j x (wipe σ vs) H'' P' := fun x H'' P P' f h => f _ _ h
  rcases hx with hx | hx
  · refine .inl (h H0 e0 _ fun H1 e1 => ⟨a, rfl, ⟨xs, sq_of ((e0.trans e1) _ _ hx)⟩, fun Dl hD => ?_⟩)
    refine lc_items (walk_list (K := K) (a := a) (xs := xs)) It stab ms m0 hb hD (fun H' e => sq_of ((e0.trans (e1.trans e)) _ _ hx)) ?_ gm fun H' ys e g1 g2 => k Dl H' (fresh_back e1 hD) (e1.trans e) ⟨ys, g1, g2⟩
    rintro i x H' H'' hi e' ⟨rfl, hm⟩
    exact ⟨Ex.refl _, hw _, turn i x _ hm ((e0.trans e1).trans e')⟩
  · refine .inr (h H0 e0 _ fun H1 e1 => ⟨a, rfl, ⟨xs, st_of ((e0.trans e1) _ _ hx)⟩, fun Dl hD => ?_⟩)
    refine lc_items (walk_tup (K := K) (a := a) (xs := xs)) It stab ms m0 hb hD (fun H' e => st_of ((e0.trans (e1.trans e)) _ _ hx)) ?_ gm fun H' ys e g1 g2 => k Dl H' (fresh_back e1 hD) (e1.trans e) ⟨ys, g1, g2⟩
    rintro i x H' H'' hi e' ⟨rfl, hm⟩
    exact ⟨Ex.refl _, hw _, turn i x _ hm ((e0.trans e1).trans e')⟩
theorem ea_starS {t : TA} {a : Addr} {xs vs : List V} (h : Ev te σ H (.ref a)) (hx : Seq H a xs) (hr : EvA t σ H vs) : EvA (StX.tStar K te t) σ H (xs ++ vs) := fun H1 e Q q => h H1 e _ fun H2 e2 => ⟨a, xs, rfl, (hx.ex (e.trans e2)).sq.symm, hr H2 (e.trans e2) _ fun H3 e3 => q H3 (e2.trans e3)⟩
end
theorem planAt_ok {n : Nat} {rs qs ds : List Row} (ho : OkRows n qs) : ∀ p, ∀ m ∈ planAt qs ds p, OkMv n m
  | 0, m, h => absurd h (by simp [planAt])
  | p + 1, m, h => by
    rcases List.mem_append.mp (show m ∈ planAt qs ds p ++ _ from h) with h | h
    · exact planAt_ok (rs := rs) ho p m h
    · cases hr : qs[p]? with
      | none => rw [hr] at h; cases h
      | some r =>
        rw [hr] at h
        have h : m ∈ (if r ∈ ds then [] else [(r, if p = 0 then none else qs[p - 1]?)] : List Move) := h
        by_cases hd : r ∈ ds
        · rw [if_pos hd] at h; cases h
        · rw [if_neg hd] at h
          rw [List.mem_singleton.mp h]
          refine ⟨ho.w1, ho.w5, ho.row r (List.mem_of_getElem? hr), fun q hq => ?_⟩
          have hq : (if p = 0 then none else qs[p - 1]?) = some q := hq
          by_cases h0 : p = 0
          · rw [if_pos h0] at hq; cases hq
          · rw [if_neg h0] at hq
            exact ho.row q (List.mem_of_getElem? hq)
theorem planAt_len {qs ds : List Row} : ∀ p, (planAt qs ds p).length ≤ p
  | 0 => Nat.le_refl _
  | p + 1 => by
    have ih := planAt_len (qs := qs) (ds := ds) p
    show (planAt qs ds p ++ _).length ≤ _
    rw [List.length_append]
    cases hr : qs[p]? with
    | none => show _ + 0 ≤ _; omega
    | some r =>
      show _ + (if r ∈ ds then [] else [(r, if p = 0 then none else qs[p - 1]?)] : List Move).length ≤ _
      by_cases hd : r ∈ ds
      · rw [if_pos hd]; show _ + 0 ≤ _; omega
      · rw [if_neg hd]; show _ + 1 ≤ _; omega
section
variable {P : Program} {w : World} {K : PySem.W.Frag} {mg : Str → Option Value} {base : Heap} {a : Nat → Addr} {d : Nat → FuncData} {tk : Nat → Tok}
/-- moves that lead from rs to qs, as few as possible -/
def PlanRes (n : Nat) (rs qs : List Row) (p : Addr) (H2 : Hp) : Prop := ∃ (ys : List V) (ms : List Move) (lev : Row → Nat) (ahd : Row → Option Row) (M : Nat), H2 p = some (.lst ys) ∧ MvAll H2 ys ms ∧ (∀ m ∈ ms, OkMv n m) ∧ led rs ms = some qs ∧ LevOn [rs, qs] rs lev ahd ∧ IsCount rs lev M ∧ ms.length + M = rs.length ∧ (ms.map (·.1)).Nodup
theorem chn_rise {rs qs : List Row} (h : ∀ {ds : List Row}, Chn [rs, qs] ds → True) : True := trivial
theorem chn_head {Ls : List (List Row)} {L : List Row} (hL : L ∈ Ls) : ∀ {q : Row} {ds : List Row}, Chn Ls (q :: ds) → ∀ r ∈ ds, L.idxOf q < L.idxOf r
  | q, [], _, r, hr => absurd hr (by simp)
  | q, s :: ds, ⟨h1, h2⟩, r, hr => by
    have a := Ah.lt h1 hL
    rcases List.mem_cons.mp hr with e | hr
    · subst e; exact a
    · have := chn_head hL h2 r hr
      omega
theorem Chn.rise {Ls : List (List Row)} {L : List Row} (hL : L ∈ Ls) : ∀ {ds : List Row}, Chn Ls ds → Rise L ds
  | [], _ => List.Pairwise.nil
  | [q], _ => List.pairwise_singleton _ _
  | q :: r :: ds, h => List.Pairwise.cons (chn_head hL h) (Chn.rise hL h.2)
theorem planAt_nodup {qs ds : List Row} (nq : qs.Nodup) : ∀ p, p ≤ qs.length → ((planAt qs ds p).map (·.1)).Nodup ∧ ∀ m ∈ planAt qs ds p, m.1 ∈ qs.take p ∧ m.1 ∉ ds
  | 0, _ => ⟨List.Pairwise.nil, fun m h => absurd h (by simp [planAt])⟩
  | p + 1, hp => by
    obtain ⟨ih, im⟩ := planAt_nodup (ds := ds) nq p (by omega)
    have hr := List.getElem?_eq_getElem (l := qs) (i := p) (by omega)
    generalize qs[p] = r at hr
    have et := take_next hr
    have nrp : r ∉ qs.take p := fun z => by
      obtain ⟨i, hi, ei⟩ := List.mem_iff_getElem.mp z
      rw [List.length_take] at hi
      rw [List.getElem_take] at ei
      have := idxOf_at nq (show qs[i]? = some r by rw [← ei]; exact List.getElem?_eq_getElem _)
      have := idxOf_at nq hr
      omega
    have e1 : planAt qs ds (p + 1) = planAt qs ds p ++ (if r ∈ ds then [] else [(r, if p = 0 then none else qs[p - 1]?)]) := by
      show planAt qs ds p ++ (match qs[p]? with | some r => if r ∈ ds then [] else [(r, if p = 0 then none else qs[p - 1]?)] | none => []) = _
      rw [hr]
    rw [e1, et]
    by_cases hd : r ∈ ds
    · rw [if_pos hd, List.append_nil]
      exact ⟨ih, fun m hm => ⟨List.mem_append_left _ (im m hm).1, (im m hm).2⟩⟩
    · rw [if_neg hd]
      refine ⟨?_, fun m hm => ?_⟩
      · rw [List.map_append]
        refine List.nodup_append.mpr ⟨ih, List.pairwise_singleton _ _, fun q hq s hs => ?_⟩
        obtain ⟨m, hm, rfl⟩ := List.mem_map.mp hq
        rw [List.mem_singleton.mp hs]
        intro e
        have z := (im m hm).1
        rw [show m.1 = r from e] at z
        exact nrp z
      · rcases List.mem_append.mp hm with hm | hm
        · exact ⟨List.mem_append_left _ (im m hm).1, (im m hm).2⟩
        · rw [List.mem_singleton.mp hm]
          exact ⟨List.mem_append_right _ List.mem_cons_self, hd⟩
def sp_plan_moves : Sp := fun vs H Q _ => ∃ (x y : V) (rs qs : List Row) (n : Nat), vs = [x, y] ∧ Rws H x rs ∧ Rws H y qs ∧ OkRows n rs ∧ qs.Perm rs ∧ ∀ p H2, H p = none → Ex H H2 → PlanRes n rs qs p H2 → Q (.ref p) H2
theorem ok_plan_moves (T : All K mg a d tk) : FnOk P w K mg base CX0 7 (a 14) (d 14) ["one", "other"] sp_plan_moves := by
  refine T.F_plan_moves.fn.ok sc_plan_moves (fun vs H Q E h => ?_) (fun cdv A outer s H vs Q E hr h => ?_)
  · obtain ⟨x, y, rs, qs, n, rfl, _⟩ := h
    rfl
  · obtain ⟨x, y, rs, qs, n, rfl, hx, hy, ho, pm, k⟩ := h
    have nd := sc_plan_moves.nd
    have hu := hu_of hr
    have hu0 := hr.units0
    have oq := ho.perm pm
    have h60 := ho.few
    refine ⟨_, (pss_cons (ps_expr (pe_call (ok_need_pair T) (hr.mono (by decide)) rfl T.F_need_pair.m T.F_need_pair.kp T.F_need_pair.b .nil pass0 (pa_cons (pv 0) (pa_cons (pv 1) pa_nil))))
 (pss_cons (ps_set (i := 2) nd rfl (Or.inr rfl) (pe_dcT (own := [("row", 4)]) (g := (gName 4)) hu0 rfl nd (pi_list (pe_call (ok_longest_of T) (hr.mono (by decide)) rfl T.F_longest_of.m T.F_longest_of.kp T.F_longest_of.b .nil pass0 (pa_cons (pv 0) (pa_cons (pv 1) pa_nil)))) (blkOk_by (N := N_plan_moves) (sc := defScope s_plan_moves) (by decide +kernel)) (fun _ _ _ _ _ => (pg_name (i := 4) nd rfl (Or.inl rfl))) (fun _ _ _ _ _ => pts_nil) (fun _ _ _ _ _ => (pv 4)) (fun _ _ _ _ _ => pe_bl)))
 (pss_cons (ps_set (i := 3) nd rfl (Or.inr rfl) (pe_lst (pa_cons pe_non (StX.pa_star (pv 1) pa_nil))))
 (pss_one (ps_ret (pe_lc (own := [("place", 5), ("row", 4)]) (g := (gTup K 2 (gCons (gName 5) (gCons (gName 4) gNil)))) rfl nd (pi_enumS rfl T.n_enumerate (pa_cons (pv 1) pa_nil)) (blkOk_by (N := N_plan_moves) (sc := defScope s_plan_moves) (by decide +kernel)) (fun _ _ _ _ _ => (pg_tup rfl (pgs_cons (pg_name (i := 5) nd rfl (Or.inl rfl)) (pgs_cons (pg_name (i := 4) nd rfl (Or.inl rfl)) pgs_nil)))) (fun _ _ _ _ _ => (pts_one (pt_cmp (pc_dnotin hu (pv 4) (pv 2))))) (fun _ _ _ _ _ => (pe_tup (pa_cons (pv 4) (pa_cons (pe_ix (show IxR _ (rIxL K) from ix_list) (pv 3) (pv 5) (fun _ _ => rfl)) pa_nil)))))))))), ?_⟩
    refine q_drop (ev_call (ea_cons (ev_var rfl) (ea_cons (ev_var rfl) ea_nil)) (spv_need_pair hx hy ho pm)) fun H1 e1 => ?_
    refine ⟨_, rfl, _, rfl, x, y, rs, qs, n, rfl, hx.ex e1, hy.ex e1, ho, pm, fun pl H2 npl e2 ⟨yl, ds, lev, ahd, M, hyl, lM, hds, hch, hdr, hL, hM⟩ => ?_⟩
    have r1 : Rise rs ds := Chn.rise List.mem_cons_self hch
    have r2 : Rise qs ds := Chn.rise (List.mem_cons_of_mem _ List.mem_cons_self) hch
    have ldr : ds.length ≤ rs.length := sub_len r1.nodup hdr
    have lyd : yl.length = ds.length := Paired.length hds
    refine ⟨pl, rfl, ⟨yl, sq_of hyl⟩, fun Dd hDd => ?_⟩
    let Pv : Nat → Hp → Prop := fun i H' => Ex H2 H' ∧ H' Dd = some (.dT (dtab (ds.take i) fun _ => .bl true))
    refine cm_it (walk_list (K := K) (a := pl) (xs := yl)) Pv ⟨Ex.new hDd, upd_same⟩ (fun i H' _ q => sq_of (q.1 _ _ hyl)) (fun i x' H' H'' hi ⟨e', hd'⟩ y' => ?_) fun H3 ⟨e3, hd3⟩ => ?_
    · obtain ⟨rfl, hm⟩ := y'
      obtain ⟨r, hr, hrow⟩ := Paired.at_l hds i x' hm
      have nrp : r ∉ ds.take i := fun z => by
        obtain ⟨i', hi', ei⟩ := List.mem_iff_getElem.mp z
        rw [List.length_take] at hi'
        rw [List.getElem_take] at ei
        have a1 := idxOf_at r1.nodup (show ds[i']? = some r by rw [← ei]; exact List.getElem?_eq_getElem _)
        have a2 := idxOf_at r1.nodup hr
        omega
      refine ⟨rfl, yes_go ⟨x', rfl, _, dput_new hd' (hrow.ex e') nrp (by rw [List.length_take]; omega), Ex.mut e' hDd, ?_⟩⟩
      rw [upd_same, take_next hr]
      refine congrArg (fun z => some (HO.dT z)) (dtab_congr fun q hq => ?_)
      unfold fset
      split <;> rfl
    · rw [lyd, List.take_length] at hd3
      have e13 := (e1.trans e2).trans e3
      obtain ⟨yb, ys, rfl, hys, hyp⟩ := id hy
      refine q_asgL (el_lst (ea_cons ev_c (ea_starS (ev_var rfl) (hys.ex e13) ea_nil)) (by rw [List.append_nil]; show ys.length + 1 ≤ 100000; have := Paired.length hyp; have := pm.length_eq; omega)) fun pa H4 npa e4 hpa => ?_
      rw [List.append_nil] at hpa
      have e14 := e13.trans e4
      have hlen : ys.length = qs.length := Paired.length hyp
      refine (ef_enumS (K := K) (fun H y (m : Move) => IsMv H y m.1 m.2) (fun _ _ _ _ e h => h.tk e) (planAt qs ds) rfl (a := yb) (xs := ys) (j1 := 5) (j2 := 4) (vs := [5, 4]) (σ := [some x, some (V.ref yb), some (.ref Dd), some (.ref pa), none, none]) (H := H4) (fun i hi => ?_) (ev_var rfl) (hys.ex e14) (fun _ _ => rfl) (fun i y H5 hi e5 => ?_)) H4 (Ex.refl _) _ fun p H5 np e5 ⟨yz, hyz, hmv⟩ => ?_
      · have := planAt_len (qs := qs) (ds := ds) i
        have := pm.length_eq
        omega
      · obtain ⟨r, hr, hrow⟩ := Paired.at_l hyp i y hi
        have e1 : planAt qs ds (i + 1) = planAt qs ds i ++ (if r ∈ ds then [] else [(r, if i = 0 then none else qs[i - 1]?)]) := by
          show planAt qs ds i ++ (match qs[i]? with | some r => if r ∈ ds then [] else [(r, if i = 0 then none else qs[i - 1]?)] | none => []) = _
          rw [hr]
        refine ⟨!decide (r ∈ ds), et_test (et_dnin (ev_var rfl) (ev_var rfl) ((e4.trans e5) _ _ hd3) (hrow.ex (e14.trans e5))), fun hb => ?_, fun hb => ?_⟩
        · have hd : r ∈ ds := by
            by_cases z : r ∈ ds
            · exact z
            · rw [decide_eq_false z] at hb; cases hb
          rw [e1, if_pos hd, List.append_nil]
        · have hd : r ∉ ds := fun z => by rw [decide_eq_true z] at hb; cases hb
          refine ⟨(r, if i = 0 then none else qs[i - 1]?), by rw [e1, if_neg hd], fun H6 e6 Q' q' => ?_⟩
          have e46 := e5.trans e6
          have hi60 : i < ys.length := (List.getElem?_eq_some_iff.mp hi).1
          obtain ⟨u, hu1, hu2⟩ : ∃ u, (V.non :: ys)[i]? = some u ∧ AhV H6 u (if i = 0 then none else qs[i - 1]?) := by
            cases i with
            | zero => exact ⟨.non, rfl, rfl⟩
            | succ i =>
              have h1 := List.getElem?_eq_getElem (l := ys) (i := i) (by omega)
              obtain ⟨q, hq, hqr⟩ := Paired.at_l hyp i _ h1
              refine ⟨ys[i], by rw [List.getElem?_cons_succ]; exact h1, ?_⟩
              rw [if_neg (by omega)]
              show AhV H6 _ qs[i]?
              rw [hq]
              exact hqr.ex (e14.trans e46)
          refine (eu_tup (σ := ((wipe [some x, some (V.ref yb), some (.ref Dd), some (.ref pa), none, none] [5, 4]).set 5 (some (.int (i : Nat)))).set 4 (some y)) (H := H6) (ea_cons (ev_var rfl) (ea_cons (ev_ixL (K := K) (i := (i : Int)) (ev_var rfl) (ev_var rfl) (sq_of (e46 _ _ hpa)) (atI_nat hu1)) ea_nil)) (show 2 ≤ 100000 by decide)) H6 (Ex.refl _) _ fun t H7 nt e7 ht => ?_
          exact q' _ H7 e7 ⟨t, y, u, rfl, ht, hrow.ex ((e14.trans e46).trans e7), hu2.ex e7⟩
      · rw [hlen] at hmv
        refine k p H5 (fresh_back e14 np) (e14.trans e5) ⟨yz, planAt qs ds qs.length, lev, ahd, M, hyz, hmv, planAt_ok (rs := rs) oq _, plan_led ho.nd pm r1 r2 hdr, hL, hM, ?_, (planAt_nodup oq.nd _ (Nat.le_refl _)).1⟩
        have := plan_len ho.nd pm r1 r2 hdr
        omega
end
end Mv
/-! _law_within: going through all lists that so many moves lead to. -/
namespace Mv
open PySem PySem.Spec PyProof.Rows L2 Evl
def rl (l : List Row) : PyData := .list (l.map rd)
theorem eqv_rowsAll : ∀ l q : List Row, PyData.eqvAll (l.map rd) (q.map rd) = decide (l = q)
  | [], [] => by simp [PyData.eqvAll]
  | [], _ :: _ => by simp [PyData.eqvAll]
  | _ :: _, [] => by simp [PyData.eqvAll]
  | r :: l, s :: q => by
    rw [List.map_cons, List.map_cons, PyData.eqvAll, eqv_rowsAll l q, eqv_row]
    by_cases h : r = s
    · by_cases h2 : l = q <;> simp [h, h2]
    · simp [h]
theorem eqv_rl (l q : List Row) : PyData.eqv (rl l) (rl q) = decide (l = q) := by
  unfold rl
  rw [PyData.eqv, eqv_rowsAll]
theorem lay_lists : ∀ Ls : List (List Row), PyData.canLayAll0 (Ls.map rl) = true ∧ PyData.depthAll (Ls.map rl) ≤ 5
  | [] => ⟨rfl, by simp [PyData.depthAll]⟩
  | l :: Ls => by
    obtain ⟨h1, h2⟩ := lay_lists Ls
    have a := lay_rows l
    have b := deep_rows l
    constructor
    · rw [List.map_cons, PyData.canLayAll0, h1]
      unfold rl
      rw [PyData.canLay0, a] <;> rfl
    · simp only [List.map_cons, PyData.depthAll]
      unfold rl at h2 ⊢
      simp only [PyData.depth]
      omega
theorem shaped_lists (Ls : List (List Row)) : SeqAt.shaped (.list (Ls.map rl)) = true := by
  obtain ⟨h1, h2⟩ := lay_lists Ls
  unfold SeqAt.shaped
  have e : (PyData.list (Ls.map rl)).canLay0 = true := by rw [PyData.canLay0, h1]
  have e2 : (PyData.list (Ls.map rl)).depth ≤ 64 := by
    simp only [PyData.depth]
    omega
  rw [e, decide_eq_true e2] <;> rfl
theorem any_rl (Ls : List (List Row)) (q : List Row) : ((Ls.map rl).any fun z => PyData.eqv z (rl q)) = decide (q ∈ Ls) := by
  rw [List.any_map, Bool.eq_iff_iff, List.any_eq_true, decide_eq_true_eq]
  constructor
  · rintro ⟨l, hl, e⟩
    have e : PyData.eqv (rl l) (rl q) = true := e
    rw [eqv_rl] at e
    rw [← of_decide_eq_true e]
    exact hl
  · intro h
    exact ⟨q, h, by show PyData.eqv (rl q) (rl q) = true; rw [eqv_rl, decide_eq_true rfl]⟩
section
variable {K : PySem.W.Frag} {H : Hp}
theorem LRw.dp {x : V} {l : List Row} (h : LRw H x l) : Dp K H x (rl l) := by
  obtain ⟨b, ys, rfl, h1, h2⟩ := h
  exact .lst (sq_of h1) (dp_rows h2)
theorem dp_lists : ∀ {xs : List V} {Ls : List (List Row)}, Paired (LRw H) xs Ls → DpAll K H xs (Ls.map rl)
  | _, _, .nil => .nil
  | _, _, .cons h t => .cons h.dp (dp_lists t)
theorem rv_inLists {x : V} {f : Addr} {ys : List V} {Ls : List (List Row)} {q : List Row} (hf : H f = some (.lst ys)) (hp : Paired (LRw H) ys Ls) (hx : LRw H x q) : RV (rInD K) x (.ref f) H (.bl (decide (q ∈ Ls))) := fun H1 e Q k => by
  refine ⟨rl q, Ls.map rl, (LRw.ex hx e).dp, .lst (sq_of (e _ _ hf)) (dp_lists (Paired.imp (fun _ _ h => LRw.ex h e) hp)), shaped_rows q, shaped_lists Ls, ?_⟩
  rw [any_rl]
  exact k H1 (Ex.refl H1)
theorem rv_ninLists {x : V} {f : Addr} {ys : List V} {Ls : List (List Row)} {q : List Row} (hf : H f = some (.lst ys)) (hp : Paired (LRw H) ys Ls) (hx : LRw H x q) : RV (rNotInD K) x (.ref f) H (.bl (!decide (q ∈ Ls))) := fun H1 e Q k => by
  refine ⟨rl q, Ls.map rl, (LRw.ex hx e).dp, .lst (sq_of (e _ _ hf)) (dp_lists (Paired.imp (fun _ _ h => LRw.ex h e) hp)), shaped_rows q, shaped_lists Ls, ?_⟩
  rw [any_rl]
  exact k H1 (Ex.refl H1)
end
section
variable {σ : L2.St} {H : Hp} {ta tb : TE} {t : TT} {D : Ends} {tz : TS}
theorem q_asgIf {i : Nat} {b : Bool} (h : EvT t σ H b) (k1 : b = true → ∀ H1, Ex H H1 → ta σ H1 (fun v H2 => tz D (σ.set i (some v)) H2)) (k2 : b = false → ∀ H1, Ex H H1 → tb σ H1 (fun v H2 => tz D (σ.set i (some v)) H2)) : tSeq (tAsg (tIf t ta tb) (gName i)) tz D σ H :=
  h H (Ex.refl H) _ fun H1 e => by
    cases b with
    | true => exact iteT (k1 rfl H1 e)
    | false => exact iteF (k2 rfl H1 e)
end
end Mv
/-! _law_tuples_right. -/
namespace Mv
open PySem PySem.Spec PyProof.Rows L2 Evl
def SpP (sp : Sp) (vs : List V) (H : Hp) (P : V → Hp → Prop) : Prop := ∀ H1, Ex H H1 → ∀ Q : VK, (∀ v H2, Ex H1 H2 → P v H2 → Q v H2) → ∀ E : XK, sp vs H1 Q E
section
variable {K : PySem.W.Frag} {σ : L2.St} {H : Hp} {ta tb te te1 te2 : TE} {tk : TA} {x y z : V} {r : R2} {D : Ends} {tz : TS} {P R : V → Hp → Prop}
theorem ep_call {sp : Sp} {dvs vs : List V} {E : XK} {t : TA} (h : EvA t σ H vs) (hs : SpP sp (vs ++ dvs) H P) : EvP (tCall sp dvs E t) σ H P := fun H1 e Q q =>
  h H1 e _ fun H2 e2 => hs H2 (e.trans e2) Q (fun v H3 e3 hp => q v H3 (e2.trans e3) hp) E
theorem ep_callN {sp : Sp} {zs : List V} {E : XK} {m : Nat} {gV : List V → List V → List V} (h : EvA tk σ H zs) (hs : SpP sp (gV [] zs) H P) (hm : zs.length = m) : EvP (tCallN 0 m sp gV E tNil tk) σ H P := fun H1 e Q q =>
  h H1 e _ fun H2 e2 => ⟨rfl, hm, hs H2 (e.trans e2) Q (fun v H3 e3 hp => q v H3 (e2.trans e3) hp) E⟩
theorem ev_callN {sp : Sp} {zs : List V} {E : XK} {m : Nat} {gV : List V → List V → List V} (h : EvA tk σ H zs) (hs : SpV sp (gV [] zs) H z) (hm : zs.length = m) : Ev (tCallN 0 m sp gV E tNil tk) σ H z := fun H1 e Q q =>
  h H1 e _ fun H2 e2 => ⟨rfl, hm, hs H2 (e.trans e2) Q (fun H3 e3 => q H3 (e2.trans e3)) E⟩
theorem EvP.imp (h : EvP te σ H P) (f : ∀ v H2, P v H2 → R v H2) : EvP te σ H R := fun H1 e Q q => h H1 e Q fun v H2 e2 hp => q v H2 e2 (f v H2 hp)
theorem q_asgP {i : Nat} (h : EvP te σ H P) (k : ∀ v H1, Ex H H1 → P v H1 → tz D (σ.set i (some v)) H1) : tSeq (tAsg te (gName i)) tz D σ H := h H (Ex.refl H) _ k
theorem ev_opP (ha : EvP ta σ H P) (sP : ∀ {v H1 H2}, P v H1 → Ex H1 H2 → P v H2) (hb : EvP tb σ H R) (hr : ∀ x y H2, Ex H H2 → P x H2 → R y H2 → RV r x y H2 z) : Ev (tOp r ta tb) σ H z := fun H1 e Q q =>
  ha H1 e _ fun x H2 e2 hx => hb H2 (e.trans e2) _ fun y H3 e3 hy => hr x y H3 ((e.trans e2).trans e3) (sP hx e3) hy H3 (Ex.refl _) Q fun H4 e4 => q H4 ((e2.trans e3).trans e4)
theorem ev_lenP {n : Int} (ha : EvP ta σ H fun v H2 => ∃ p xs, v = .ref p ∧ Seq H2 p xs ∧ (xs.length : Int) = n) : Ev (tCB (rLenS K) (tCons ta tNil)) σ H (.int n) := fun H1 e Q q =>
  ha H1 e _ fun v H2 e2 ⟨p, xs, ev, h, hn⟩ => ⟨p, xs, by rw [ev] <;> rfl, h.sq, by rw [hn]; exact q H2 e2⟩
theorem eu_tupOf {a : Addr} {xs : List V} (ha : Ev ta σ H (.ref a)) (h : H a = some (.lst xs)) : EvU (tCB (rTupOf K) (tCons ta tNil)) σ H xs := fun H1 e Q q =>
  ha H1 e _ fun H2 e2 => ⟨a, xs, rfl, .inl ⟨sq_of ((e.trans e2) _ _ h), fun l hl => q l _ (fresh_back e2 hl) (e2.trans (Ex.new hl)) upd_same⟩⟩
theorem q_lst2U {i : Nat} {xs ys : List V} (h1 : EvU te1 σ H xs) (h2 : EvU te2 σ H ys) (k : ∀ p q l H1, Ex H H1 → H1 p = some (.tup xs) → H1 q = some (.tup ys) → H l = none → H1 l = some (.lst [.ref p, .ref q]) → tz D (σ.set i (some (.ref l))) H1) :
    tSeq (tAsg (tLst (tCons te1 (tCons te2 tNil))) (gName i)) tz D σ H :=
  h1 H (Ex.refl _) _ fun p H1 np e1 hp => h2 H1 e1 _ fun q H2 nq e2 hq => ⟨sz_of (show 2 ≤ 100000 by decide), fun l hl => by
    have eN : Ex H2 (upd H2 l (.lst [.ref p, .ref q])) := Ex.new hl
    exact k p q l _ ((e1.trans e2).trans eN) ((e2.trans eN) _ _ hp) (eN _ _ hq) (fresh_back (e1.trans e2) hl) upd_same⟩
theorem rv_neRl {l q : List Row} (hx : LRw H x l) (hy : LRw H y q) : RV (rNeD K) x y H (.bl (!decide (l = q))) := fun H1 e Q k => by
  refine ⟨rl l, rl q, (LRw.ex hx e).dp, (LRw.ex hy e).dp, shaped_rows l, shaped_rows q, ?_⟩
  rw [eqv_rl]
  exact k H1 (Ex.refl H1)
theorem rv_eqRl {l q : List Row} (hx : LRw H x l) (hy : LRw H y q) : RV (rEqD K) x y H (.bl (decide (l = q))) := fun H1 e Q k => by
  refine ⟨rl l, rl q, (LRw.ex hx e).dp, (LRw.ex hy e).dp, shaped_rows l, shaped_rows q, ?_⟩
  rw [eqv_rl]
  exact k H1 (Ex.refl H1)
theorem shaped_ints (r : List Int) : SeqAt.shaped (.list (r.map PyData.int)) = true := by
  have := deep_ints r
  unfold SeqAt.shaped
  have e : (PyData.list (r.map PyData.int)).canLay0 = true := by rw [PyData.canLay0, lay_ints]
  have e2 : (PyData.list (r.map PyData.int)).depth ≤ 64 := by
    simp only [PyData.depth]
    omega
  rw [e, decide_eq_true e2] <;> rfl
theorem ev_neInts {p : Addr} {ns : List Int} (ha : Ev ta σ H (.ref p)) (hp : H p = some (.lst (ns.map V.int))) (hb : EvL tb σ H (ns.map V.int)) : Ev (tOp (rNeD K) ta tb) σ H (.bl false) := fun H1 e Q q =>
  ha H1 e _ fun H2 e2 => hb H2 (e.trans e2) _ fun p2 H3 np2 e3 h3 => by
    refine ⟨.list (ns.map .int), .list (ns.map .int), .lst (sq_of (((e.trans e2).trans e3) _ _ hp)) (dp_ints ns), .lst (sq_of h3) (dp_ints ns), shaped_ints ns, shaped_ints ns, ?_⟩
    rw [PyData.eqv, eqv_ints, decide_eq_true rfl]
    exact q H3 (e2.trans e3)
theorem rv_isnot {a b : Bool} : RV (fun x y H Q => ∃ a b, x = V.bl a ∧ y = .bl b ∧ Q (.bl (!decide (a = b))) H) (.bl a) (.bl b) H (.bl (!decide (a = b))) := fun H1 _ Q q => ⟨a, b, rfl, rfl, q H1 (Ex.refl _)⟩
end
end Mv
/-! rises_in of anything. -/
namespace Mv
open PySem PySem.Spec PyProof.Rows L2 Evl
theorem rd_inj {r q : Row} (h : rd r = rd q) : r = q := by
  have e := eqv_row r q
  rw [h, eqv_row, decide_eq_true rfl] at e
  exact of_decide_eq_true e.symm
theorem map_rd_inj : ∀ {a b : List Row}, a.map rd = b.map rd → a = b
  | [], [], _ => rfl
  | [], _ :: _, h => by simp at h
  | _ :: _, [], h => by simp at h
  | r :: a, q :: b, h => by
    rw [List.map_cons, List.map_cons] at h
    injection h with h1 h2
    rw [rd_inj h1, map_rd_inj h2]
theorem da_ints {H : Hp} : ∀ {xs : List V} {r : List Int}, DaAll H xs (r.map PyData.int) → xs = r.map V.int
  | _, [], .nil => rfl
  | _, i :: r, .cons h t => by
    cases h
    rw [da_ints t] <;> rfl
theorem Da.row {H : Hp} {x : V} {r : Row} (h : Da H x (rd r)) : IsRow H x r := by
  obtain ⟨a, xs, rfl, h1, h2⟩ := Da.tup' h
  rw [da_ints h2] at h1
  exact ⟨a, rfl, h1⟩
theorem da_rows {H : Hp} : ∀ {xs : List V} {cs : List Row}, DaAll H xs (cs.map rd) → Paired (IsRow H) xs cs
  | _, [], .nil => .nil
  | _, c :: cs, .cons h t => .cons h.row (da_rows t)
theorem rows_da {H : Hp} : ∀ {xs : List V} {cs : List Row}, Paired (IsRow H) xs cs → DaAll H xs (cs.map rd)
  | _, [], .nil => .nil
  | _, c :: cs, .cons h t => .cons h.da (rows_da t)
theorem Da.rws {H : Hp} {x : V} {d : PyData} {cs : List Row} (h : Da H x d) (e : seqD d = some (cs.map rd)) : Rws H x cs := by
  obtain ⟨a, xs, rfl, h1, h2⟩ := h.seq e
  exact ⟨a, xs, rfl, h1, da_rows h2⟩
theorem Rws.da {H : Hp} {x : V} {cs : List Row} (h : Rws H x cs) : ∃ d, Da H x d ∧ seqD d = some (cs.map rd) := by
  obtain ⟨a, xs, rfl, h1 | h1, h2⟩ := h
  · exact ⟨_, .lst h1 (rows_da h2), rfl⟩
  · exact ⟨_, .tup h1 (rows_da h2), rfl⟩
theorem ints_of : ∀ {ds : List PyData}, ds.all (intIn 0 999) = true → ∃ r : Row, ds = r.map PyData.int ∧ ∀ i ∈ r, 0 ≤ i ∧ i ≤ 999
  | [], _ => ⟨[], rfl, fun i h => absurd h (by simp)⟩
  | d :: ds, h => by
    rw [List.all_cons, Bool.and_eq_true] at h
    obtain ⟨r, e, hr⟩ := ints_of h.2
    cases d with
    | int i =>
      have h1 : (decide (0 ≤ i) && decide (i ≤ 999)) = true := h.1
      rw [Bool.and_eq_true] at h1
      refine ⟨i :: r, by rw [e] <;> rfl, fun j hj => ?_⟩
      rcases List.mem_cons.mp hj with z | hj
      · rw [z]; exact ⟨of_decide_eq_true h1.1, of_decide_eq_true h1.2⟩
      · exact hr j hj
    | _ => exact absurd h.1 (by simp [intIn])
theorem rowAny_of {d : PyData} (h : rowAnyB d = true) : ∃ r : Row, d = rd r ∧ OkRow r.length r ∧ 1 ≤ r.length ∧ r.length ≤ 5 := by
  cases d with
  | tuple ds =>
    have h : ((decide (0 < ds.length) && decide (ds.length ≤ 5)) && ds.all (intIn 0 999)) = true := h
    rw [Bool.and_eq_true, Bool.and_eq_true] at h
    obtain ⟨r, e, hr⟩ := ints_of h.2
    have l : ds.length = r.length := by rw [e, List.length_map]
    have a := of_decide_eq_true h.1.1
    have b := of_decide_eq_true h.1.2
    exact ⟨r, by rw [e] <;> rfl, ⟨rfl, hr⟩, by omega, by omega⟩
  | _ => cases h
/-- the rows cs are of L and rise in it -/
def RisesC (L cs : List Row) : Prop := (∀ c ∈ cs, c ∈ L) ∧ Rise L cs
def RisesD (L : List Row) (d : PyData) : Prop := ∃ cs, seqD d = some (cs.map rd) ∧ RisesC L cs
theorem rises_of {L cs : List Row} {d : PyData} (e : seqD d = some (cs.map rd)) : RisesD L d ↔ RisesC L cs :=
  ⟨fun ⟨cs', e', h⟩ => by rw [e] at e'; rw [map_rd_inj (Option.some.inj e')]; exact h, fun h => ⟨cs, e, h⟩⟩
def OneOf (L : List Row) (d : PyData) : Prop := ∃ r ∈ L, d = rd r
theorem all_rows {L : List Row} : ∀ {ds : List PyData}, ds.all (fun d => rb (OneOf L d)) = true → ∃ cs : List Row, ds = cs.map rd ∧ ∀ c ∈ cs, c ∈ L
  | [], _ => ⟨[], rfl, fun i h => absurd h (by simp)⟩
  | d :: ds, h => by
    rw [List.all_cons, Bool.and_eq_true] at h
    obtain ⟨cs, e, hc⟩ := all_rows h.2
    obtain ⟨r, hr, er⟩ := rb_iff.mp h.1
    refine ⟨r :: cs, by rw [e, er] <;> rfl, fun c h => ?_⟩
    rcases List.mem_cons.mp h with z | h
    · rw [z]; exact hr
    · exact hc c h
theorem rows_all {L cs : List Row} (h : ∀ c ∈ cs, c ∈ L) : (cs.map rd).all (fun d => rb (OneOf L d)) = true := by
  rw [List.all_eq_true]
  intro d hd
  obtain ⟨c, hc, rfl⟩ := List.mem_map.mp hd
  exact rb_yes ⟨c, h c hc, rfl⟩
theorem adj_pair {f : Row → Nat} : ∀ cs : List Row, (∀ (i : Nat) (q r : Row), cs[i]? = some q → cs[i + 1]? = some r → f q < f r) → cs.Pairwise fun q r => f q < f r
  | [], _ => .nil
  | [c], _ => by simp
  | c :: c2 :: cs, h => by
    have ih := adj_pair (c2 :: cs) fun i q r h1 h2 => h (i + 1) q r h1 h2
    refine .cons (fun x hx => ?_) ih
    have h0 := h 0 c c2 rfl rfl
    rcases List.mem_cons.mp hx with e | hx
    · rw [e]; exact h0
    · exact Nat.lt_trans h0 ((List.pairwise_cons.mp ih).1 x hx)
/-- the answers of the places, one by one -/
def adjB (L cs : List Row) : List Bool := (List.range (cs.length - 1)).map fun i => decide (L.idxOf (cs.getD i []) < L.idxOf (cs.getD (i + 1) []))
theorem adjB_all (L cs : List Row) : (adjB L cs).all id = rb (Rise L cs) := by
  refine rb_eq ?_
  unfold adjB
  rw [List.all_map, List.all_eq_true]
  constructor
  · intro h
    refine adj_pair cs fun i q r h1 h2 => ?_
    have l2 := (List.getElem?_eq_some_iff.mp h2).1
    have z := of_decide_eq_true (h i (List.mem_range.mpr (by omega)))
    rw [List.getD_eq_getElem?_getD, List.getD_eq_getElem?_getD, h1, h2] at z
    exact z
  · intro h i hi
    have hi := List.mem_range.mp hi
    have l1 : i < cs.length := by omega
    have l2 : i + 1 < cs.length := by omega
    refine decide_eq_true ?_
    rw [List.getD_eq_getElem?_getD, List.getD_eq_getElem?_getD, List.getElem?_eq_getElem l1, List.getElem?_eq_getElem l2]
    exact Rise.next h (List.getElem?_eq_getElem l1) (List.getElem?_eq_getElem l2)
section
variable {P : Program} {w : World} {K : PySem.W.Frag} {mg : Str → Option Value} {base : Heap} {a : Nat → Addr} {d : Nat → FuncData} {tk : Nat → Tok}
def sp_rises_in : Sp := fun vs H Q _ => ∃ (x : V) (dd : PyData) (pd : Addr) (rs : List Row) (n : Nat), vs = [x, .ref pd] ∧ Da H x dd ∧ (∀ ds, seqD dd = some ds → ds.length ≤ 1000) ∧ H pd = some (.dT (dtab rs (plc rs))) ∧ OkRows n rs ∧ RetV (.bl (rb (RisesD rs dd))) H Q
theorem ok_rises_in (T : All K mg a d tk) : FnOk P w K mg base CX0 4 (a 12) (d 12) ["rows", "place_of"] sp_rises_in := by
  refine T.F_rises_in.fn.ok sc_rises_in (fun vs H Q E h => ?_) (fun cdv A outer s H vs Q E hr h => ?_)
  · obtain ⟨x, dd, pd, rs, n, rfl, _⟩ := h
    rfl
  · obtain ⟨x, dd, pd, rs, n, rfl, hx, hl, hpd, ho, k⟩ := h
    have nd := sc_rises_in.nd
    have hu := hu_of hr
    refine ⟨_, (pss_cons (ps_if (PW.pt (pw_or (pt_not (pt_val (pe_call (ok_is_list T) (hr.mono (by decide)) rfl T.F_is_list.m T.F_is_list.kp T.F_is_list.b .nil pass0 (pa_cons (pv 0) pa_nil)))) (pw_or1 (pt_not (pt_val (pe_callB (cr_all rfl) (by rfl) T.n_all PyProof.Rows.boot_all (pa_cons (pe_lc (own := [("row", 3)]) (g := (gName 3)) rfl nd (pi_seq (pv 0)) (blkOk_by (N := N_rises_in) (sc := defScope s_rises_in) (by decide +kernel)) (fun _ _ _ _ _ => (pg_name (i := 3) nd rfl (Or.inl rfl))) (fun _ _ _ _ _ => pts_nil) (fun _ _ _ _ _ => (pe_and (pe_call (ok_is_any_row T) (hr.mono (by decide)) rfl T.F_is_any_row.m T.F_is_any_row.kp T.F_is_any_row.b .nil pass0 (pa_cons (pv 3) pa_nil)) (pe_one (pe_cmp (pc_din hu (pv 3) (pv 1))))))) pa_nil)))))))
 (pss_one (ps_ret pe_bl))
 pss_nil)
 (pss_cons (ps_setLc (i := 2) (own := [("row", 3)]) (g := (gName 3)) rfl nd rfl rfl (sw_true rfl rfl rfl (by decide +kernel)) (pi_seq (pv 0)) (blkOk_by (N := N_rises_in) (sc := defScope s_rises_in) (by decide +kernel)) (fun _ _ _ _ _ => (pg_name (i := 3) nd rfl (Or.inl rfl))) (fun _ _ _ _ _ => pts_nil) (fun _ _ _ _ _ => (pe_dget hu (pv 1) (pv 3) (fun _ _ => rfl))))
 (pss_one (ps_ret (pe_callB (cr_all rfl) (by rfl) T.n_all PyProof.Rows.boot_all (pa_cons (pe_lc (own := [("place", 4), ("later", 5)]) (g := (gTup K 2 (gCons (gName 4) (gCons (gName 5) gNil)))) rfl nd (pi_zip rfl T.n_zip (pa_cons (pv 2) (pa_cons (pe_slice sl_list (pv 2) (po_some pe_int) po_none) pa_nil))) (blkOk_by (N := N_rises_in) (sc := defScope s_rises_in) (by decide +kernel)) (fun _ _ _ _ _ => (pg_tup rfl (pgs_cons (pg_name (i := 4) nd rfl (Or.inl rfl)) (pgs_cons (pg_name (i := 5) nd rfl (Or.inl rfl)) pgs_nil)))) (fun _ _ _ _ _ => pts_nil) (fun _ _ _ _ _ => (pe_cmpR op_lt (pv 4) (pv 5) (nomark _)))) pa_nil)))))), ?_⟩
    cases hq : seqD dd with
    | none =>
      have z : rb (RisesD rs dd) = false := rb_no fun ⟨cs, e, _⟩ => by rw [hq] at e; cases e
      rw [z] at k
      refine q_when (b := true) (et_is (et_or (b := false) (et_not (et_B (ev_call (ea_cons (ev_var rfl) ea_nil) (spv_isq hx.isq)))) fun h => ?_) (by rw [hq] <;> rfl)) (fun _ H1 e1 => s_ret ev_c fun H2 e2 => k H2 (e1.trans e2)) fun h => nomatch h
      rw [hq] at h
      cases h
    | some ds =>
      obtain ⟨f, xs, rfl, hs, hp⟩ := hx.seq hq
      have hlen : xs.length = ds.length := Paired.length hp.p
      have hl := hl ds hq
      have item : ∀ {H2 : Hp} {y : V} {dy : PyData} {w2 w3 w4 w5 w6 : Option V}, Ex H H2 → Da H2 y dy → ∀ {σ : L2.St} {j : Nat}, σ[j]? = some (some y) → σ[1]? = some (some (.ref pd)) → Ev (tAndV (tCall sp_is_any_row [] E0 (tCons (tVar j) tNil)) (tDIn (tVar j) (tVar 1))) σ H2 (.bl (rb (OneOf rs dy))) := by
        intro H2 y dy w2 w3 w4 w5 w6 e2 hy σ j hj h1
        refine ev_is (ev_andV (b := rb (OneOf rs dy)) (ev_call (ea_cons (ev_var hj) ea_nil) (spv_anyD hy)) fun hr => ?_) ?_
        · obtain ⟨r, rfl, _⟩ := rowAny_of hr
          have z : rb (OneOf rs (rd r)) = decide (r ∈ rs) := (rb_eq (by rw [decide_eq_true_eq]; exact ⟨fun h => ⟨r, h, rfl⟩, fun ⟨q, hq, e⟩ => by rw [rd_inj e]; exact hq⟩)).symm
          rw [z]
          exact ev_din (ev_var h1) (ev_var hj) (e2 _ _ hpd) hy.row
        · cases hr : rowAnyB dy with
          | true => rfl
          | false =>
            rw [rb_no (p := OneOf rs dy) fun ⟨q, hq, e⟩ => ?_] <;> try rfl
            rw [e] at hr
            rw [show rowAnyB (rd q) = true from rowAny_ok (ho.row q hq) ho.w1 ho.w5] at hr
            cases hr
      refine q_when (b := !ds.all fun d => rb (OneOf rs d)) (et_is (et_or (b := !ds.all fun d => rb (OneOf rs d)) (et_not (et_B (ev_call (ea_cons (ev_var rfl) ea_nil) (spv_is_list hs)))) fun _ => et_not (et_B (ev_allD (ds := ds) (fun d => rb (OneOf rs d)) (ev_var rfl) hs hp (by omega) (fun _ => rfl) fun y dy H2 e2 _ _ hy => item (w2 := none) (w3 := none) (w4 := none) (w5 := none) (w6 := none) e2 hy rfl rfl))) rfl) (fun h H1 e1 => ?_) fun h H1 e1 => ?_
      · have z : rb (RisesD rs dd) = false := rb_no fun ⟨cs, e, hc, _⟩ => by
          rw [hq] at e
          rw [Option.some.inj e, rows_all hc] at h
          cases h
        rw [z] at k
        exact s_ret ev_c fun H2 e2 => k H2 (e1.trans e2)
      · have h : ds.all (fun d => rb (OneOf rs d)) = true := by
          cases z : ds.all (fun d => rb (OneOf rs d)) with
          | true => rfl
          | false => rw [z] at h; cases h
        obtain ⟨cs, rfl, hc⟩ := all_rows h
        have hp := da_rows hp
        have hlen : xs.length = cs.length := Paired.length hp
        refine q_asgL (el_lcSo (out := cs.map (plc rs)) (ev_var rfl) (hs.ex e1) (by rw [hlen]; rw [List.length_map] at hl; omega) (by rw [List.length_map, hlen]) (fun _ => rfl) fun i x y H2 e2 hi ho2 => ?_) fun pl H2 npl e2 hpl => ?_
        · obtain ⟨r, hr, h⟩ := Paired.at_l hp i x hi
          rw [List.getElem?_map, hr] at ho2
          cases ho2
          exact ev_dget (ev_var rfl) (ev_var rfl) ((e1.trans e2) _ _ hpd) (h.ex (e1.trans e2)) (hc r (List.mem_of_getElem? hr))
        · have c1 := el_sl (K := K) (σ := [some (V.ref f), some (.ref pd), some (.ref pl), none, none, none]) (H := H2) (te := tVar 2) (ev_var rfl) (eo_some (i := 1) ev_c) eo_none (sq_of hpl)
          have e12 := e1.trans e2
          have ld : (cutV (cs.map (plc rs)) (some 1) none) = (cs.map (plc rs)).drop 1 := by
            cases cs with
            | nil => rfl
            | cons c cs => exact cutV_from _ 1 (by rw [List.length_map, List.length_cons]; omega)
          rw [ld] at c1
          have lb : ((adjB rs cs).map V.bl).length = cs.length - 1 := by unfold adjB; rw [List.length_map, List.length_map, List.length_range]
          have eb : (adjB rs cs).map V.bl = given (cs.length - 1) (fun _ => true) (fun i => ((adjB rs cs).map V.bl).getD i .non) := by
            rw [← lb]
            exact (givenT _).symm
          refine s_ret (ev_is (ev_allN (bs := adjB rs cs) (by
            rw [eb]
            exact el_lcZ1 (fun _ => true) (fun i => ((adjB rs cs).map V.bl).getD i .non) (ev_var rfl) c1 (sq_of hpl) (by rw [List.length_drop, List.length_map]; omega) (by rw [List.length_map] at hl; omega) (fun _ _ => rfl) (fun _ _ _ _ _ _ _ => et_yes) fun i x y H3 e3 g1 g2 _ => by
              rw [List.getElem?_drop] at g2
              rw [List.getElem?_map] at g1 g2
              obtain ⟨q, hq, rfl⟩ := Option.map_eq_some_iff.mp g1
              obtain ⟨r, hr, rfl⟩ := Option.map_eq_some_iff.mp g2
              have hr : cs[i + 1]? = some r := by rw [Nat.add_comm i 1]; exact hr
              have l2 := (List.getElem?_eq_some_iff.mp hr).1
              refine ev_is (ev_I0 (ev_var rfl) (ev_var rfl)) ?_
              have z : ((adjB rs cs).map V.bl).getD i .non = V.bl (decide (rs.idxOf q < rs.idxOf r)) := by
                unfold adjB
                rw [List.getD_eq_getElem?_getD, List.getElem?_map, List.getElem?_map, List.getElem?_range (by omega)]
                show V.bl (decide (rs.idxOf (cs.getD i []) < rs.idxOf (cs.getD (i + 1) []))) = _
                rw [List.getD_eq_getElem?_getD, List.getD_eq_getElem?_getD, hq, hr] <;> rfl
              rw [z]
              show V.bl (decide ((rs.idxOf q : Int) < (rs.idxOf r : Int))) = V.bl (decide (rs.idxOf q < rs.idxOf r))
              exact congrArg V.bl (decide_eq_decide.mpr (by omega)))) ?_) fun H3 e3 => k H3 (e12.trans e3)
          rw [adjB_all]
          have z : (RisesD rs dd) ↔ Rise rs cs := (rises_of hq).trans ⟨fun h => h.2, fun h => ⟨hc, h⟩⟩
          exact congrArg V.bl (rb_eq (by rw [rb_iff]; exact z.symm))
theorem spv_rises {x : V} {dd : PyData} {pd : Addr} {rs : List Row} {n : Nat} {H : Hp} (hx : Da H x dd) (hl : ∀ ds, seqD dd = some ds → ds.length ≤ 1000) (hpd : H pd = some (.dT (dtab rs (plc rs)))) (ho : OkRows n rs) : SpV sp_rises_in [x, .ref pd] H (.bl (rb (RisesD rs dd))) := fun H1 e Q q _ => ⟨x, dd, pd, rs, n, rfl, hx.ex e, hl, e _ _ hpd, ho, q⟩
end
end Mv
/-! check_papers of anything. -/
namespace Mv
open PySem PySem.Spec PyProof.Rows L2 Evl
/-- sorted(xs) == sorted(ys) -/
theorem ev_sortedEqB {K : PySem.W.Frag} {σ : L2.St} {H : Hp} {ta tb : TE} {n : Nat} {rs qs : List (List Int)} (ha : EvP ta σ H (fun x H2 => Rws H2 x rs)) (hb : EvP tb σ H (fun x H2 => Rws H2 x qs)) (ho : ∀ r ∈ rs, OkRow n r) (hq : ∀ r ∈ qs, OkRow n r) (h60 : rs.length < 64) (h61 : qs.length < 64) :
    Ev (tOp (rEqD K) (tCB (rSortS K n 1000) (tCons ta tNil)) (tCB (rSortS K n 1000) (tCons tb tNil))) σ H (.bl (rb (rs.Perm qs))) := fun H1 e Q q =>
  ef_sortedP ha ho h60 H1 e _ fun p H2 _ e2 ⟨cs, xs, h1, h2, h3⟩ =>
    ef_sortedP hb hq h61 H2 (e.trans e2) _ fun p' H3 _ e3 ⟨ds, ys, g1, g2, g3⟩ => by
      refine ⟨.list (cs.map rd), .list (ds.map rd), .lst (sq_of (e3 _ _ h2)) (dp_rows (Paired.imp (fun _ _ z => z.ex e3) h3)), .lst (sq_of g2) (dp_rows g3), shaped_rows _, shaped_rows _, ?_⟩
      have ez : PyData.eqv (.list (cs.map rd)) (.list (ds.map rd)) = rb (rs.Perm qs) := by
        refine rb_eq ?_
        have z := eqv_rl cs ds
        unfold rl at z
        rw [z, decide_eq_true_eq]
        constructor
        · intro h
          subst h
          exact h1.1.symm.trans g1.1
        · exact fun h => sorted_same h1 g1 ho h.symm
      rw [ez]
      exact q H3 (e2.trans e3)
/-- a part: rows that rise in rs and fall in qs -/
def Part (rs qs : List Row) (d : PyData) : Prop := ∃ L, seqD d = some (L.map rd) ∧ L ≠ [] ∧ RisesC rs L ∧ RisesC qs L.reverse
def RowsD (d : PyData) (L : List Row) : Prop := seqD d = some (L.map rd)
def flatD (ds : List PyData) : List PyData := (ds.map fun d => (seqD d).getD []).flatten
/-- what check_papers asks -/
def FitsD (rs qs : List Row) (d1 d2 : PyData) : Prop := RisesD rs d1 ∧ RisesD qs d1 ∧ ∃ ds1 ds2, seqD d1 = some ds1 ∧ seqD d2 = some ds2 ∧ ds2.length = ds1.length ∧ (∀ d ∈ ds2, Part rs qs d) ∧ ∃ Ls, Paired RowsD ds2 Ls ∧ Ls.flatten.Perm rs
/-- sizes -/
def Dom1 (d : PyData) : Prop := ∀ ds, seqD d = some ds → ds.length ≤ 1000
def Dom2 (d : PyData) : Prop := ∀ ds, seqD d = some ds → ds.length ≤ 1000 ∧ (flatD ds).length < 64
theorem item_len : ∀ {ds : List PyData} {d : PyData} {es : List PyData}, d ∈ ds → seqD d = some es → es.length ≤ (flatD ds).length
  | [], _, _, h, _ => absurd h (by simp)
  | c :: ds, d, es, h, e => by
    have z : flatD (c :: ds) = (seqD c).getD [] ++ flatD ds := rfl
    rw [z, List.length_append]
    rcases List.mem_cons.mp h with h | h
    · rw [← h, e]
      show es.length ≤ es.length + _
      omega
    · have := item_len h e
      omega
theorem parts_lists {rs qs : List Row} : ∀ {ds : List PyData}, (∀ d ∈ ds, Part rs qs d) → ∃ Ls, Paired RowsD ds Ls ∧ ∀ L ∈ Ls, L ≠ [] ∧ RisesC rs L ∧ RisesC qs L.reverse
  | [], _ => ⟨[], .nil, fun L h => absurd h (by simp)⟩
  | d :: ds, h => by
    obtain ⟨L, e, h1⟩ := h d List.mem_cons_self
    obtain ⟨Ls, p, h2⟩ := parts_lists fun d hd => h d (List.mem_cons_of_mem _ hd)
    refine ⟨L :: Ls, .cons e p, fun M hM => ?_⟩
    rcases List.mem_cons.mp hM with z | hM
    · rw [z]; exact h1
    · exact h2 M hM
theorem lists_unique : ∀ {ds : List PyData} {Ls Ms : List (List Row)}, Paired RowsD ds Ls → Paired RowsD ds Ms → Ls = Ms
  | _, _, _, .nil, .nil => rfl
  | _, _, _, .cons h t, .cons h' t' => by
    have h : seqD _ = some _ := h
    have h' : seqD _ = some _ := h'
    rw [h] at h'
    rw [map_rd_inj (Option.some.inj h'), lists_unique t t']
theorem flat_lists : ∀ {ds : List PyData} {Ls : List (List Row)}, Paired RowsD ds Ls → flatD ds = Ls.flatten.map rd
  | _, _, .nil => rfl
  | d :: ds, L :: Ls, .cons h t => by
    have z : flatD (d :: ds) = (seqD d).getD [] ++ flatD ds := rfl
    have h : seqD d = some (L.map rd) := h
    rw [z, h, flat_lists t, List.flatten_cons, List.map_append] <;> rfl
theorem lists_rws {H : Hp} : ∀ {xs : List V} {ds : List PyData} {Ls : List (List Row)}, DaAll H xs ds → Paired RowsD ds Ls → Paired (Rws H) xs Ls
  | _, _, _, .nil, .nil => .nil
  | _, _, _, .cons h t, .cons g p => .cons (h.rws g) (lists_rws t p)
section
variable {P : Program} {w : World} {K : PySem.W.Frag} {mg : Str → Option Value} {base : Heap} {a : Nat → Addr} {d : Nat → FuncData} {tk : Nat → Tok}
def sp_check_papers : Sp := fun vs H Q _ => ∃ (x y s l : V) (rs qs : List Row) (d1 d2 : PyData) (n : Nat), vs = [x, y, s, l] ∧ Rws H x rs ∧ Rws H y qs ∧ OkRows n rs ∧ qs.Perm rs ∧ Da H s d1 ∧ Da H l d2 ∧ Dom1 d1 ∧ Dom2 d2 ∧ RetV (.bl (rb (FitsD rs qs d1 d2))) H Q
theorem ok_check_papers (T : All K mg a d tk) : FnOk P w K mg base CX0 7 (a 13) (d 13) ["one", "other", "staying", "lists"] sp_check_papers := by
  refine T.F_check_papers.fn.ok sc_check_papers (fun vs H Q E h => ?_) (fun cdv A outer s H vs Q E hr h => ?_)
  · obtain ⟨x, y, s, l, rs, qs, d1, d2, n, rfl, _⟩ := h
    rfl
  · obtain ⟨x, y, s, l, rs, qs, d1, d2, dd, rfl, hx, hy, ho, pm, hs, hl, m1, m2, k⟩ := h
    have nd := sc_check_papers.nd
    have hu := hu_of hr
    have hu64 := hr.units
    have hdd := ho.w1
    have oq := ho.perm pm
    have h60 := ho.few
    refine ⟨_, (pss_cons (ps_expr (pe_call (ok_need_pair T) (hr.mono (by decide)) rfl T.F_need_pair.m T.F_need_pair.kp T.F_need_pair.b .nil pass0 (pa_cons (pv 0) (pa_cons (pv 1) pa_nil))))
 (pss_cons (ps_par (i := 4) (j := 5) rfl nd rfl rfl (by decide) rfl rfl (pa_cons (pe_call (ok_places_of T) (hr.mono (by decide)) rfl T.F_places_of.m T.F_places_of.kp T.F_places_of.b .nil pass0 (pa_cons (pv 0) pa_nil)) (pa_cons (pe_call (ok_places_of T) (hr.mono (by decide)) rfl T.F_places_of.m T.F_places_of.kp T.F_places_of.b .nil pass0 (pa_cons (pv 1) pa_nil)) pa_nil)) (by rfl))
 (pss_cons (ps_if (PW.pt (pw_or (pt_not (pt_val (pe_call (ok_rises_in T) (hr.mono (by decide)) rfl T.F_rises_in.m T.F_rises_in.kp T.F_rises_in.b .nil pass0 (pa_cons (pv 2) (pa_cons (pv 4) pa_nil))))) (pw_or1 (pt_not (pt_val (pe_call (ok_rises_in T) (hr.mono (by decide)) rfl T.F_rises_in.m T.F_rises_in.kp T.F_rises_in.b .nil pass0 (pa_cons (pv 2) (pa_cons (pv 5) pa_nil))))))))
 (pss_one (ps_ret pe_bl))
 pss_nil)
 (pss_cons (ps_if (PW.pt (pw_or (pt_not (pt_val (pe_call (ok_is_list T) (hr.mono (by decide)) rfl T.F_is_list.m T.F_is_list.kp T.F_is_list.b .nil pass0 (pa_cons (pv 3) pa_nil)))) (pw_or1 (pt_cmpR op_ne (pe_callB call_len_seq (by rfl) T.n_len PySem.boot_len (pa_cons (pv 3) pa_nil)) (pe_callB call_len_seq (by rfl) T.n_len PySem.boot_len (pa_cons (pv 2) pa_nil)) (nomark _)))))
 (pss_one (ps_ret pe_bl))
 pss_nil)
 (pss_cons (ps_for PassesOwn.never rfl (pi_seq (pv 3)) (pg_name (i := 6) nd rfl (Or.inl rfl))
 (pss_one (ps_if (PW.pt (pw_or (pt_not (pt_val (pe_call (ok_rises_in T) (hr.mono (by decide)) rfl T.F_rises_in.m T.F_rises_in.kp T.F_rises_in.b .nil pass0 (pa_cons (pv 6) (pa_cons (pv 4) pa_nil))))) (pw_or (pt_cmpR op_eq (pe_callB call_len_seq (by rfl) T.n_len PySem.boot_len (pa_cons (pv 6) pa_nil)) pe_int (nomark _)) (pw_or1 (pt_not (pt_val (pe_call (ok_rises_in T) (hr.mono (by decide)) rfl T.F_rises_in.m T.F_rises_in.kp T.F_rises_in.b .nil pass0 (pa_cons (pe_revS (pv 6)) (pa_cons (pv 5) pa_nil)))))))))
 (pss_one (ps_ret pe_bl))
 pss_nil)))
 (pss_one (ps_ret (pe_cmpR (op_eqD hu64) (pe_callB (cr_sortS (d := dd) (B := 1000) hdd) (by rfl) T.n_sorted PyProof.Rows.boot_sorted (pa_cons (pe_lc2 (own := [("rows", 6), ("row", 7)]) (vs1 := [7]) (g := (gName 6)) (g1 := (gName 7)) rfl nd (pi_seq (pv 3)) (blkOk_by (N := N_check_papers) (sc := defScope s_check_papers) (by decide +kernel)) (by decide) (fun _ _ _ _ _ => (pg_name (i := 6) nd rfl (Or.inl rfl))) (fun _ _ _ _ _ => pts_nil) (fun _ _ _ _ _ => (pi_seqK (K := K) rfl (pv 6))) (fun _ _ _ _ _ => (pg_name (i := 7) nd rfl (Or.inl rfl))) (fun _ _ _ _ _ => pts_nil) (fun _ _ _ _ _ => (pv 7))) pa_nil)) (pe_callB (cr_sortS (d := dd) (B := 1000) hdd) (by rfl) T.n_sorted PyProof.Rows.boot_sorted (pa_cons (pv 0) pa_nil)) (nomark _))))))))), ?_⟩
    refine q_drop (ev_call (ea_cons (ev_var rfl) (ea_cons (ev_var rfl) ea_nil)) (spv_need_pair hx hy ho pm)) fun H1 e1 => ?_
    refine ⟨_, rfl, x, rs, rfl, hx.ex e1, ho.nd, ho.few, fun p1 H2 np1 e2 hp1 => ?_⟩
    refine ⟨_, rfl, y, qs, rfl, hy.ex (e1.trans e2), oq.nd, oq.few, fun p2 H3 np2 e3 hp2 => ⟨_, _, rfl, ?_⟩⟩
    have e13 := (e1.trans e2).trans e3
    have hp1 := e3 _ _ hp1
    refine q_when (et_or (et_not (et_B (ev_call (ea_cons (ev_var rfl) (ea_cons (ev_var rfl) ea_nil)) (spv_rises (hs.ex e13) m1 hp1 ho)))) fun _ => et_not (et_B (ev_call (ea_cons (ev_var rfl) (ea_cons (ev_var rfl) ea_nil)) (spv_rises (hs.ex e13) m1 hp2 oq)))) (fun h H4 e4 => ?_) fun h H4 e4 => ?_
    · have z : rb (FitsD rs qs d1 d2) = false := rb_no fun ⟨g1, g2, _⟩ => by
        rw [rb_yes g1, rb_yes g2] at h
        cases h
      rw [z] at k
      exact s_ret ev_c fun H5 e5 => k H5 (e13.trans (e4.trans e5))
    rw [Bool.or_eq_false_iff] at h
    have R1 : RisesD rs d1 := rb_iff.mp (by cases z : rb (RisesD rs d1) with | true => rfl | false => rw [z] at h; exact absurd h.1 (by decide))
    have R2 : RisesD qs d1 := rb_iff.mp (by cases z : rb (RisesD qs d1) with | true => rfl | false => rw [z] at h; exact absurd h.2 (by decide))
    obtain ⟨cs, hc1, hcR⟩ := id R1
    have e14 := e13.trans e4
    obtain ⟨sb, ss, rfl, hss, hsp⟩ := hs.seq hc1
    have lss : ss.length = cs.length := by rw [Paired.length hsp.p, List.length_map]
    cases hq : seqD d2 with
    | none =>
      have z : rb (FitsD rs qs d1 d2) = false := rb_no fun ⟨_, _, ds1, ds2, _, g2, _⟩ => by rw [hq] at g2; cases g2
      rw [z] at k
      refine q_when (b := true) (et_is (et_or (b := false) (et_not (et_B (ev_call (ea_cons (ev_var rfl) ea_nil) (spv_isq (hl.isq.ex e14))))) fun h => ?_) (by rw [hq] <;> rfl)) (fun _ H5 e5 => s_ret ev_c fun H6 e6 => k H6 (e14.trans (e5.trans e6))) fun h => nomatch h
      rw [hq] at h
      cases h
    | some ds2 =>
    obtain ⟨lb, ls, rfl, hls, hlp⟩ := hl.seq hq
    have lls : ls.length = ds2.length := Paired.length hlp.p
    obtain ⟨m2a, m2b⟩ := m2 ds2 hq
    refine q_when (b := !decide (V.int (ls.length : Int) = V.int (ss.length : Int))) (et_or (a := false) (et_not (et_B (ev_call (ea_cons (ev_var rfl) ea_nil) (spv_is_list (hls.ex e14))))) fun _ => et_test (ev_op (ev_lenS (ev_var rfl) (hls.ex e14)) (ev_lenS (ev_var rfl) (hss.ex e14)) (rv_ne rfl))) (fun h H5 e5 => ?_) fun h H5 e5 => ?_
    · have z : rb (FitsD rs qs d1 d2) = false := rb_no fun ⟨_, _, ds1, ds2', g1, g2, g3, _⟩ => by
        rw [hq] at g2
        rw [hc1] at g1
        cases g1
        cases g2
        rw [lls, lss, g3, List.length_map, decide_eq_true rfl] at h
        cases h
      rw [z] at k
      exact s_ret ev_c fun H6 e6 => k H6 (e14.trans (e5.trans e6))
    have hlen : ds2.length = (cs.map rd).length := by
      rw [List.length_map]
      by_cases z : (ls.length : Int) = (ss.length : Int)
      · omega
      · rw [decide_eq_false fun e => z (by injection e)] at h
        cases h
    have e15 := e14.trans e5
    let Pv : Nat → L2.St → Hp → Prop := fun i σ' H' => Ex H5 H' ∧ (∀ d ∈ ds2.take i, Part rs qs d) ∧ ∃ v6, σ' = [some x, some y, some (.ref sb), some (.ref lb), some (.ref p1), some (.ref p2), v6, none]
    refine q_forS (a := lb) (xs := ls) (ev_var rfl) (hls.ex e15) Pv (fun H6 e6 => ⟨e6, fun d h => absurd h (by simp), _, rfl⟩) (fun i σ' H' _ h => hls.elim (fun z => ((e15.trans h.1) _ _ z).trans (e15 _ _ z).symm) fun z => ((e15.trans h.1) _ _ z).trans (e15 _ _ z).symm) ?_ ?_
    · rintro i z σ' H' hi ⟨e6, hP, v6, rfl⟩
      obtain ⟨di, hdi, hz⟩ := Paired.at_l hlp.p i z hi
      have mdi := List.mem_of_getElem? hdi
      have e16 := e15.trans e6
      have e56 := (e4.trans e5).trans e6
      have hz' := hz.ex e16
      have mi : Dom1 di := fun es he => by have := item_len mdi he; omega
      have no : ¬ Part rs qs di → rb (FitsD rs qs d1 d2) = false := fun hn => rb_no fun ⟨_, _, ds1, ds2', _, g2, _, g4, _⟩ => by
        rw [hq] at g2
        cases g2
        exact hn (g4 di mdi)
      by_cases hR : RisesD rs di
      · obtain ⟨L, eL, hLR⟩ := id hR
        have hzr := hz'.rws eL
        obtain ⟨zb, zs, rfl, hzb, hzp⟩ := id hzr
        have lz : zs.length = L.length := Paired.length hzp
        have lL : L.length ≤ 1000 := by have := mi _ eL; rwa [List.length_map] at this
        have t3 : EvT (tB (tCall sp_rises_in [] E0 (tCons (tRevS K (tVar 6)) (tCons (tVar 5) tNil)))) [some x, some y, some (.ref sb), some (.ref lb), some (.ref p1), some (.ref p2), some (.ref zb), none] H' (rb (RisesC qs L.reverse)) := by
          refine et_B fun H7 e7 Q q => ?_
          refine (es_rev (K := K) (te := tVar 6) (σ := [some x, some y, some (.ref sb), some (.ref lb), some (.ref p1), some (.ref p2), some (.ref zb), none]) (ev_var rfl) hzb) H7 e7 _ fun rb' H8 nrb e8 hrb => ?_
          have e78 := e7.trans e8
          refine ⟨.ref p2, rfl, ?_⟩
          have hw : Rws H8 (.ref rb') L.reverse := ⟨rb', _, rfl, hrb, Paired.rev (Paired.imp (fun _ _ h => h.ex e78) hzp)⟩
          obtain ⟨dr, hdr, sdr⟩ := hw.da
          have er : rb (RisesC qs L.reverse) = rb (RisesD qs dr) := rb_eq (by rw [rb_iff]; exact (rises_of sdr).symm)
          rw [er] at q
          exact ⟨_, dr, p2, qs, dd, rfl, hdr, fun es he => by rw [sdr] at he; cases he; rw [List.length_map, List.length_reverse]; exact lL, (e56.trans e78) _ _ hp2, oq, fun H9 e9 => q H9 (e8.trans e9)⟩
        refine s_when (et_or (et_not (et_B (ev_call (ea_cons (ev_var rfl) (ea_cons (ev_var rfl) ea_nil)) (spv_rises hz' mi (e56 _ _ hp1) ho)))) fun _ => et_or (et_test (ev_op (ev_lenS (ev_var rfl) hzb) ev_c (rv_eq rfl))) fun _ => et_not t3) (fun h H7 e7 => ?_) fun h H7 e7 => ?_
        · have hn : ¬ Part rs qs di := fun ⟨L', eL', g1, g2, g3⟩ => by
            rw [eL] at eL'
            cases map_rd_inj (Option.some.inj eL')
            have n0 : L.length ≠ 0 := fun z => g1 (List.length_eq_zero_iff.mp z)
            rw [rb_yes hR, rb_yes g3, decide_eq_false (fun z : V.int (zs.length : Int) = V.int 0 => by injection z with z; omega)] at h
            cases h
          rw [no hn] at k
          exact s_ret ev_c fun H8 e8 => k H8 (e16.trans (e7.trans e8))
        · rw [Bool.or_eq_false_iff, Bool.or_eq_false_iff] at h
          have hp : Part rs qs di := ⟨L, eL, fun z => by
            have := of_decide_eq_false h.2.1
            rw [lz, z] at this
            exact this rfl, hLR, rb_iff.mp (by cases z : rb (RisesC qs L.reverse) with | true => rfl | false => rw [z] at h; exact absurd h.2.2 (by decide))⟩
          refine ⟨e6.trans e7, fun d hd => ?_, _, rfl⟩
          rw [take_next hdi] at hd
          rcases List.mem_append.mp hd with hd | hd
          · exact hP d hd
          · rw [List.mem_singleton.mp hd]; exact hp
      · rw [no fun ⟨L, g1, _, g2, _⟩ => hR ⟨L, g1, g2⟩] at k
        refine s_when (b := true) (et_is (et_or (b := false) (et_not (et_B (ev_call (ea_cons (ev_var rfl) (ea_cons (ev_var rfl) ea_nil)) (spv_rises hz' mi (e56 _ _ hp1) ho)))) fun h => ?_) (by rw [rb_no hR] <;> rfl)) (fun _ H7 e7 => s_ret ev_c fun H8 e8 => k H8 (e16.trans (e7.trans e8))) fun h => nomatch h
        rw [rb_no hR] at h
        cases h
    · rintro σ' H' ⟨e6, hP, v6, rfl⟩
      have e16 := e15.trans e6
      rw [lls, List.take_length] at hP
      obtain ⟨Ls, hLs, hLP⟩ := parts_lists hP
      have hrw : Paired (Rws H) ls Ls := lists_rws hlp hLs
      have fl := flat_lists hLs
      have fl2 : (flatD ds2).length = Ls.flatten.length := by rw [fl, List.length_map]
      obtain ⟨zss, z1, z2⟩ := lss_flat hrw
      have lz : zss.flatten.length = Ls.flatten.length := Paired.length z2
      have c1 := el_flat (K := K) (σ := [some x, some y, some (.ref sb), some (.ref lb), some (.ref p1), some (.ref p2), v6, none]) (H := H') (tl := tVar 3) (j := 6) (j1 := 7) (vs := [6, 7]) (ev_var rfl) (hls.ex e16) (Paired.imp (fun _ _ h => h.ex e16) z1) (by omega) (fun _ => rfl) (fun _ _ => rfl) (fun _ => rfl) (fun _ => rfl) (fun _ _ => rfl)
      have c2 : EvP (tLc2 (iSeq K (tVar 3)) (gName 6) tYes (iSeq K (tVar 6)) (gName 7) tYes (tVar 7) [6, 7] [7]) [some x, some y, some (.ref sb), some (.ref lb), some (.ref p1), some (.ref p2), v6, none] H' (fun v H2 => Rws H2 v Ls.flatten) := fun H7 e7 Q q =>
        c1 H7 e7 _ fun p H8 np e8 h8 => q _ H8 e8 ⟨p, _, rfl, .inl h8, Paired.imp (fun _ _ h => h.ex (e16.trans (e7.trans e8))) z2⟩
      have oF : ∀ r ∈ Ls.flatten, OkRow dd r := fun r hr => by
        obtain ⟨L, hL, hrL⟩ := List.mem_flatten.mp hr
        exact ho.row r ((hLP L hL).2.1.1 r hrL)
      have c3 : EvP (tVar 0) [some x, some y, some (.ref sb), some (.ref lb), some (.ref p1), some (.ref p2), v6, none] H' (fun v H2 => Rws H2 v rs) := fun H7 e7 Q q => ⟨x, rfl, q x H7 (Ex.refl _) (hx.ex (e16.trans e7))⟩
      have ef : rb (Ls.flatten.Perm rs) = rb (FitsD rs qs d1 d2) := rb_eq (by
        rw [rb_iff]
        refine ⟨fun h => ⟨R1, R2, _, _, hc1, hq, hlen, hP, Ls, hLs, h⟩, fun ⟨_, _, ds1, ds2', _, g2, _, _, Ls', g5, g6⟩ => ?_⟩
        rw [hq] at g2
        cases g2
        rw [lists_unique hLs g5]
        exact g6)
      rw [← ef] at k
      exact s_ret (ev_sortedEqB c2 c3 oF ho.row (by omega) (by omega)) fun H9 e9 => k H9 (e16.trans e9)
theorem spv_papers {x y s l : V} {rs qs : List Row} {d1 d2 : PyData} {n : Nat} {H : Hp} (hx : Rws H x rs) (hy : Rws H y qs) (ho : OkRows n rs) (pm : qs.Perm rs) (hs : Da H s d1) (hl : Da H l d2) (m1 : Dom1 d1) (m2 : Dom2 d2) : SpV sp_check_papers [x, y, s, l] H (.bl (rb (FitsD rs qs d1 d2))) := fun H1 e Q q _ => ⟨x, y, s, l, rs, qs, d1, d2, n, rfl, hx.ex e, hy.ex e, ho, pm, hs.ex e, hl.ex e, m1, m2, q⟩
end
end Mv
/-! is_move, are_moves, check_moves of anything. -/
namespace Mv
open PySem PySem.Spec PyProof.Rows L2 Evl
def oD : Option Row → PyData
  | none => .none
  | some r => rd r
def MvD (d : PyData) (m : Move) : Prop := d = .tuple [rd m.1, oD m.2]
def moveB : PyData → Bool
  | .tuple [a, b] => rowAnyB a && (match b with | .none => true | b => rowAnyB b)
  | _ => false
def isNonD : PyData → Bool
  | .none => true
  | _ => false
theorem moveB_two (a b : PyData) : moveB (.tuple [a, b]) = (rowAnyB a && (isNonD b || rowAnyB b)) := by
  cases b <;> rfl
theorem moveB_len {ds : List PyData} (h : ds.length ≠ 2) : moveB (.tuple ds) = false := by
  match ds, h with
  | [], _ => rfl
  | [_], _ => rfl
  | [_, _], h => exact absurd rfl h
  | _ :: _ :: _ :: _, _ => rfl
theorem moveB_of {d : PyData} (h : moveB d = true) : ∃ m : Move, MvD d m := by
  match d, h with
  | .tuple [a, b], h =>
    rw [moveB_two, Bool.and_eq_true] at h
    obtain ⟨r, rfl, _⟩ := rowAny_of h.1
    cases hb : isNonD b with
    | true =>
      cases b with
      | none => exact ⟨(r, none), rfl⟩
      | _ => cases hb
    | false =>
      rw [hb] at h
      obtain ⟨q, rfl, _⟩ := rowAny_of (d := b) h.2
      exact ⟨(r, some q), rfl⟩
theorem MvD.fn {d : PyData} {m m' : Move} (h : MvD d m) (h' : MvD d m') : m = m' := by
  unfold MvD at h h'
  rw [h] at h'
  injection h' with h'
  injection h' with e1 e2
  injection e2 with e2 _
  have a := rd_inj e1
  obtain ⟨r, o⟩ := m
  obtain ⟨r', o'⟩ := m'
  cases a
  cases o with
  | none => cases o' with
    | none => rfl
    | some q => cases e2
  | some q => cases o' with
    | none => cases e2
    | some q' => rw [show q = q' from rd_inj e2]
theorem Da.mv {H : Hp} {x : V} {d : PyData} {m : Move} (h : Da H x d) (e : MvD d m) : IsMv H x m.1 m.2 := by
  unfold MvD at e
  subst e
  obtain ⟨a, xs, rfl, h1, h2⟩ := Da.tup' h
  cases h2 with
  | cons g1 t =>
    cases t with
    | cons g2 t =>
      cases t
      refine ⟨a, _, _, rfl, h1, g1.row, ?_⟩
      cases ho : m.2 with
      | none =>
        rw [ho] at g2
        cases g2
        exact rfl
      | some q =>
        rw [ho] at g2
        exact Da.row g2
theorem IsMv.da {H : Hp} {x : V} {m : Move} (h : IsMv H x m.1 m.2) : Da H x (.tuple [rd m.1, oD m.2]) := by
  obtain ⟨a, vr, vo, rfl, h1, h2, h3⟩ := h
  refine .tup h1 (.cons h2.da (.cons ?_ .nil))
  cases ho : m.2 with
  | none =>
    rw [ho] at h3
    cases (show vo = .non from h3)
    exact .non
  | some q =>
    rw [ho] at h3
    exact IsRow.da h3
/-- so many moves as there have to be -/
def Cnt (rs qs : List Row) (n : Nat) : Prop := ∃ lev ahd M, LevOn [rs, qs] rs lev ahd ∧ IsCount rs lev M ∧ n + M = rs.length
theorem cnt_iff {rs qs : List Row} {n : Nat} {lev : Row → Nat} {ahd : Row → Option Row} {M : Nat} (L : LevOn [rs, qs] rs lev ahd) (hM : IsCount rs lev M) : Cnt rs qs n ↔ n + M = rs.length :=
  ⟨fun ⟨lev', ahd', M', L', hM', h⟩ => by rw [count_unique L L' List.mem_cons_self hM hM']; exact h, fun h => ⟨lev, ahd, M, L, hM, h⟩⟩
/-- what check_moves asks -/
def LeadsD (rs qs : List Row) (d : PyData) : Prop := ∃ ds ms, seqD d = some ds ∧ Paired MvD ds ms ∧ Cnt rs qs ds.length ∧ led rs ms = some qs
theorem led_mem {rs : List Row} (nd : rs.Nodup) : ∀ {ms : List Move} {l : List Row}, led rs ms = some l → ∀ m ∈ ms, m.1 ∈ rs ∧ inO rs m.2 = true := by
  intro ms l h m hm
  obtain ⟨i, hi⟩ := List.mem_iff_getElem?.mp hm
  obtain ⟨l1, h1⟩ := led_take h i
  obtain ⟨l2, h2⟩ := led_take h (i + 1)
  rw [take_next hi, led_snoc, h1] at h2
  have h2 : done l1 m.1 m.2 = some l2 := h2
  have pl := led_perm nd _ _ h1
  have hy : m.1 ∈ l1 ∧ m.2 ≠ some m.1 ∧ inO l1 m.2 = true := by
    by_cases c : m.1 ∈ l1 ∧ m.2 ≠ some m.1 ∧ inO l1 m.2 = true
    · exact c
    · unfold done at h2
      rw [if_neg c] at h2
      cases h2
  refine ⟨pl.mem_iff.mp hy.1, ?_⟩
  cases ho : m.2 with
  | none => rfl
  | some q =>
    have z := hy.2.2
    rw [ho] at z
    exact decide_eq_true (pl.mem_iff.mp (of_decide_eq_true z))
theorem mv_ok {rs : List Row} {n : Nat} (ho : OkRows n rs) {m : Move} (h1 : m.1 ∈ rs) (h2 : inO rs m.2 = true) {d : PyData} (e : MvD d m) : moveB d = true := by
  unfold MvD at e
  rw [e, moveB_two, show rowAnyB (rd m.1) = true from rowAny_ok (ho.row _ h1) ho.w1 ho.w5]
  cases hm : m.2 with
  | none => rfl
  | some q =>
    rw [hm] at h2
    rw [show rowAnyB (oD (some q)) = true from rowAny_ok (ho.row _ (of_decide_eq_true h2)) ho.w1 ho.w5, Bool.or_true] <;> rfl
theorem moves_of : ∀ {ds : List PyData}, ds.all moveB = true → ∃ ms, Paired MvD ds ms
  | [], _ => ⟨[], .nil⟩
  | d :: ds, h => by
    rw [List.all_cons, Bool.and_eq_true] at h
    obtain ⟨m, hm⟩ := moveB_of h.1
    obtain ⟨ms, hms⟩ := moves_of h.2
    exact ⟨m :: ms, .cons hm hms⟩
theorem moves_fn : ∀ {ds : List PyData} {ms ms' : List Move}, Paired MvD ds ms → Paired MvD ds ms' → ms = ms'
  | _, _, _, .nil, .nil => rfl
  | _, _, _, .cons h t, .cons h' t' => by rw [h.fn h', moves_fn t t']
theorem moves_av {H : Hp} : ∀ {xs : List V} {ds : List PyData} {ms : List Move}, DaAll H xs ds → Paired MvD ds ms → MvAll H xs ms
  | _, _, _, .nil, .nil => .nil
  | _, _, _, .cons h t, .cons g p => .cons (h.mv g) (moves_av t p)
def movesB (d : PyData) : Bool := match seqD d with
  | none => false
  | some ds => decide (ds.length ≤ 300) && ds.all moveB
section
variable {P : Program} {w : World} {K : PySem.W.Frag} {mg : Str → Option Value} {base : Heap} {a : Nat → Addr} {d : Nat → FuncData} {tk : Nat → Tok}
theorem Da.isN {H : Hp} {x : V} {d : PyData} (h : Da H x d) : decide (x = .non) = isNonD d := by
  cases h <;> first | rfl | exact decide_eq_false (fun z => nomatch z)
def sp_is_move : Sp := fun vs H Q _ => ∃ (x : V) (dd : PyData), vs = [x] ∧ Da H x dd ∧ RetV (.bl (moveB dd)) H Q
theorem ok_is_move (T : All K mg a d tk) : FnOk P w K mg base CX0 4 (a 15) (d 15) ["value"] sp_is_move := by
  refine T.F_is_move.fn.ok sc_is_move (fun vs H Q E h => ?_) (fun cdv A outer s H vs Q E hr h => ?_)
  · obtain ⟨x, dd, rfl, _⟩ := h
    rfl
  · obtain ⟨x, dd, rfl, hd, k⟩ := h
    have nd := sc_is_move.nd
    refine ⟨_, (pss_cons (ps_if (PW.pt (pw_or (pt_not (pt_val (pe_callB call_isi (by rfl) T.n_isinstance PyProof.Rows.boot_isinstance (pa_cons (pv 0) (pa_cons (pe_bltn (v := .ty "tuple") rfl T.n_tuple PyProof.Rows.boot_tuple rfl) pa_nil))))) (pw_or (pt_cmpR op_ne (pe_callB call_len_seq (by rfl) T.n_len PySem.boot_len (pa_cons (pv 0) pa_nil)) pe_int (nomark _)) (pw_or1 (pt_not (pt_val (pe_call (ok_is_any_row T) (hr.mono (by decide)) rfl T.F_is_any_row.m T.F_is_any_row.kp T.F_is_any_row.b .nil pass0 (pa_cons (pe_ix ix_seq (pv 0) pe_int (fun _ _ => rfl)) pa_nil))))))))
 (pss_one (ps_ret pe_bl))
 pss_nil)
 (pss_one (ps_ret (pe_or (pe_cmp (pc_isN (pe_ix ix_seq (pv 0) pe_int (fun _ _ => rfl)))) (pe_one (pe_call (ok_is_any_row T) (hr.mono (by decide)) rfl T.F_is_any_row.m T.F_is_any_row.kp T.F_is_any_row.b .nil pass0 (pa_cons (pe_ix ix_seq (pv 0) pe_int (fun _ _ => rfl)) pa_nil))))))), ?_⟩
    by_cases ht : ∃ ds, dd = .tuple ds
    · obtain ⟨ds, rfl⟩ := ht
      obtain ⟨b, xs, rfl, hb, hp⟩ := hd.tup'
      have hl : xs.length = ds.length := Paired.length hp.p
      by_cases h2 : ds.length = 2
      · match ds, h2 with
        | [p, q], _ =>
        cases hp with
        | cons g1 t =>
        rename_i v1 _
        cases t with
        | cons g2 t =>
        rename_i v2 _
        cases t
        refine q_when (b := !rowAnyB p) (et_or (a := false) (et_not (et_B (ev_isTupD (ev_var rfl) hd))) fun _ => et_or (a := false) (et_test (ev_op (ev_lenS (ev_var rfl) (.inr hb)) ev_c (rv_ne rfl))) fun _ => et_not (et_B (ev_call (ea_cons (ev_ixS (i := 0) (ev_var rfl) ev_c (.inr hb) rfl) ea_nil) (spv_anyD g1)))) (fun h H1 e1 => ?_) fun h H1 e1 => ?_
        · have z : moveB (.tuple [p, q]) = false := by
            rw [moveB_two]
            cases z : rowAnyB p with
            | true => rw [z] at h; cases h
            | false => rfl
          rw [z] at k
          exact s_ret ev_c fun H2 e2 => k H2 (e1.trans e2)
        · have z : moveB (.tuple [p, q]) = (isNonD q || rowAnyB q) := by
            rw [moveB_two]
            cases z : rowAnyB p with
            | true => rfl
            | false => rw [z] at h; cases h
          rw [z] at k
          have c1 : Ev (tIsN (tOp (rIx K) (tVar 0) (tC (.int 1)))) [some (V.ref b)] H1 (.bl (isNonD q)) := ev_is (ev_isN (ev_ixS (i := 1) (ev_var rfl) ev_c (.inr (e1 _ _ hb)) rfl)) (by rw [g2.isN])
          exact s_ret (ev_orV c1 fun _ => ev_call (ea_cons (ev_ixS (i := 1) (ev_var rfl) ev_c (.inr (e1 _ _ hb)) rfl) ea_nil) (spv_anyD (g2.ex e1))) fun H2 e2 => k H2 (e1.trans e2)
      · rw [moveB_len h2] at k
        refine q_when (b := true) (et_is (et_or (et_not (et_B (ev_isTupD (ev_var rfl) hd))) fun _ => et_or (b := false) (et_test (ev_op (ev_lenS (ev_var rfl) (.inr hb)) ev_c (rv_ne rfl))) fun h => ?_) ?_) (fun h H1 e1 => s_ret ev_c fun H2 e2 => k H2 (e1.trans e2)) fun h => nomatch h
        · have h : (!decide (V.int (xs.length : Int) = V.int 2)) = false := h
          rw [decide_eq_false fun e => by injection e with e; omega] at h
          cases h
        · rw [decide_eq_false fun e : V.int (xs.length : Int) = V.int 2 => by injection e with e; omega] <;> rfl
    · have z : isTupD dd = false := by cases dd <;> first | rfl | exact absurd ⟨_, rfl⟩ ht
      have z2 : moveB dd = false := by cases dd <;> first | rfl | exact absurd ⟨_, rfl⟩ ht
      rw [z2] at k
      refine q_when (b := true) (et_is (et_or (b := false) (et_not (et_B (ev_isTupD (ev_var rfl) hd))) fun h => ?_) (by rw [z] <;> rfl)) (fun h H1 e1 => s_ret ev_c fun H2 e2 => k H2 (e1.trans e2)) fun h => nomatch h
      rw [z] at h
      cases h
theorem spv_moveD {x : V} {dd : PyData} {H : Hp} (h : Da H x dd) : SpV sp_is_move [x] H (.bl (moveB dd)) := fun H1 e Q q _ => ⟨x, dd, rfl, h.ex e, q⟩
def sp_are_moves : Sp := fun vs H Q _ => ∃ (x : V) (dd : PyData), vs = [x] ∧ Da H x dd ∧ Dom1 dd ∧ RetV (.bl (movesB dd)) H Q
theorem ok_are_moves (T : All K mg a d tk) : FnOk P w K mg base CX0 5 (a 16) (d 16) ["value"] sp_are_moves := by
  refine T.F_are_moves.fn.ok sc_are_moves (fun vs H Q E h => ?_) (fun cdv A outer s H vs Q E hr h => ?_)
  · obtain ⟨x, dd, rfl, _⟩ := h
    rfl
  · obtain ⟨x, dd, rfl, hd, hm, k⟩ := h
    have nd := sc_are_moves.nd
    refine ⟨_, (pss_one (ps_ret (pe_and (pe_call (ok_is_list T) (hr.mono (by decide)) rfl T.F_is_list.m T.F_is_list.kp T.F_is_list.b .nil pass0 (pa_cons (pv 0) pa_nil)) (pe_and (pe_cmpR op_le (pe_callB call_len_seq (by rfl) T.n_len PySem.boot_len (pa_cons (pv 0) pa_nil)) (pe_glob (v := .int 300) rfl T.c_MOST_MOVES ⟨_, rfl⟩) (nomark _)) (pe_one (pe_callB (cr_all rfl) (by rfl) T.n_all PyProof.Rows.boot_all (pa_cons (pe_lc (own := [("item", 1)]) (g := (gName 1)) rfl nd (pi_seq (pv 0)) (blkOk_by (N := N_are_moves) (sc := defScope s_are_moves) (by decide +kernel)) (fun _ _ _ _ _ => (pg_name (i := 1) nd rfl (Or.inl rfl))) (fun _ _ _ _ _ => pts_nil) (fun _ _ _ _ _ => (pe_call (ok_is_move T) (hr.mono (by decide)) rfl T.F_is_move.m T.F_is_move.kp T.F_is_move.b .nil pass0 (pa_cons (pv 1) pa_nil)))) pa_nil))))))), ?_⟩
    cases hq : seqD dd with
    | none =>
      refine s_ret (ev_is (ev_andV (b := false) (ev_call (ea_cons (ev_var rfl) ea_nil) (spv_isq hd.isq)) fun h => ?_) (by unfold movesB; rw [hq] <;> rfl)) k
      rw [hq] at h
      cases h
    | some ds =>
      obtain ⟨p, xs, rfl, hs, hp⟩ := hd.seq hq
      have hlen : xs.length = ds.length := Paired.length hp.p
      have hz := hm ds hq
      refine s_ret (ev_is (ev_andV (ev_call (ea_cons (ev_var rfl) ea_nil) (spv_is_list hs)) fun _ => ev_andV (ev_I0 (g := fun i j => .bl (decide (i ≤ j))) (ev_lenS (ev_var rfl) hs) ev_c) fun _ => ev_allD (ds := ds) moveB (ev_var rfl) hs hp (by omega) (fun _ => rfl) fun y dy H2 e2 _ _ hy => ev_call (ea_cons (ev_var rfl) ea_nil) (spv_moveD hy)) ?_) k
      unfold movesB
      rw [hq]
      have z : decide ((xs.length : Int) ≤ 300) = decide (ds.length ≤ 300) := decide_eq_decide.mpr (by omega)
      rw [z] <;> rfl
theorem spv_movesD {x : V} {dd : PyData} {H : Hp} (h : Da H x dd) (hm : Dom1 dd) : SpV sp_are_moves [x] H (.bl (movesB dd)) := fun H1 e Q q _ => ⟨x, dd, rfl, h.ex e, hm, q⟩
def sp_check_moves : Sp := fun vs H Q _ => ∃ (x y z : V) (rs qs : List Row) (dd : PyData) (n : Nat), vs = [x, y, z] ∧ Rws H x rs ∧ Rws H y qs ∧ OkRows n rs ∧ qs.Perm rs ∧ Da H z dd ∧ Dom1 dd ∧ RetV (.bl (rb (LeadsD rs qs dd))) H Q
theorem ok_check_moves (T : All K mg a d tk) : FnOk P w K mg base CX0 7 (a 18) (d 18) ["one", "other", "moves"] sp_check_moves := by
  refine T.F_check_moves.fn.ok sc_check_moves (fun vs H Q E h => ?_) (fun cdv A outer s H vs Q E hr h => ?_)
  · obtain ⟨x, y, z, rs, qs, dd, n, rfl, _⟩ := h
    rfl
  · obtain ⟨x, y, z, rs, qs, dd, n, rfl, hx, hy, ho, pm, hz, hm, k⟩ := h
    have nd := sc_check_moves.nd
    have hu0 := hr.units0
    have hu64 := hr.units
    refine ⟨_, (pss_cons (ps_expr (pe_call (ok_need_pair T) (hr.mono (by decide)) rfl T.F_need_pair.m T.F_need_pair.kp T.F_need_pair.b .nil pass0 (pa_cons (pv 0) (pa_cons (pv 1) pa_nil))))
 (pss_cons (ps_if (PW.pt (pw_or (pt_not (pt_val (pe_call (ok_are_moves T) (hr.mono (by decide)) rfl T.F_are_moves.m T.F_are_moves.kp T.F_are_moves.b .nil pass0 (pa_cons (pv 2) pa_nil)))) (pw_or1 (pt_cmpR op_ne (pe_callB call_len_seq (by rfl) T.n_len PySem.boot_len (pa_cons (pv 2) pa_nil)) (pe_op op_sub (pe_callB call_len_seq (by rfl) T.n_len PySem.boot_len (pa_cons (pv 0) pa_nil)) (pe_callB call_len_seq (by rfl) T.n_len PySem.boot_len (pa_cons (pe_call (ok_longest_of T) (hr.mono (by decide)) rfl T.F_longest_of.m T.F_longest_of.kp T.F_longest_of.b .nil pass0 (pa_cons (pv 0) (pa_cons (pv 1) pa_nil))) pa_nil))) (nomark _)))))
 (pss_one (ps_ret pe_bl))
 pss_nil)
 (pss_cons (ps_set (i := 3) nd rfl (Or.inl rfl) (pe_callTy call_list_of rfl T.n_list PyProof.Rows.boot_list (pa_cons (pv 0) pa_nil)))
 (pss_cons (ps_for PassesOwn.never rfl (pi_seq (pv 2)) (pg_name (i := 4) nd rfl (Or.inl rfl))
 (pss_cons (ps_set (i := 3) nd rfl (Or.inl rfl) (pe_call (ok_moved T) (hr.mono (by decide)) rfl T.F_moved.m T.F_moved.kp T.F_moved.b .nil pass0 (pa_cons (pv 3) (pa_cons (pv 4) pa_nil))))
 (pss_one (ps_if (pt_cmp (pc_isN (pv 3)))
 (pss_one (ps_ret pe_bl))
 pss_nil))))
 (pss_one (ps_ret (pe_cmpR (op_eqD hu64) (pv 3) (pe_callTy call_list_of rfl T.n_list PyProof.Rows.boot_list (pa_cons (pv 1) pa_nil)) (nomark _)))))))), ?_⟩
    refine q_drop (ev_call (ea_cons (ev_var rfl) (ea_cons (ev_var rfl) ea_nil)) (spv_need_pair hx hy ho pm)) fun H1 e1 => ?_
    obtain ⟨a0, xs, rfl, hs, hp⟩ := id hx
    obtain ⟨b0, ys, rfl, ht, hq⟩ := id hy
    have nR := ho.nd
    have h60 := ho.few
    cases hsd : seqD dd with
    | none =>
      have z1 : rb (LeadsD rs qs dd) = false := rb_no fun ⟨_, _, e, _⟩ => by rw [hsd] at e; cases e
      have z2 : movesB dd = false := by unfold movesB; rw [hsd]
      rw [z1] at k
      refine q_when (b := true) (et_is (et_or (b := false) (et_not (et_B (ev_call (ea_cons (ev_var rfl) ea_nil) (spv_movesD (hz.ex e1) hm)))) fun h => ?_) (by rw [z2] <;> rfl)) (fun _ H2 e2 => s_ret ev_c fun H3 e3 => k H3 (e1.trans (e2.trans e3))) fun h => nomatch h
      rw [z2] at h
      cases h
    | some ds =>
    obtain ⟨c0, zs, rfl, hc, hmv⟩ := hz.seq hsd
    have lzs : zs.length = ds.length := Paired.length hmv.p
    have c1 : Ev (tCB (rLenS K) (tCons (tVar 0) tNil)) [some (V.ref a0), some (.ref b0), some (.ref c0), none, none] H1 (.int (xs.length : Int)) := ev_lenS (ev_var rfl) (hs.ex e1)
    have c2 := ep_lenLong (K := K) (σ := [some (V.ref a0), some (.ref b0), some (.ref c0), none, none]) (H := H1) (ta := tVar 0) (tb := tVar 1) (E := fun _ _ _ => False) (ev_var rfl) (ev_var rfl) (hx.ex e1) (hy.ex e1) ho pm
    have c3 : Ev (tCB (rLenS K) (tCons (tVar 2) tNil)) [some (V.ref a0), some (.ref b0), some (.ref c0), none, none] H1 (.int (zs.length : Int)) := ev_lenS (ev_var rfl) (hc.ex e1)
    have t1 : EvT (tTest (tOp rNe (tCB (rLenS K) (tCons (tVar 2) tNil)) (tOp (rI0 fun i j => .int (i - j)) (tCB (rLenS K) (tCons (tVar 0) tNil)) (tCB (rLenS K) (tCons (tCall sp_longest_of [] (fun _ _ _ => False) (tCons (tVar 0) (tCons (tVar 1) tNil))) tNil))))) [some (V.ref a0), some (.ref b0), some (.ref c0), none, none] H1 (!rb (Cnt rs qs ds.length)) := fun H2 e Q q =>
      c3 H2 e _ fun H3 e3 => (ep_I0 (f := fun i j => .int (i - j)) c1 c2) H3 (e.trans e3) _ fun v H4 e4 ⟨j, ev, lev, ahd, M, ej, h1, h2⟩ => by
        subst ev
        subst ej
        refine ⟨rfl, _, rfl, ?_⟩
        have lx : xs.length = rs.length := Paired.length hp
        have : (!decide (V.int (zs.length : Int) = V.int ((xs.length : Int) - (M : Nat)))) = !rb (Cnt rs qs ds.length) := by
          refine congrArg Bool.not (rb_eq ?_)
          rw [decide_eq_true_eq, cnt_iff h1 h2]
          constructor
          · intro e
            injection e with e
            omega
          · intro e
            exact congrArg V.int (by omega)
        rw [this]
        exact q H4 (e3.trans e4)
    refine q_when (et_or (et_not (et_B (ev_call (ea_cons (ev_var rfl) ea_nil) (spv_movesD (hz.ex e1) hm)))) fun _ => t1) (fun h H2 e2 => ?_) fun h H2 e2 => ?_
    · have z1 : rb (LeadsD rs qs dd) = false := rb_no fun ⟨ds', ms, e, g1, g2, g3⟩ => by
        rw [hsd] at e
        cases e
        rw [rb_yes g2] at h
        obtain ⟨lev, ahd, M, L, hM, _⟩ := g2
        have am : ds.all moveB = true := by
          rw [List.all_eq_true]
          intro d hd
          obtain ⟨m, hm, e⟩ := Paired.mem_l g1 d hd
          obtain ⟨w1, w2⟩ := led_mem nR g3 m hm
          exact mv_ok ho w1 w2 e
        unfold movesB at h
        rw [hsd] at h
        have h : (!(decide (ds.length ≤ 300) && ds.all moveB) || !true) = true := h
        rw [am, decide_eq_true (show ds.length ≤ 300 by omega)] at h
        cases h
      rw [z1] at k
      exact s_ret ev_c fun H3 e3 => k H3 (e1.trans (e2.trans e3))
    rw [Bool.or_eq_false_iff] at h
    have hB : movesB dd = true := by cases z : movesB dd with | true => rfl | false => rw [z] at h; exact absurd h.1 (by decide)
    have hC : Cnt rs qs ds.length := rb_iff.mp (by cases z : rb (Cnt rs qs ds.length) with | true => rfl | false => rw [z] at h; exact absurd h.2 (by decide))
    unfold movesB at hB
    rw [hsd] at hB
    have hB : (decide (ds.length ≤ 300) && ds.all moveB) = true := hB
    rw [Bool.and_eq_true] at hB
    obtain ⟨ms, hms⟩ := moves_of hB.2
    have hmv := moves_av hmv hms
    have lms : ds.length = ms.length := Paired.length hms
    have iff1 : LeadsD rs qs dd ↔ led rs ms = some qs := ⟨fun ⟨ds', ms', e, g1, g2, g3⟩ => by
      rw [hsd] at e
      cases e
      rw [moves_fn hms g1]
      exact g3, fun g => ⟨ds, ms, hsd, hms, hC, g⟩⟩
    refine q_asgL (el_listS (ev_var rfl) (hs.ex (e1.trans e2))) fun L H3 nL e3 hL3 => ?_
    have e13 := e1.trans (e2.trans e3)
    let Pv : Nat → L2.St → Hp → Prop := fun i σ' H' => Ex H H' ∧ ∃ (b : Addr) (v4 : Option V) (l : List (List Int)), σ' = [some (.ref a0), some (.ref b0), some (.ref c0), some (.ref b), v4] ∧ led rs (ms.take i) = some l ∧ LRw H' (.ref b) l
    refine q_forS (a := c0) (xs := zs) (ev_var rfl) (hc.ex e13) Pv (fun H4 e4 => ⟨e13.trans e4, L, none, rs, rfl, rfl, L, xs, rfl, e4 _ _ hL3, Paired.imp (fun _ _ h => h.ex (e13.trans e4)) hp⟩) (fun i σ' H' _ h => ?_) ?_ ?_
    · exact hc.elim (fun z => (h.1 _ _ z).trans (e13 _ _ z).symm) fun z => (h.1 _ _ z).trans (e13 _ _ z).symm
    · rintro i m σ' H' hi ⟨e', b, v4, l, rfl, hl, hb⟩
      obtain ⟨mv, hmvi, hmm⟩ := Paired.at_l hmv i m hi
      have et : ms.take (i + 1) = ms.take i ++ [mv] := take_next hmvi
      have nx : led rs (ms.take (i + 1)) = done l mv.1 mv.2 := by rw [et, led_snoc, hl] <;> rfl
      have pl := led_perm nR _ _ hl
      refine ⟨_, rfl, m, rfl, .ref b, m, l, mv.1, mv.2, rfl, hb, hmm.ex e', by rw [pl.length_eq]; exact ho.few, ?_⟩
      cases hd : done l mv.1 mv.2 with
      | none =>
        have z1 : rb (LeadsD rs qs dd) = false := rb_no fun g => by
          obtain ⟨l', hl'⟩ := led_take (iff1.mp g) (i + 1)
          rw [nx, hd] at hl'
          cases hl'
        rw [z1] at k
        intro H4 e4
        refine s_when (b := true) (et_is (et_B (ev_isN (x := .non) (ev_var rfl))) rfl) (fun _ H5 e5 => s_ret ev_c fun H6 e6 => k H6 (e'.trans (e4.trans (e5.trans e6)))) fun h => nomatch h
      | some l' =>
        intro b' H4 nb e4 hb'
        refine s_when (b := false) (et_is (et_B (ev_isN (x := .ref b') (ev_var rfl))) rfl) (fun h => nomatch h) fun _ H5 e5 => ?_
        exact ⟨e'.trans (e4.trans e5), b', some m, l', rfl, nx.trans hd, hb'.ex e5⟩
    · rintro σ' H' ⟨e', b, v4, l, rfl, hl, hb⟩
      rw [lzs, lms, List.take_length] at hl
      have z1 : rb (LeadsD rs qs dd) = decide (l = qs) := (rb_eq (by rw [decide_eq_true_eq, iff1, hl]; exact ⟨fun h => by rw [h], fun h => Option.some.inj h⟩)).symm
      rw [z1] at k
      refine ⟨_, rfl, ?_⟩
      refine (el_listS (K := K) (ta := tVar 1) (σ := [some (V.ref a0), some (.ref b0), some (.ref c0), some (.ref b), v4]) (ev_var rfl) (ht.ex e')) H' (Ex.refl _) _ fun q H5 nq e5 h5 => ?_
      exact rv_eqRl (K := K) (LRw.ex hb e5) ⟨q, ys, rfl, h5, Paired.imp (fun _ _ h => h.ex (e'.trans e5)) hq⟩ H5 (Ex.refl _) _ fun H6 e6 => k H6 ((e'.trans e5).trans e6)
theorem spv_leads {x y z : V} {rs qs : List Row} {dd : PyData} {n : Nat} {H : Hp} (hx : Rws H x rs) (hy : Rws H y qs) (ho : OkRows n rs) (pm : qs.Perm rs) (hz : Da H z dd) (hm : Dom1 dd) : SpV sp_check_moves [x, y, z] H (.bl (rb (LeadsD rs qs dd))) := fun H1 e Q q _ => ⟨x, y, z, rs, qs, dd, n, rfl, hx.ex e, hy.ex e, ho, pm, hz.ex e, hm, q⟩
end
end Mv
/-! _law_rising, _law_fits. -/
namespace Mv
open PySem PySem.Spec PyProof.Rows L2 Evl
section
variable {K : PySem.W.Frag} {σ : L2.St} {H H' : Hp} {ta tb tc te tl tx : TE} {t u : TT} {x y z v : V} {d : PyData}
theorem el_lcR2 {ta : TA} {j : Nat} {vs : List Nat} {lo n : Int} (f : Nat → Bool) (v : Nat → V) (h : EvA ta σ H [.int lo, .int n]) (hn : 0 ≤ lo ∧ lo ≤ 40000 ∧ 0 ≤ n ∧ n ≤ 40000) (hw : ∀ x, wipe ((wipe σ vs).set j (some x)) vs = wipe σ vs)
    (ht : ∀ (i : Nat) H1, Ex H H1 → lo + (i : Int) < n → EvT t ((wipe σ vs).set j (some (.int (lo + (i : Int))))) H1 (f i)) (he : ∀ (i : Nat) H1, Ex H H1 → lo + (i : Int) < n → f i = true → Ev te ((wipe σ vs).set j (some (.int (lo + (i : Int))))) H1 (v i)) :
    EvL (tLc (iRng2 ta) (gName j) t te vs) σ H (given (n - lo).toNat f v) := fun H0 e Q q => h H0 e _ fun H1 e1 => ⟨lo, n, rfl, by omega, fun Dl hD =>
  lc_range (lo := lo) (n := (n - lo).toNat) (Cw H1 f v Dl) ⟨hD, Ex.new hD, upd_same⟩ (fun i H' hi p => ⟨hw _, cw_turn p (by omega) (ht i H1 (e.trans e1) (by omega)) (fun hf => he i H1 (e.trans e1) (by omega) hf)⟩) (fun H' p => q Dl H' (fresh_back e1 p.1) (e1.trans p.2.1) p.2.2)⟩
theorem el_filterD {a : Addr} {xs : List V} {ds : List PyData} {j : Nat} {vs : List Nat} (f : PyData → Bool) (h : Ev tl σ H (.ref a)) (hx : Seq H a xs) (hp : DaAll H xs ds) (hz : xs.length ≤ 40000) (hw : ∀ x, wipe ((wipe σ vs).set j (some x)) vs = wipe σ vs)
    (hv : ∀ y : V, ((wipe σ vs).set j (some y))[j]? = some (some y)) (ht : ∀ (x : V) (d : PyData) H1, Ex H H1 → d ∈ ds → Da H1 x d → EvT t ((wipe σ vs).set j (some x)) H1 (f d)) :
    ∃ ys, EvL (tLc (iSeq K tl) (gName j) t (tVar j) vs) σ H ys ∧ ys.isEmpty = ds.all (fun d => !f d) := by
  have hl : xs.length = ds.length := Paired.length hp.p
  refine ⟨_, el_lcSi (K := K) (fun i => f (ds.getD i .none)) (fun i => xs.getD i .non) h hx hz hw (fun i x H1 e hi => ?_) fun i x H1 e hi _ => ?_, ?_⟩
  · obtain ⟨d, hd, hxd⟩ := Paired.at_l hp.p i x hi
    rw [List.getD_eq_getElem?_getD, hd]
    exact ht x d H1 e (List.mem_of_getElem? hd) (hxd.ex e)
  · rw [List.getD_eq_getElem?_getD, hi]
    exact ev_var (hv x)
  · rw [given_empty, hl, Bool.eq_iff_iff, List.all_eq_true, List.all_eq_true]
    constructor
    · intro h d hd
      obtain ⟨i, hi⟩ := List.mem_iff_getElem?.mp hd
      have := h i (List.mem_range.mpr (List.getElem?_eq_some_iff.mp hi).1)
      rwa [List.getD_eq_getElem?_getD, hi] at this
    · intro h i hi
      have hi := List.mem_range.mp hi
      rw [List.getD_eq_getElem?_getD, List.getElem?_eq_getElem hi]
      exact h _ (List.getElem_mem hi)
theorem ev_anyNe {a : Addr} {xs : List V} {ds : List PyData} {j : Nat} {vs : List Nat} (f : PyData → Bool) (h : Ev tl σ H (.ref a)) (hx : Seq H a xs) (hp : DaAll H xs ds) (hz : xs.length ≤ 40000) (hw : ∀ x, wipe ((wipe σ vs).set j (some x)) vs = wipe σ vs)
    (hv : ∀ y : V, ((wipe σ vs).set j (some y))[j]? = some (some y)) (ht : ∀ (x : V) (d : PyData) H1, Ex H H1 → d ∈ ds → Da H1 x d → EvT t ((wipe σ vs).set j (some x)) H1 (f d)) :
    Ev (tOp (rNilEq K true) (tLc (iSeq K tl) (gName j) t (tVar j) vs) (tLst tNil)) σ H (.bl (!ds.all fun d => !f d)) := by
  obtain ⟨ys, h1, h2⟩ := el_filterD (K := K) f h hx hp hz hw hv ht
  rw [← h2]
  exact ev_neNilN h1
end
/-- equal to a row of L -/
def inE (L : List Row) (d : PyData) : Bool := (L.map rd).any fun z => PyData.eqv z d
theorem inE_tup {L : List Row} {d : PyData} (h : inE L d = true) : ∃ r ∈ L, ∃ ds, d = .tuple ds ∧ PyData.eqvAll (r.map PyData.int) ds = true := by
  unfold inE at h
  rw [List.any_map, List.any_eq_true] at h
  obtain ⟨r, hr, e⟩ := h
  have e : PyData.eqv (rd r) d = true := e
  unfold rd at e
  cases d with
  | tuple ds =>
    rw [PyData.eqv] at e
    exact ⟨r, hr, ds, rfl, e⟩
  | _ => simp [PyData.eqv] at e
theorem ints_eqv : ∀ {r : Row} {ds : List PyData}, PyData.eqvAll (r.map PyData.int) ds = true → (ds.all fun d => !isBoolD d) = true → ds = r.map PyData.int
  | [], [], _, _ => rfl
  | [], _ :: _, h, _ => by simp [PyData.eqvAll] at h
  | _ :: _, [], h, _ => by simp [PyData.eqvAll] at h
  | i :: r, d :: ds, h, hb => by
    rw [List.map_cons, PyData.eqvAll, Bool.and_eq_true] at h
    rw [List.all_cons, Bool.and_eq_true] at hb
    rw [List.map_cons, ints_eqv h.2 hb.2]
    cases d with
    | int j =>
      have := h.1
      rw [PyData.eqv, beq_iff_eq] at this
      rw [this]
    | bool b => exact absurd hb.1 (by simp [isBoolD])
    | _ => exact absurd h.1 (by simp [PyData.eqv])
theorem inE_row {L : List Row} {r : Row} : inE L (rd r) = decide (r ∈ L) := by
  unfold inE
  rw [List.any_map, Bool.eq_iff_iff, List.any_eq_true, decide_eq_true_eq]
  constructor
  · rintro ⟨q, hq, e⟩
    have e : PyData.eqv (rd q) (rd r) = true := e
    rw [eqv_row] at e
    rw [← of_decide_eq_true e]
    exact hq
  · intro h
    exact ⟨r, h, by show PyData.eqv (rd r) (rd r) = true; rw [eqv_row, decide_eq_true rfl]⟩
theorem oneOf_iff {L : List Row} {es : List PyData} (h : inE L (.tuple es) = true) : OneOf L (.tuple es) ↔ (es.all fun d => !isBoolD d) = true := by
  constructor
  · rintro ⟨r, _, e⟩
    unfold rd at e
    injection e with e
    rw [e, List.all_map, List.all_eq_true]
    exact fun i _ => rfl
  · intro hb
    obtain ⟨r, hr, ds, e, h2⟩ := inE_tup h
    injection e with e
    subst e
    exact ⟨r, hr, by rw [ints_eqv h2 hb] <;> rfl⟩
theorem oneOf_in {L : List Row} {d : PyData} (h : OneOf L d) : inE L d = true := by
  obtain ⟨r, hr, rfl⟩ := h
  rw [inE_row, decide_eq_true hr]
/-- items that can be compared -/
def Smp (d : PyData) : Prop := nod d = true ∧ SeqAt.shaped d = true ∧ (∀ es, seqD d = some es → es.length ≤ 1000)
def DomS (d : PyData) : Prop := ∀ ds, seqD d = some ds → ds.length ≤ 1000 ∧ ∀ e ∈ ds, Smp e
theorem DomS.one {d : PyData} (h : DomS d) : Dom1 d := fun ds e => (h ds e).1
section
variable {P : Program} {w : World} {K : PySem.W.Frag} {mg : Str → Option Value} {base : Heap} {a : Nat → Addr} {d : Nat → FuncData} {tk : Nat → Tok}
theorem rv_ninE {x : V} {f : Addr} {ys : List V} {L : List Row} {dd : PyData} {H : Hp} (hf : H f = some (.lst ys)) (hp : Paired (IsRow H) ys L) (hx : Da H x dd) (hs : Smp dd) : RV (rNotInD K) x (.ref f) H (.bl (!inE L dd)) := fun H1 e Q k =>
  ⟨dd, L.map rd, (hx.ex e).dp hs.1, .lst (sq_of (e _ _ hf)) (dp_rows (Paired.imp (fun _ _ h => h.ex e) hp)), hs.2.1, shaped_rows L, k H1 (Ex.refl H1)⟩
def sp__law_rising : Sp := fun vs H Q _ => ∃ (x y : V) (dd : PyData) (L : List Row) (n : Nat), vs = [x, y] ∧ Da H x dd ∧ LRw H y L ∧ OkRows n L ∧ DomS dd ∧ RetV (.bl (rb (RisesD L dd))) H Q
theorem ok__law_rising (T : All K mg a d tk) : FnOk P w K mg base CX0 1 (a 26) (d 26) ["rows", "order"] sp__law_rising := by
  refine T.F__law_rising.fn.ok sc__law_rising (fun vs H Q E h => ?_) (fun cdv A outer s H vs Q E hr h => ?_)
  · obtain ⟨x, y, dd, L, n, rfl, _⟩ := h
    rfl
  · obtain ⟨x, y, dd, L, n, rfl, hx, hy, ho, hm, k⟩ := h
    have nd := sc__law_rising.nd
    have hu0 := hr.units0
    have hu65 := hu65_of hr
    have hu64 := hr.units
    refine ⟨_, (pss_cons (ps_if (PW.pt (pw_or (pt_not (pt_val (pe_callB call_isiT (by rfl) T.n_isinstance PyProof.Rows.boot_isinstance (pa_cons (pv 0) (pa_cons (pe_tup (pa_cons (pe_bltn (v := .ty "list") rfl T.n_list PyProof.Rows.boot_list rfl) (pa_cons (pe_bltn (v := .ty "tuple") rfl T.n_tuple PyProof.Rows.boot_tuple rfl) pa_nil))) pa_nil))))) (pw_or1 (pt_cmpR (op_neNil hu0) (pe_lc (own := [("row", 2)]) (g := (gName 2)) rfl nd (pi_seq (pv 0)) (blkOk_by (N := N__law_rising) (sc := defScope s__law_rising) (by decide +kernel)) (fun _ _ _ _ _ => (pg_name (i := 2) nd rfl (Or.inl rfl))) (fun _ _ _ _ _ => (pts_one (pt_cmpR (show OpR _ (compareOp .NotIn) (rNotInD K) from (op_notInD hu65)) (pv 2) (pv 1) rfl))) (fun _ _ _ _ _ => (pv 2))) (pe_lst pa_nil) (nomark _)))))
 (pss_one (ps_ret pe_bl))
 pss_nil)
 (pss_cons (ps_for PassesOwn.never rfl (pi_seq (pv 0)) (pg_name (i := 2) nd rfl (Or.inl rfl))
 (pss_one (ps_if (PW.pt (pw_or (pt_not (pt_val (pe_callB call_isi (by rfl) T.n_isinstance PyProof.Rows.boot_isinstance (pa_cons (pv 2) (pa_cons (pe_bltn (v := .ty "tuple") rfl T.n_tuple PyProof.Rows.boot_tuple rfl) pa_nil))))) (pw_or1 (pt_cmpR (op_neNil hu0) (pe_lc (own := [("each", 4)]) (g := (gName 4)) rfl nd (pi_seq (pv 2)) (blkOk_by (N := N__law_rising) (sc := defScope s__law_rising) (by decide +kernel)) (fun _ _ _ _ _ => (pg_name (i := 4) nd rfl (Or.inl rfl))) (fun _ _ _ _ _ => (pts_one (pt_val (pe_callB (show CallR _ (.builtin "isinstance") (rIsi K) from call_isi) (by rfl) T.n_isinstance PyProof.Rows.boot_isinstance (pa_cons (pv 4) (pa_cons (pe_bltn (v := .ty "bool") rfl T.n_bool PyProof.Rows.boot_bool rfl) pa_nil)))))) (fun _ _ _ _ _ => (pv 4))) (pe_lst pa_nil) (nomark _)))))
 (pss_one (ps_ret pe_bl))
 pss_nil)))
 (pss_cons (ps_set (i := 3) nd rfl (Or.inr rfl) (pe_lc (own := [("row", 2)]) (g := (gName 2)) rfl nd (pi_seq (pv 0)) (blkOk_by (N := N__law_rising) (sc := defScope s__law_rising) (by decide +kernel)) (fun _ _ _ _ _ => (pg_name (i := 2) nd rfl (Or.inl rfl))) (fun _ _ _ _ _ => pts_nil) (fun _ _ _ _ _ => (pe_bmK (K := K) rfl PySem.F.plainAttrs_list PySem.F.slot_list_index PySem.F.type_list_index (show MtR _ "list.index" (rIndexD K) from (mt_indexD hu65)) (pv 1) (pa_cons (pv 2) pa_nil)))))
 (pss_one (ps_ret (pe_cmpR (op_eqNil hu0) (pe_lc (own := [("at", 5)]) (g := (gName 5)) rfl nd (pi_range2 rfl T.n_range (pa_cons pe_int (pa_cons (pe_callB call_len_seq (by rfl) T.n_len PySem.boot_len (pa_cons (pv 3) pa_nil)) pa_nil))) (blkOk_by (N := N__law_rising) (sc := defScope s__law_rising) (by decide +kernel)) (fun _ _ _ _ _ => (pg_name (i := 5) nd rfl (Or.inl rfl))) (fun _ _ _ _ _ => (pts_one (pt_cmpR op_le (pe_ix (show IxR _ (rIxL K) from ix_list) (pv 3) (pv 5) (fun _ _ => rfl)) (pe_ix (show IxR _ (rIxL K) from ix_list) (pv 3) (pe_op op_sub (pv 5) pe_int) (fun _ _ => rfl)) (nomark _)))) (fun _ _ _ _ _ => (pv 5))) (pe_lst pa_nil) (nomark _))))))), ?_⟩
    obtain ⟨ob, os, rfl, hob, hop⟩ := id hy
    cases hq : seqD dd with
    | none =>
      have z : rb (RisesD L dd) = false := rb_no fun ⟨cs, e, _⟩ => by rw [hq] at e; cases e
      rw [z] at k
      refine q_when (b := true) (et_is (et_or (b := false) (et_not (et_B (ev_isSq (ev_var rfl) hx.isq))) fun h => ?_) (by rw [hq] <;> rfl)) (fun _ H1 e1 => s_ret ev_c fun H2 e2 => k H2 (e1.trans e2)) fun h => nomatch h
      rw [hq] at h
      cases h
    | some ds =>
      obtain ⟨f, xs, rfl, hs, hp⟩ := hx.seq hq
      have hlen : xs.length = ds.length := Paired.length hp.p
      obtain ⟨hl, hsm⟩ := hm ds hq
      refine q_when (b := !ds.all fun d => !!inE L d) (et_is (et_or (a := false) (et_not (et_B (ev_isSq (ev_var rfl) hs.isq))) fun _ => et_test (ev_anyNe (ds := ds) (fun d => !inE L d) (ev_var rfl) hs hp (by omega) (fun _ => rfl) (fun _ => rfl) fun y dy H2 e2 my hy2 => et_test (ev_op (ev_var rfl) (ev_var rfl) (rv_ninE (e2 _ _ hob) (Paired.imp (fun _ _ h => h.ex e2) hop) hy2 (hsm dy my))))) rfl) (fun h H1 e1 => ?_) fun h H1 e1 => ?_
      · have z : rb (RisesD L dd) = false := rb_no fun ⟨cs, e, hc, _⟩ => by
          rw [hq] at e
          have : (ds.all fun d => !!inE L d) = true := by
            rw [Option.some.inj e, List.all_eq_true]
            intro d hd
            obtain ⟨c, hcc, rfl⟩ := List.mem_map.mp hd
            rw [inE_row, decide_eq_true (hc c hcc)] <;> rfl
          rw [this] at h
          cases h
        rw [z] at k
        exact s_ret ev_c fun H2 e2 => k H2 (e1.trans e2)
      · have hin : ∀ d ∈ ds, inE L d = true := by
          have : (ds.all fun d => !!inE L d) = true := by
            cases z : (ds.all fun d => !!inE L d) with
            | true => rfl
            | false => rw [z] at h; cases h
          rw [List.all_eq_true] at this
          exact fun d hd => by have := this d hd; rwa [Bool.not_not] at this
        let Pv : Nat → L2.St → Hp → Prop := fun i σ' H' => Ex H1 H' ∧ (∀ d ∈ ds.take i, OneOf L d) ∧ ∃ v2, σ' = [some (.ref f), some (.ref ob), v2, none, none, none]
        refine q_forS (a := f) (xs := xs) (ev_var rfl) (hs.ex e1) Pv (fun H2 e2 => ⟨e2, fun d h => absurd h (by simp), _, rfl⟩) (fun i σ' H' _ h => hs.elim (fun z => ((e1.trans h.1) _ _ z).trans (e1 _ _ z).symm) fun z => ((e1.trans h.1) _ _ z).trans (e1 _ _ z).symm) ?_ ?_
        · rintro i z σ' H' hi ⟨e2, hP, v2, rfl⟩
          obtain ⟨di, hdi, hz⟩ := Paired.at_l hp.p i z hi
          have mdi := List.mem_of_getElem? hdi
          have e12 := e1.trans e2
          have hz' := hz.ex e12
          have hinE := hin di mdi
          obtain ⟨r, hr', es, rfl, _⟩ := inE_tup hinE
          have les := (hsm _ mdi).2.2 es rfl
          obtain ⟨zb, zs, rfl, hzb, hzp⟩ := hz'.tup'
          refine s_when (b := !es.all fun d => !isBoolD d) (et_is (et_or (a := false) (et_not (et_B (ev_isTupD (ev_var rfl) hz'))) fun _ => et_test (ev_anyNe (ds := es) isBoolD (ev_var rfl) (.inr hzb) hzp (by rw [Paired.length hzp.p]; omega) (fun _ => rfl) (fun _ => rfl) fun y dy H2 e2 my hy2 => et_B (ev_isBoolD (ev_var rfl) hy2))) rfl) (fun h H2 e3 => ?_) fun h H2 e3 => ?_
          · have z : rb (RisesD L dd) = false := rb_no fun ⟨cs, e, hc, _⟩ => by
              rw [hq] at e
              rw [Option.some.inj e] at mdi
              obtain ⟨c, hcc, ec⟩ := List.mem_map.mp mdi
              rw [(oneOf_iff hinE).mp ⟨c, hc c hcc, ec.symm⟩] at h
              cases h
            rw [z] at k
            exact s_ret ev_c fun H3 e4 => k H3 (e12.trans (e3.trans e4))
          · refine ⟨e2.trans e3, fun d hd => ?_, _, rfl⟩
            rw [take_next hdi] at hd
            rcases List.mem_append.mp hd with hd | hd
            · exact hP d hd
            · rw [List.mem_singleton.mp hd]
              refine (oneOf_iff hinE).mpr ?_
              cases z : (es.all fun d => !isBoolD d) with
              | true => rfl
              | false => rw [z] at h; cases h
        · rintro σ' H' ⟨e2, hP, v2, rfl⟩
          rw [hlen, List.take_length] at hP
          have ha : ds.all (fun d => rb (OneOf L d)) = true := List.all_eq_true.mpr fun d hd => rb_yes (hP d hd)
          obtain ⟨cs, rfl, hc⟩ := all_rows ha
          have hp := da_rows hp
          have e12 := e1.trans e2
          have hlen : xs.length = cs.length := Paired.length hp
          rw [List.length_map] at hl
          have lo : os.length = L.length := Paired.length hop
          have h60 := ho.few
          refine q_asgL (el_lcSo (out := cs.map (plc L)) (ev_var rfl) (hs.ex e12) (by omega) (by rw [List.length_map, hlen]) (fun _ => rfl) fun i x y H3 e3 hi ho2 => ?_) fun pl H3 npl e3 hpl => ?_
          · obtain ⟨r, hr, h⟩ := Paired.at_l hp i x hi
            rw [List.getElem?_map, hr] at ho2
            cases ho2
            exact ev_indexR (ev_var rfl) ((e12.trans e3) _ _ hob) (Paired.imp (fun _ _ h => h.ex (e12.trans e3)) hop) (ev_var rfl) (h.ex (e12.trans e3)) (hc r (List.mem_of_getElem? hr))
          · have e13 := e12.trans e3
            have lm : (cs.map (plc L)).length = cs.length := List.length_map _
            have pl0 : ∀ {i : Nat}, i < cs.length → (cs.map (plc L))[i]? = some (.int (L.idxOf (cs.getD i []) : Nat)) := fun {i} hi => by
              rw [List.getElem?_map, List.getElem?_eq_getElem hi, List.getD_eq_getElem?_getD, List.getElem?_eq_getElem hi] <;> rfl
            have c1 := el_lcR2 (σ := [some (V.ref f), some (.ref ob), v2, some (.ref pl), none, none]) (H := H3) (ta := tCons (tC (.int 1)) (tCons (tCB (rLenS K) (tCons (tVar 3) tNil)) tNil)) (t := tTest (tOp (rI0 fun i j => .bl (decide (i ≤ j))) (tOp (rIxL K) (tVar 3) (tVar 5)) (tOp (rIxL K) (tVar 3) (tOp (rI0 fun i j => .int (i - j)) (tVar 5) (tC (.int 1)))))) (te := tVar 5) (j := 5) (vs := [5]) (lo := 1) (n := ((cs.map (plc L)).length : Int))
              (fun i => decide (L.idxOf (cs.getD (i + 1) []) ≤ L.idxOf (cs.getD i []))) (fun i => .int (1 + (i : Int))) (ea_cons ev_c (ea_cons (ev_lenS (ev_var rfl) (.inl hpl)) ea_nil)) (by omega) (fun _ => rfl) (fun i H4 e4 hi => by
                have z1 : (1 : Int) + (i : Int) = ((i + 1 : Nat) : Int) := by omega
                rw [z1]
                refine et_is (et_I0 (g := fun i j => decide (i ≤ j)) (ev_ixL (i := ((i + 1 : Nat) : Int)) (ev_var rfl) (ev_var rfl) (sq_of (e4 _ _ hpl)) (atI_nat (pl0 (by omega)))) (ev_ixL (i := ((i : Nat) : Int)) (ev_var rfl) (ev_is (ev_I0 (g := fun i j => .int (i - j)) (ev_var rfl) ev_c) (congrArg V.int (by omega))) (sq_of (e4 _ _ hpl)) (atI_nat (pl0 (by omega))))) ?_
                exact decide_eq_decide.mpr (by omega)) (fun i H4 e4 hi _ => ev_var rfl)
            refine s_ret (ev_is (ev_eqNilN c1) ?_) fun H4 e4 => k H4 (e13.trans e4)
            rw [given_empty]
            have z0 : (((cs.map (plc L)).length : Int) - 1).toNat = cs.length - 1 := by omega
            have z2 : ((List.range (cs.length - 1)).all fun i => !decide (L.idxOf (cs.getD (i + 1) []) ≤ L.idxOf (cs.getD i []))) = (adjB L cs).all id := by
              unfold adjB
              rw [List.all_map]
              refine List.all_congr rfl fun i => ?_
              show (!decide _) = decide _
              rw [← decide_not]
              exact decide_eq_decide.mpr (by omega)
            rw [z0, z2, adjB_all]
            have z : (RisesD L dd) ↔ Rise L cs := (rises_of hq).trans ⟨fun h => h.2, fun h => ⟨hc, h⟩⟩
            exact congrArg V.bl (rb_eq (by rw [rb_iff]; exact z.symm))
theorem spv_rising {x y : V} {dd : PyData} {L : List Row} {n : Nat} {H : Hp} (hx : Da H x dd) (hy : LRw H y L) (ho : OkRows n L) (hm : DomS dd) : SpV sp__law_rising [x, y] H (.bl (rb (RisesD L dd))) := fun H1 e Q q _ => ⟨x, y, dd, L, n, rfl, hx.ex e, LRw.ex hy e, ho, hm, q⟩
end
end Mv
/-! _law_fits. -/
namespace Mv
open PySem PySem.Spec PyProof.Rows L2 Evl
/-- a list, new or not -/
def EvG (te : TE) (σ : L2.St) (H : Hp) (xs : List V) : Prop := ∀ H1, Ex H H1 → ∀ Q : VK, (∀ p H2, Ex H1 H2 → H2 p = some (.lst xs) → Q (.ref p) H2) → te σ H1 Q
section
variable {K : PySem.W.Frag} {σ : L2.St} {H : Hp} {ta tb te : TE} {v : V}
theorem EvL.g {xs : List V} (h : EvL te σ H xs) : EvG te σ H xs := fun H1 e Q q => h H1 e Q fun p H2 _ e2 h2 => q p H2 e2 h2
theorem Ev.g {xs : List V} {a : Addr} (h : Ev te σ H (.ref a)) (ha : H a = some (.lst xs)) : EvG te σ H xs := fun H1 e Q q => h H1 e Q fun H2 e2 => q a H2 e2 ((e.trans e2) _ _ ha)
theorem el_catG {xs ys : List V} (ha : EvG ta σ H xs) (hb : EvG tb σ H ys) (hz : xs.length + ys.length ≤ 100000) : EvL (tOp rCat ta tb) σ H (xs ++ ys) := fun H1 e Q q =>
  ha H1 e _ fun p H2 e2 h1 => hb H2 (e.trans e2) _ fun b H3 e3 h3 => ⟨p, b, xs, ys, rfl, rfl, e3 _ _ h1, h3, sz_of hz, fun l hl => q l _ (fresh_back (e2.trans e3) hl) ((e2.trans e3).trans (Ex.new hl)) upd_same⟩
end
def DomP (d : PyData) : Prop := ∀ ds, seqD d = some ds → ds.length ≤ 1000 ∧ (flatD ds).length < 64 ∧ ∀ e ∈ ds, DomS e
theorem DomP.two {d : PyData} (h : DomP d) : Dom2 d := fun ds e => ⟨(h ds e).1, (h ds e).2.1⟩
theorem Smp.row (r : Row) (h : r.length ≤ 1000) : Smp (rd r) := ⟨by
  unfold rd
  rw [nod, nodAll_iff]
  intro d hd
  obtain ⟨i, _, rfl⟩ := List.mem_map.mp hd
  rfl, shaped_row r, fun es e => by cases e; rw [List.length_map]; exact h⟩
theorem DomS.rows {d : PyData} {cs : List Row} (e : seqD d = some (cs.map rd)) (h : cs.length ≤ 1000) (h2 : ∀ c ∈ cs, c.length ≤ 1000) : DomS d := fun ds e' => by
  rw [e] at e'
  cases e'
  refine ⟨by rw [List.length_map]; exact h, fun x hx => ?_⟩
  obtain ⟨c, hc, rfl⟩ := List.mem_map.mp hx
  exact Smp.row c (h2 c hc)
theorem OkRows.short {n : Nat} {rs : List Row} (ho : OkRows n rs) {r : Row} (h : r ∈ rs) : r.length ≤ 1000 := by
  have := (ho.row r h).1
  have := ho.w5
  omega
section
variable {P : Program} {w : World} {K : PySem.W.Frag} {mg : Str → Option Value} {base : Heap} {a : Nat → Addr} {d : Nat → FuncData} {tk : Nat → Tok}
def sp__law_fits : Sp := fun vs H Q _ => ∃ (x y s l : V) (rs qs : List Row) (d1 d2 : PyData) (n : Nat), vs = [x, y, s, l] ∧ LRw H x rs ∧ LRw H y qs ∧ OkRows n rs ∧ qs.Perm rs ∧ Da H s d1 ∧ Da H l d2 ∧ DomS d1 ∧ DomP d2 ∧ RetV (.bl (rb (FitsD rs qs d1 d2))) H Q
theorem ok__law_fits (T : All K mg a d tk) : FnOk P w K mg base CX0 2 (a 27) (d 27) ["first", "second", "still", "parts"] sp__law_fits := by
  refine T.F__law_fits.fn.ok sc__law_fits (fun vs H Q E h => ?_) (fun cdv A outer s H vs Q E hr h => ?_)
  · obtain ⟨x, y, s, l, rs, qs, d1, d2, n, rfl, _⟩ := h
    rfl
  · obtain ⟨x, y, s, l, rs, qs, d1, d2, dd, rfl, hx, hy, ho, pm, hs, hl, m1, m2, k⟩ := h
    have nd := sc__law_fits.nd
    have hu := hu_of hr
    have hu64 := hr.units
    have hdd := ho.w1
    have oq := ho.perm pm
    have h60 := ho.few
    refine ⟨_, (pss_cons (ps_if (PW.pt (pw_or (pt_not (pt_val (pe_call (ok__law_rising T) (hr.mono (by decide)) rfl T.F__law_rising.m T.F__law_rising.kp T.F__law_rising.b .nil pass0 (pa_cons (pv 2) (pa_cons (pv 0) pa_nil))))) (pw_or1 (pt_not (pt_val (pe_call (ok__law_rising T) (hr.mono (by decide)) rfl T.F__law_rising.m T.F__law_rising.kp T.F__law_rising.b .nil pass0 (pa_cons (pv 2) (pa_cons (pv 1) pa_nil))))))))
 (pss_one (ps_ret pe_bl))
 pss_nil)
 (pss_cons (ps_if (PW.pt (pw_or (pt_not (pt_val (pe_callB call_isiT (by rfl) T.n_isinstance PyProof.Rows.boot_isinstance (pa_cons (pv 3) (pa_cons (pe_tup (pa_cons (pe_bltn (v := .ty "list") rfl T.n_list PyProof.Rows.boot_list rfl) (pa_cons (pe_bltn (v := .ty "tuple") rfl T.n_tuple PyProof.Rows.boot_tuple rfl) pa_nil))) pa_nil))))) (pw_or1 (pt_cmpR op_ne (pe_callB call_len_seq (by rfl) T.n_len PySem.boot_len (pa_cons (pv 3) pa_nil)) (pe_callB call_len_seq (by rfl) T.n_len PySem.boot_len (pa_cons (pv 2) pa_nil)) (nomark _)))))
 (pss_one (ps_ret pe_bl))
 pss_nil)
 (pss_cons (ps_set (i := 4) nd rfl (Or.inl rfl) (pe_lst pa_nil))
 (pss_cons (ps_for PassesOwn.never rfl (pi_seq (pv 3)) (pg_name (i := 5) nd rfl (Or.inl rfl))
 (pss_cons (ps_if (PW.pt (pw_or (pt_not (pt_val (pe_call (ok__law_rising T) (hr.mono (by decide)) rfl T.F__law_rising.m T.F__law_rising.kp T.F__law_rising.b .nil pass0 (pa_cons (pv 5) (pa_cons (pv 0) pa_nil))))) (pw_or (pt_cmpR op_eq (pe_callB call_len_seq (by rfl) T.n_len PySem.boot_len (pa_cons (pv 5) pa_nil)) pe_int (nomark _)) (pw_or1 (pt_not (pt_val (pe_call (ok__law_rising T) (hr.mono (by decide)) rfl T.F__law_rising.m T.F__law_rising.kp T.F__law_rising.b .nil pass0 (pa_cons (pe_revS (pv 5)) (pa_cons (pv 1) pa_nil)))))))))
 (pss_one (ps_ret pe_bl))
 pss_nil)
 (pss_one (ps_set (i := 4) nd rfl (Or.inl rfl) (pe_op op_cat (pv 4) (pe_callTy call_list_of rfl T.n_list PyProof.Rows.boot_list (pa_cons (pv 5) pa_nil)))))))
 (pss_one (ps_ret (pe_cmpR (op_eqD hu64) (pe_callB (cr_sortS (d := dd) (B := 1000) hdd) (by rfl) T.n_sorted PyProof.Rows.boot_sorted (pa_cons (pv 4) pa_nil)) (pe_callB (cr_sortS (d := dd) (B := 1000) hdd) (by rfl) T.n_sorted PyProof.Rows.boot_sorted (pa_cons (pv 0) pa_nil)) (nomark _)))))))), ?_⟩
    refine q_when (et_or (et_not (et_B (ev_call (ea_cons (ev_var rfl) (ea_cons (ev_var rfl) ea_nil)) (spv_rising hs hx ho m1)))) fun _ => et_not (et_B (ev_call (ea_cons (ev_var rfl) (ea_cons (ev_var rfl) ea_nil)) (spv_rising hs hy oq m1)))) (fun h H4 e4 => ?_) fun h H4 e4 => ?_
    · have z : rb (FitsD rs qs d1 d2) = false := rb_no fun ⟨g1, g2, _⟩ => by
        rw [rb_yes g1, rb_yes g2] at h
        cases h
      rw [z] at k
      exact s_ret ev_c fun H5 e5 => k H5 (e4.trans e5)
    rw [Bool.or_eq_false_iff] at h
    have R1 : RisesD rs d1 := rb_iff.mp (by cases z : rb (RisesD rs d1) with | true => rfl | false => rw [z] at h; exact absurd h.1 (by decide))
    have R2 : RisesD qs d1 := rb_iff.mp (by cases z : rb (RisesD qs d1) with | true => rfl | false => rw [z] at h; exact absurd h.2 (by decide))
    obtain ⟨cs, hc1, hcR⟩ := id R1
    obtain ⟨sb, ss, rfl, hss, hsp⟩ := hs.seq hc1
    have lss : ss.length = cs.length := by rw [Paired.length hsp.p, List.length_map]
    cases hq : seqD d2 with
    | none =>
      have z : rb (FitsD rs qs d1 d2) = false := rb_no fun ⟨_, _, ds1, ds2, _, g2, _⟩ => by rw [hq] at g2; cases g2
      rw [z] at k
      refine q_when (b := true) (et_is (et_or (b := false) (et_not (et_B (ev_isSq (ev_var rfl) (hl.isq.ex e4)))) fun h => ?_) (by rw [hq] <;> rfl)) (fun _ H5 e5 => s_ret ev_c fun H6 e6 => k H6 (e4.trans (e5.trans e6))) fun h => nomatch h
      rw [hq] at h
      cases h
    | some ds2 =>
    obtain ⟨lb, ls, rfl, hls, hlp⟩ := hl.seq hq
    have lls : ls.length = ds2.length := Paired.length hlp.p
    obtain ⟨m2a, m2b, m2c⟩ := m2 ds2 hq
    refine q_when (b := !decide (V.int (ls.length : Int) = V.int (ss.length : Int))) (et_or (a := false) (et_not (et_B (ev_isSq (ev_var rfl) (Seq.isq (hls.ex e4))))) fun _ => et_test (ev_op (ev_lenS (ev_var rfl) (hls.ex e4)) (ev_lenS (ev_var rfl) (hss.ex e4)) (rv_ne rfl))) (fun h H5 e5 => ?_) fun h H5 e5 => ?_
    · have z : rb (FitsD rs qs d1 d2) = false := rb_no fun ⟨_, _, ds1, ds2', g1, g2, g3, _⟩ => by
        rw [hq] at g2
        rw [hc1] at g1
        cases g1
        cases g2
        rw [lls, lss, g3, List.length_map, decide_eq_true rfl] at h
        cases h
      rw [z] at k
      exact s_ret ev_c fun H6 e6 => k H6 (e4.trans (e5.trans e6))
    have hlen : ds2.length = (cs.map rd).length := by
      rw [List.length_map]
      by_cases z : (ls.length : Int) = (ss.length : Int)
      · omega
      · rw [decide_eq_false fun e => z (by injection e)] at h
        cases h
    refine q_asgL (el_lst ea_nil (Nat.zero_le _)) fun fb H6 nfb e6 hfb => ?_
    have e15 := (e4.trans e5).trans e6
    let Pv : Nat → L2.St → Hp → Prop := fun i σ' H' => Ex H6 H' ∧ (∀ d ∈ ds2.take i, Part rs qs d) ∧ ∃ (fb : Addr) (fs : List V) (Li : List (List Row)) (v5 : Option V), σ' = [some x, some y, some (.ref sb), some (.ref lb), some (.ref fb), v5] ∧ H' fb = some (.lst fs) ∧ Paired RowsD (ds2.take i) Li ∧ Paired (IsRow H') fs Li.flatten
    refine q_forS (a := lb) (xs := ls) (ev_var rfl) (hls.ex e15) Pv (fun H7 e7 => ⟨e7, fun d h => absurd h (by simp), fb, [], [], _, rfl, e7 _ _ hfb, .nil, .nil⟩) (fun i σ' H' _ h => hls.elim (fun z => ((e15.trans h.1) _ _ z).trans (e15 _ _ z).symm) fun z => ((e15.trans h.1) _ _ z).trans (e15 _ _ z).symm) ?_ ?_
    · rintro i z σ' H' hi ⟨e7, hP, fb, fs, Li, v5, rfl, hfb, hLi, hfs⟩
      obtain ⟨di, hdi, hz⟩ := Paired.at_l hlp.p i z hi
      have mdi := List.mem_of_getElem? hdi
      have e16 := e15.trans e7
      have hz' := hz.ex e16
      have mi : DomS di := m2c di mdi
      have no : ¬ Part rs qs di → rb (FitsD rs qs d1 d2) = false := fun hn => rb_no fun ⟨_, _, ds1, ds2', _, g2, _, g4, _⟩ => by
        rw [hq] at g2
        cases g2
        exact hn (g4 di mdi)
      by_cases hR : RisesD rs di
      · obtain ⟨L, eL, hLR⟩ := id hR
        have hzr := hz'.rws eL
        obtain ⟨zb, zs, rfl, hzb, hzp⟩ := id hzr
        have lz : zs.length = L.length := Paired.length hzp
        have lL : L.length ≤ 1000 := by have := (mi _ eL).1; rwa [List.length_map] at this
        have t3 : EvT (tB (tCall sp__law_rising [] E0 (tCons (tRevS K (tVar 5)) (tCons (tVar 1) tNil)))) [some x, some y, some (.ref sb), some (.ref lb), some (.ref fb), some (.ref zb)] H' (rb (RisesC qs L.reverse)) := by
          refine et_B fun H7 e7 Q q => ?_
          refine (es_rev (K := K) (te := tVar 5) (σ := [some x, some y, some (.ref sb), some (.ref lb), some (.ref fb), some (.ref zb)]) (ev_var rfl) hzb) H7 e7 _ fun rb' H8 nrb e8 hrb => ?_
          have e78 := e7.trans e8
          refine ⟨y, rfl, ?_⟩
          have hw : Rws H8 (.ref rb') L.reverse := ⟨rb', _, rfl, hrb, Paired.rev (Paired.imp (fun _ _ h => h.ex e78) hzp)⟩
          obtain ⟨dr, hdr, sdr⟩ := hw.da
          have er : rb (RisesC qs L.reverse) = rb (RisesD qs dr) := rb_eq (by rw [rb_iff]; exact (rises_of sdr).symm)
          rw [er] at q
          exact ⟨_, y, dr, qs, dd, rfl, hdr, LRw.ex hy (e16.trans e78), oq, DomS.rows sdr (by rw [List.length_reverse]; exact lL) (fun c hc => ho.short (hLR.1 c (List.mem_reverse.mp hc))), fun H9 e9 => q H9 (e8.trans e9)⟩
        refine q_when (et_or (et_not (et_B (ev_call (ea_cons (ev_var rfl) (ea_cons (ev_var rfl) ea_nil)) (spv_rising hz' (LRw.ex hx e16) ho mi)))) fun _ => et_or (et_test (ev_op (ev_lenS (ev_var rfl) hzb) ev_c (rv_eq rfl))) fun _ => et_not t3) (fun h H7 e8 => ?_) fun h H7 e8 => ?_
        · have hn : ¬ Part rs qs di := fun ⟨L', eL', g1, g2, g3⟩ => by
            rw [eL] at eL'
            cases map_rd_inj (Option.some.inj eL')
            have n0 : L.length ≠ 0 := fun z => g1 (List.length_eq_zero_iff.mp z)
            rw [rb_yes hR, rb_yes g3, decide_eq_false (fun z : V.int (zs.length : Int) = V.int 0 => by injection z with z; omega)] at h
            cases h
          rw [no hn] at k
          exact s_ret ev_c fun H8 e9 => k H8 (e16.trans (e8.trans e9))
        · rw [Bool.or_eq_false_iff, Bool.or_eq_false_iff] at h
          have hp : Part rs qs di := ⟨L, eL, fun z => by
            have := of_decide_eq_false h.2.1
            rw [lz, z] at this
            exact this rfl, hLR, rb_iff.mp (by cases z : rb (RisesC qs L.reverse) with | true => rfl | false => rw [z] at h; exact absurd h.2.2 (by decide))⟩
          have lfs : fs.length = Li.flatten.length := Paired.length hfs
          have lfl : Li.flatten.length ≤ (flatD ds2).length := by
            have z := flat_lists hLi
            have z2 : flatD ds2 = flatD (ds2.take i) ++ flatD (ds2.drop i) := by
              unfold flatD
              rw [← List.flatten_append, ← List.map_append, List.take_append_drop]
            rw [z2, z, List.length_append, List.length_map]
            omega
          refine s_asgL (el_catG (Ev.g (ev_var rfl) (e8 _ _ hfb)) (EvL.g (el_listS (K := K) (ev_var rfl) (hzb.ex e8))) (by omega)) fun fb2 H8 nfb2 e9 hfb2 => ?_
          have e79 := e8.trans e9
          refine ⟨e7.trans e79, fun d hd => ?_, fb2, fs ++ zs, Li ++ [L], _, rfl, hfb2, ?_, ?_⟩
          · rw [take_next hdi] at hd
            rcases List.mem_append.mp hd with hd | hd
            · exact hP d hd
            · rw [List.mem_singleton.mp hd]; exact hp
          · rw [take_next hdi]
            exact Paired.append hLi (.cons eL .nil)
          · rw [List.flatten_append, List.flatten_singleton]
            exact Paired.append (Paired.imp (fun _ _ h => h.ex e79) hfs) (Paired.imp (fun _ _ h => h.ex e79) hzp)
      · rw [no fun ⟨L, g1, _, g2, _⟩ => hR ⟨L, g1, g2⟩] at k
        refine q_when (b := true) (et_is (et_or (b := false) (et_not (et_B (ev_call (ea_cons (ev_var rfl) (ea_cons (ev_var rfl) ea_nil)) (spv_rising hz' (LRw.ex hx e16) ho mi)))) fun h => ?_) (by rw [rb_no hR] <;> rfl)) (fun _ H7 e8 => s_ret ev_c fun H8 e9 => k H8 (e16.trans (e8.trans e9))) fun h => nomatch h
        rw [rb_no hR] at h
        cases h
    · rintro σ' H' ⟨e7, hP, fb, fs, Li, v5, rfl, hfb, hLi, hfs⟩
      have e16 := e15.trans e7
      rw [lls, List.take_length] at hP hLi
      have fl2 : (flatD ds2).length = Li.flatten.length := by rw [flat_lists hLi, List.length_map]
      have c2 : EvP (tVar 4) [some x, some y, some (.ref sb), some (.ref lb), some (.ref fb), v5] H' (fun v H2 => Rws H2 v Li.flatten) := fun H7 e7 Q q => ⟨.ref fb, rfl, q _ H7 (Ex.refl _) ⟨fb, fs, rfl, .inl (e7 _ _ hfb), Paired.imp (fun _ _ h => h.ex e7) hfs⟩⟩
      have oF : ∀ r ∈ Li.flatten, OkRow dd r := fun r hr => by
        obtain ⟨L, hL, hrL⟩ := List.mem_flatten.mp hr
        obtain ⟨i, hi⟩ := List.mem_iff_getElem?.mp hL
        obtain ⟨d, hd, eL⟩ := Paired.at_r hLi i L hi
        have hd := List.mem_of_getElem? hd
        obtain ⟨L', eL', _, g, _⟩ := hP d hd
        have eL : seqD d = some (L.map rd) := eL
        rw [eL] at eL'
        cases map_rd_inj (Option.some.inj eL')
        exact ho.row r (g.1 r hrL)
      have c3 : EvP (tVar 0) [some x, some y, some (.ref sb), some (.ref lb), some (.ref fb), v5] H' (fun v H2 => Rws H2 v rs) := fun H7 e7 Q q => ⟨x, rfl, q x H7 (Ex.refl _) (LRw.rws (LRw.ex hx (e16.trans e7)))⟩
      have ef : rb (Li.flatten.Perm rs) = rb (FitsD rs qs d1 d2) := rb_eq (by
        rw [rb_iff]
        refine ⟨fun h => ⟨R1, R2, _, _, hc1, hq, hlen, hP, Li, hLi, h⟩, fun ⟨_, _, ds1, ds2', _, g2, _, _, Ls', g5, g6⟩ => ?_⟩
        rw [hq] at g2
        cases g2
        rw [lists_unique hLi g5]
        exact g6)
      rw [← ef] at k
      exact s_ret (ev_sortedEqB c2 c3 oF ho.row (by omega) (by omega)) fun H9 e9 => k H9 (e16.trans e9)
theorem spv_fits {x y s l : V} {rs qs : List Row} {d1 d2 : PyData} {n : Nat} {H : Hp} (hx : LRw H x rs) (hy : LRw H y qs) (ho : OkRows n rs) (pm : qs.Perm rs) (hs : Da H s d1) (hl : Da H l d2) (m1 : DomS d1) (m2 : DomP d2) : SpV sp__law_fits [x, y, s, l] H (.bl (rb (FitsD rs qs d1 d2))) := fun H1 e Q q _ => ⟨x, y, s, l, rs, qs, d1, d2, n, rfl, LRw.ex hx e, LRw.ex hy e, ho, pm, hs.ex e, hl.ex e, m1, m2, q⟩
end
end Mv
/-! _law_done, _law_leads. -/
namespace Mv
open PySem PySem.Spec PyProof.Rows L2 Evl
/-- what _law_done can be asked -/
def DomM (d : PyData) : Prop := ∀ a b, d = .tuple [a, b] → Smp a ∧ Smp b ∧ (isTupD a = true → b = .none ∨ ∃ es, seqD b = some es)
/-- o is what the move d makes of rs -/
def DoneD (rs : List Row) (d : PyData) (o : Option (List Row)) : Prop := (∀ m : Move, MvD d m → o = done rs m.1 m.2) ∧ ((¬∃ m : Move, MvD d m) → o = none)
theorem done_iff {rs : List Row} {r : Row} {o : Option Row} (h : ¬(r ∈ rs ∧ o ≠ some r ∧ inO rs o = true)) : done rs r o = none := if_neg h
theorem eqv_oD (o : Option Row) (r : Row) : PyData.eqv (oD o) (rd r) = decide (o = some r) := by
  cases o with
  | none => simp [oD, rd, PyData.eqv]
  | some q => 
    show PyData.eqv (rd q) (rd r) = _
    rw [eqv_row]
    exact decide_eq_decide.mpr ⟨fun h => by rw [h], fun h => Option.some.inj h⟩
section
variable {K : PySem.W.Frag} {σ : L2.St} {H : Hp} {ta tb te : TE} {x y : V} {d e : PyData}
theorem rv_eqDa (hx : Da H x d) (hy : Da H y e) (sd : Smp d) (se : Smp e) : RV (rEqD K) x y H (.bl (PyData.eqv d e)) := fun H1 a Q k =>
  ⟨d, e, (hx.ex a).dp sd.1, (hy.ex a).dp se.1, sd.2.1, se.2.1, k H1 (Ex.refl H1)⟩
end
section
variable {P : Program} {w : World} {K : PySem.W.Frag} {mg : Str → Option Value} {base : Heap} {a : Nat → Addr} {d : Nat → FuncData} {tk : Nat → Tok}
def sp__law_done : Sp := fun vs H Q _ => ∃ (x m : V) (rs : List Row) (dd : PyData) (o : Option (List Row)), vs = [x, m] ∧ LRw H x rs ∧ Da H m dd ∧ DomM dd ∧ rs.length ≤ 60 ∧ rs.Nodup ∧ DoneD rs dd o ∧ DoneRes H Q o
theorem ok__law_done (T : All K mg a d tk) : FnOk P w K mg base CX0 1 (a 28) (d 28) ["rows", "move"] sp__law_done := by
  refine T.F__law_done.fn.ok sc__law_done (fun vs H Q E h => ?_) (fun cdv A outer s H vs Q E hr h => ?_)
  · obtain ⟨x, m, rs, dd, o, rfl, _⟩ := h
    rfl
  · obtain ⟨x, m, rs, dd, o, rfl, hx, hm, hD, hl, nR, ⟨hO1, hO2⟩, k⟩ := h
    have nd := sc__law_done.nd
    have hu := hu_of hr
    have hu0 := hr.units0
    have hu65 := hu65_of hr
    have hu64 := hr.units
    refine ⟨_, (pss_cons (ps_if (PW.pt (pw_or (pt_not (pt_val (pe_callB call_isi (by rfl) T.n_isinstance PyProof.Rows.boot_isinstance (pa_cons (pv 1) (pa_cons (pe_bltn (v := .ty "tuple") rfl T.n_tuple PyProof.Rows.boot_tuple rfl) pa_nil))))) (pw_or (pt_cmpR op_ne (pe_callB call_len_seq (by rfl) T.n_len PySem.boot_len (pa_cons (pv 1) pa_nil)) pe_int (nomark _)) (pw_or (pt_cmpR (op_notInD hu65) (pe_ix ix_seq (pv 1) pe_int (fun _ _ => rfl)) (pv 0) rfl) (pw_or1 (pt_cmpR (op_eqD hu64) (pe_ix ix_seq (pv 1) pe_int (fun _ _ => rfl)) (pe_ix ix_seq (pv 1) pe_int (fun _ _ => rfl)) (nomark _)))))))
 (pss_one (ps_ret pe_non))
 pss_nil)
 (pss_cons (ps_for PassesOwn.never rfl (pi_seq (pv 1)) (pg_name (i := 2) nd rfl (Or.inl rfl))
 (pss_one (ps_if (PW.pt (pw_and (pt_cmp (pc_notN (pv 2))) (pw_and1 (pt_cmpR (op_neNil hu0) (pe_lc (own := [("each", 5)]) (g := (gName 5)) rfl nd (pi_seq (pv 2)) (blkOk_by (N := N__law_done) (sc := defScope s__law_done) (by decide +kernel)) (fun _ _ _ _ _ => (pg_name (i := 5) nd rfl (Or.inl rfl))) (fun _ _ _ _ _ => (pts_one (pt_val (pe_callB (show CallR _ (.builtin "isinstance") (rIsi K) from call_isi) (by rfl) T.n_isinstance PyProof.Rows.boot_isinstance (pa_cons (pv 5) (pa_cons (pe_bltn (v := .ty "bool") rfl T.n_bool PyProof.Rows.boot_bool rfl) pa_nil)))))) (fun _ _ _ _ _ => (pv 5))) (pe_lst pa_nil) (nomark _)))))
 (pss_one (ps_ret pe_non))
 pss_nil)))
 (pss_cons (ps_setLc (i := 3) (own := [("first", 6)]) (g := (gName 6)) rfl nd rfl rfl (sw_true rfl rfl rfl (by decide +kernel)) (pi_list (pv 0)) (blkOk_by (N := N__law_done) (sc := defScope s__law_done) (by decide +kernel)) (fun _ _ _ _ _ => (pg_name (i := 6) nd rfl (Or.inl rfl))) (fun _ _ _ _ _ => (pts_one (pt_cmpR (show OpR _ (compareOp .NotEq) (rNeD K) from (op_neD hu64)) (pv 6) (pe_ix (show IxR _ (rIx K) from ix_seq) (pv 1) pe_int (fun _ _ => rfl)) (nomark _)))) (fun _ _ _ _ _ => (pv 6)))
 (pss_cons (ps_if (PW.pt (pw_and (pt_cmp (pc_notN (pe_ix ix_seq (pv 1) pe_int (fun _ _ => rfl)))) (pw_and1 (pt_cmpR (op_notInD hu65) (pe_ix ix_seq (pv 1) pe_int (fun _ _ => rfl)) (pv 3) rfl))))
 (pss_one (ps_ret pe_non))
 pss_nil)
 (pss_cons (ps_set (i := 4) nd rfl (Or.inl rfl) (pe_ifExp (pt_cmp (pc_isN (pe_ix ix_seq (pv 1) pe_int (fun _ _ => rfl)))) pe_int (pe_op op_add (pe_bm PySem.F.plainAttrs_list PySem.F.slot_list_index PySem.F.type_list_index (mt_indexD hu65) (pv 3) (pa_cons (pe_ix ix_seq (pv 1) pe_int (fun _ _ => rfl)) pa_nil)) pe_int)))
 (pss_one (ps_ret (pe_op op_cat (pe_op op_cat (pe_slice sl_list (pv 3) po_none (po_some (pv 4))) (pe_lst (pa_cons (pe_ix ix_seq (pv 1) pe_int (fun _ _ => rfl)) pa_nil))) (pe_slice sl_list (pv 3) (po_some (pv 4)) po_none))))))))), ?_⟩
    obtain ⟨f, ys, rfl, hf, hp⟩ := hx
    by_cases ht : ∃ ds, dd = .tuple ds
    · obtain ⟨ds, rfl⟩ := ht
      obtain ⟨ma, xs, rfl, hma, hpm⟩ := hm.tup'
      have hlen : xs.length = ds.length := Paired.length hpm.p
      by_cases h2 : ds.length = 2
      · match ds, h2 with
        | [pa, pb], _ =>
        cases hpm with
        | cons g1 t =>
        rename_i v1 _
        cases t with
        | cons g2 t =>
        rename_i v2 _
        cases t
        obtain ⟨sa, sb, hnb⟩ := hD pa pb rfl
        have i0 : ∀ {H' : Hp} {w2 w3 w4 w5 w6 : Option V}, Ex H H' → Ev (tOp (rIx K) (tVar 1) (tC (.int 0))) [some (.ref f), some (.ref ma), w2, w3, w4, w5, w6] H' v1 := fun e => ev_ixS (i := 0) (ev_var rfl) ev_c (.inr (e _ _ hma)) rfl
        have i1 : ∀ {H' : Hp} {w2 w3 w4 w5 w6 : Option V}, Ex H H' → Ev (tOp (rIx K) (tVar 1) (tC (.int 1))) [some (.ref f), some (.ref ma), w2, w3, w4, w5, w6] H' v2 := fun e => ev_ixS (i := 1) (ev_var rfl) ev_c (.inr (e _ _ hma)) rfl
        have none1 : (inE rs pa = false ∨ PyData.eqv pb pa = true) → o = none := fun h => by
          by_cases hex : ∃ m : Move, MvD (.tuple [pa, pb]) m
          · obtain ⟨mv, e⟩ := hex
            rw [hO1 mv e]
            unfold MvD at e
            injection e with e
            injection e with ea eb
            injection eb with eb _
            refine done_iff fun ⟨c1, c2, _⟩ => ?_
            rcases h with h | h
            · rw [ea, inE_row, decide_eq_true c1] at h
              cases h
            · rw [ea, eb, eqv_oD] at h
              exact c2 (of_decide_eq_true h)
          · exact hO2 hex
        refine q_when (b := !inE rs pa || PyData.eqv pb pa) (et_is (et_or (a := false) (et_not (et_B (ev_isTupD (ev_var rfl) hm))) fun _ => et_or (a := false) (et_test (ev_op (ev_lenS (ev_var rfl) (.inr hma)) ev_c (rv_ne rfl))) fun _ => et_or (et_test (ev_op (i0 (Ex.refl _)) (ev_var rfl) (rv_ninE hf hp g1 sa))) fun _ => et_test (ev_op (i1 (Ex.refl _)) (i0 (Ex.refl _)) (rv_eqDa g2 g1 sb sa))) rfl) (fun h H1 e1 => ?_) fun h H1 e1 => ?_
        · rw [Bool.or_eq_true] at h
          rw [none1 (h.imp (fun z => by cases q : inE rs pa with | true => rw [q] at z; cases z | false => rfl) id)] at k
          exact s_ret ev_c fun H2 e2 => k H2 (e1.trans e2)
        rw [Bool.or_eq_false_iff] at h
        have ha : inE rs pa = true := by cases q : inE rs pa with | true => rfl | false => rw [q] at h; exact absurd h.1 (by decide)
        have hne := h.2
        obtain ⟨r0, hr0, es, rfl, hes⟩ := inE_tup ha
        have hb2 := hnb rfl
        obtain ⟨z1, zs1, rfl, hz1, hzp1⟩ := id g1.tup'
        let Pv : Nat → L2.St → Hp → Prop := fun i σ' H' => Ex H1 H' ∧ (1 ≤ i → (es.all fun d => !isBoolD d) = true) ∧ (2 ≤ i → ∀ es2, seqD pb = some es2 → (es2.all fun d => !isBoolD d) = true) ∧ ∃ v2', σ' = [some (.ref f), some (.ref ma), v2', none, none, none, none]
        have nob : ((es.all fun d => !isBoolD d) = false ∨ ∃ es2, seqD pb = some es2 ∧ (es2.all fun d => !isBoolD d) = false) → o = none := fun h => by
          by_cases hex : ∃ m : Move, MvD (.tuple [.tuple es, pb]) m
          · obtain ⟨mv, e⟩ := hex
            unfold MvD at e
            injection e with e
            injection e with ea eb
            injection eb with eb _
            have rn : ∀ r : Row, ((r.map PyData.int).all fun d => !isBoolD d) = true := fun r => by
              rw [List.all_map, List.all_eq_true]
              exact fun i _ => rfl
            rcases h with h | ⟨es2, h1, h2⟩
            · unfold rd at ea
              injection ea with ea
              rw [ea, rn] at h
              cases h
            · rw [eb] at h1
              cases hm2 : mv.2 with
              | none => rw [hm2] at h1; cases h1
              | some q =>
                rw [hm2] at h1
                cases h1
                rw [rn] at h2
                cases h2
          · exact hO2 hex
        have fin : ∀ {j : Nat} {H2 : Hp} {z : V} {es' : List PyData} (hz : Da H2 z (.tuple es') ∨ ∃ d', Da H2 z d' ∧ seqD d' = some es') (hl' : es'.length ≤ 1000), Ev (tOp (rNilEq K true) (tLc (iSeq K (tVar 2)) (gName 5) (tB (tCB (rIsi K) (tCons (tVar 5) (tCons (tC (.ty "bool")) tNil)))) (tVar 5) [5]) (tLst tNil)) [some (.ref f), some (.ref ma), some z, none, none, none, none] H2 (.bl (!es'.all fun d => !isBoolD d)) := by
          intro j H2 z es' hz hl'
          obtain ⟨q, qs', rfl, hq1, hq2⟩ : ∃ a xs, z = .ref a ∧ Seq H2 a xs ∧ DaAll H2 xs es' := by
            rcases hz with hz | ⟨d', hz, e⟩
            · obtain ⟨a, xs, h1, h2, h3⟩ := hz.tup'
              exact ⟨a, xs, h1, .inr h2, h3⟩
            · exact hz.seq e
          exact ev_anyNe (ds := es') isBoolD (ev_var rfl) hq1 hq2 (by rw [Paired.length hq2.p]; omega) (fun _ => rfl) (fun _ => rfl) fun y dy H3 e3 my hy2 => et_B (ev_isBoolD (ev_var rfl) hy2)
        refine q_forS (a := ma) (xs := [.ref z1, v2]) (ev_var rfl) (.inr (e1 _ _ hma)) Pv (fun H2 e2 => ⟨e2, fun h => absurd h (by omega), fun h => absurd h (by omega), none, rfl⟩) (fun i σ' H' _ h => ((e1.trans h.1) _ _ hma).trans (e1 _ _ hma).symm) ?_ ?_
        · rintro i z σ' H' hi ⟨e2, hA, hB, v2', rfl⟩
          have e12 := e1.trans e2
          match i, hi with
          | 0, hi =>
            cases hi
            refine s_when (b := !es.all fun d => !isBoolD d) (et_is (et_and (a := true) (et_is (et_B (ev_notN (x := .ref z1) (ev_var rfl))) rfl) fun _ => et_test (fin (j := 0) (.inl (g1.ex e12)) (sa.2.2 es rfl))) rfl) (fun h H2 e3 => ?_) fun h H2 e3 => ?_
            · rw [nob (.inl (by cases q : (es.all fun d => !isBoolD d) with | true => rw [q] at h; cases h | false => rfl))] at k
              exact s_ret ev_c fun H3 e4 => k H3 (e12.trans (e3.trans e4))
            · have hT : (es.all fun d => !isBoolD d) = true := by
                cases q : (es.all fun d => !isBoolD d) with
                | true => rfl
                | false => rw [q] at h; cases h
              exact ⟨e2.trans e3, fun _ => hT, fun h => absurd h (by omega), _, rfl⟩
          | 1, hi =>
            cases hi
            have hA := hA (Nat.le_refl _)
            rcases hb2 with hb2 | ⟨es2, hb2⟩
            · subst hb2
              cases g2
              refine s_when (b := false) (et_and (b := true) (a := false) (et_is (et_B (ev_notN (x := .non) (ev_var rfl))) rfl) fun h => nomatch h) (fun h => nomatch h) fun _ H2 e3 => ?_
              exact ⟨e2.trans e3, fun _ => hA, fun _ es2 h => (by cases h), _, rfl⟩
            · have nn : v2 ≠ .non := fun z => by
                subst z
                cases g2
                cases hb2
              refine s_when (b := !es2.all fun d => !isBoolD d) (et_is (et_and (a := true) (et_is (et_B (ev_notN (x := v2) (ev_var rfl))) (by rw [decide_eq_false nn] <;> rfl)) fun _ => et_test (fin (j := 0) (.inr ⟨pb, g2.ex e12, hb2⟩) (sb.2.2 es2 hb2))) rfl) (fun h H2 e3 => ?_) fun h H2 e3 => ?_
              · rw [nob (.inr ⟨es2, hb2, by cases q : (es2.all fun d => !isBoolD d) with | true => rw [q] at h; cases h | false => rfl⟩)] at k
                exact s_ret ev_c fun H3 e4 => k H3 (e12.trans (e3.trans e4))
              · have hT : ∀ es3, seqD pb = some es3 → (es3.all fun d => !isBoolD d) = true := fun es3 h3 => by
                  rw [hb2] at h3
                  cases h3
                  cases q : (es2.all fun d => !isBoolD d) with
                  | true => rfl
                  | false => rw [q] at h; cases h
                exact ⟨e2.trans e3, fun _ => hA, fun _ => hT, _, rfl⟩
          | i + 2, hi => simp at hi
        · rintro σ' H' ⟨e2, hA, hB, v2', rfl⟩
          have e12 := e1.trans e2
          have hA := hA (by simp)
          have hB := hB (by simp)
          obtain ⟨r, hr1, er⟩ := (oneOf_iff ha).mpr hA
          rw [er] at g1
          have hvr := g1.row
          have hf2 := e12 _ _ hf
          have hp2 := Paired.imp (fun _ _ h => IsRow.ex h e12) hp
          refine q_asgE (el_drp (K := K) (σ := [some (V.ref f), some (.ref ma), v2', none, none, none, none]) (tl := tVar 0) (tx := tOp (rIx K) (tVar 1) (tC (.int 0))) (j := 6) (ev_var rfl) hf2 hp2 hl (hvr.ex e12) (fun _ => rfl) (fun _ => rfl) (fun y H2 e2 => i0 (e12.trans e2))) fun L H3 nL e3 ⟨L', zs, eL, hL, hz⟩ => ?_
          cases eL
          have e13 := e12.trans e3
          have lz : zs.length = (drp rs r).length := Paired.length hz
          have tN : EvT (tAnd (tB (tNotN (tOp (rIx K) (tVar 1) (tC (.int 1))))) (tTest (tOp (rNotInD K) (tOp (rIx K) (tVar 1) (tC (.int 1))) (tVar 3)))) [some (V.ref f), some (.ref ma), v2', some (.ref L), none, none, none] H3 (!isNonD pb && !inE (drp rs r) pb) :=
            et_and (et_is (et_B (ev_notN (i1 e13))) (by rw [g2.isN])) fun _ => et_test (ev_op (i1 e13) (ev_var rfl) (rv_ninE hL hz (g2.ex e13) sb))
          refine q_when tN (fun h H4 e4 => ?_) fun h H4 e4 => ?_
          · rw [Bool.and_eq_true] at h
            have z : o = none := by
              by_cases hex : ∃ m : Move, MvD (.tuple [.tuple es, pb]) m
              · obtain ⟨mv, e⟩ := hex
                rw [hO1 mv e]
                unfold MvD at e
                injection e with e
                injection e with ea eb
                injection eb with eb _
                have e1r := rd_inj (er.symm.trans ea)
                refine done_iff fun ⟨c1, c2, c3⟩ => ?_
                cases hm2 : mv.2 with
                | none => rw [eb, hm2] at h; exact absurd h.1 (by decide)
                | some q =>
                  rw [hm2] at eb c2 c3
                  have w := inO_drp c3 c2
                  rw [← e1r] at w
                  rw [eb, show inE (drp rs r) (oD (some q)) = decide (q ∈ drp rs r) from inE_row, show decide (q ∈ drp rs r) = true from w] at h
                  exact absurd h.2 (by decide)
              · exact hO2 hex
            rw [z] at k
            exact s_ret ev_c fun H5 e5 => k H5 (e13.trans (e4.trans e5))
          obtain ⟨ob, hob, hbM, iD⟩ : ∃ ob : Option Row, pb = oD ob ∧ AhV H v2 ob ∧ inO (drp rs r) ob = true := by
            cases hN : isNonD pb with
            | true =>
              cases pb with
              | none => cases g2; exact ⟨none, rfl, rfl, rfl⟩
              | _ => cases hN
            | false =>
              rw [hN] at h
              have hin : inE (drp rs r) pb = true := by cases q : inE (drp rs r) pb with | true => rfl | false => rw [q] at h; cases h
              obtain ⟨_, _, es2, rfl, _⟩ := inE_tup hin
              obtain ⟨q, hq, eq⟩ := (oneOf_iff hin).mpr (hB es2 rfl)
              rw [eq] at g2
              exact ⟨some q, eq, g2.row, decide_eq_true hq⟩
          have eo : o = done rs r ob := hO1 (r, ob) (by unfold MvD; rw [er, hob])
          have hy : r ∈ rs ∧ ob ≠ some r ∧ inO rs ob = true := by
            refine ⟨hr1, fun e => ?_, ?_⟩
            · rw [er, hob, eqv_oD, decide_eq_true e] at hne
              cases hne
            · cases ob with
              | none => rfl
              | some q => exact decide_eq_true (drp_mem.mp (of_decide_eq_true iD)).1
          rw [eo, done_eq hy] at k
          have al := at_le iD
          have hL1 := e4 _ _ hL
          have hz1 := Paired.imp (fun _ _ h => IsRow.ex h e4) hz
          have e14 := e13.trans e4
          refine q_asg (v := .int (at' (drp rs r) ob : Nat)) ?_ fun H5 e5 => ?_
          · cases ob with
            | none => exact ev_if (b := true) (et_is (et_B (ev_isN (i1 e14))) (by rw [hbM.isN] <;> rfl)) (fun _ => ev_c) fun h => nomatch h
            | some q => exact ev_if (b := false) (et_is (et_B (ev_isN (i1 e14))) (by rw [hbM.isN] <;> rfl)) (fun h => nomatch h) fun _ => ev_is (ev_I0 (ev_indexR (ev_var rfl) hL1 hz1 (i1 e14) (hbM.ex e14) (of_decide_eq_true iD)) ev_c) rfl
          · have s1 : EvL (tSl (rSlL K) (tVar 3) tNoPart (tPart (tVar 4))) [some (V.ref f), some (.ref ma), v2', some (.ref L), some (.int (at' (drp rs r) ob : Nat)), none, none] H5 (zs.take (at' (drp rs r) ob)) := by
              have := el_sl (K := K) (te := tVar 3) (σ := [some (V.ref f), some (.ref ma), v2', some (.ref L), some (.int (at' (drp rs r) ob : Nat)), none, none]) (H := H5) (ev_var rfl) eo_none (eo_some (te := tVar 4) (ev_var rfl)) (sq_of (e5 _ _ hL1))
              rwa [cutV_to _ _ (by omega)] at this
            have s2 : EvL (tSl (rSlL K) (tVar 3) (tPart (tVar 4)) tNoPart) [some (V.ref f), some (.ref ma), v2', some (.ref L), some (.int (at' (drp rs r) ob : Nat)), none, none] H5 (zs.drop (at' (drp rs r) ob)) := by
              have := el_sl (K := K) (te := tVar 3) (σ := [some (V.ref f), some (.ref ma), v2', some (.ref L), some (.int (at' (drp rs r) ob : Nat)), none, none]) (H := H5) (ev_var rfl) (eo_some (te := tVar 4) (ev_var rfl)) eo_none (sq_of (e5 _ _ hL1))
              rwa [cutV_from _ _ (by omega)] at this
            have lt1 := List.length_take (i := at' (drp rs r) ob) (l := zs)
            have lt2 := List.length_drop (i := at' (drp rs r) ob) (l := zs)
            have l60 : (drp rs r).length ≤ rs.length := List.length_filter_le _ _
            refine s_retL (el_cat (el_cat s1 (el_lst (ea_cons (i0 (e14.trans e5)) ea_nil) (show 1 ≤ 100000 by decide)) ?_) s2 ?_) fun p H6 np e6 h4 => ?_
            · simp only [List.length_cons, List.length_nil]
              omega
            · simp only [List.length_append, List.length_cons, List.length_nil]
              omega
            · rw [List.append_assoc] at h4
              have e16 := e14.trans (e5.trans e6)
              have hz4 := Paired.imp (fun _ _ h => IsRow.ex h (e5.trans e6)) hz1
              exact k p H6 (fresh_back (e14.trans e5) np) e16 ⟨p, _, rfl, h4, Paired.append (Paired.take _ hz4) (.cons (hvr.ex e16) (Paired.drop _ hz4))⟩
      · have hno : ¬∃ m : Move, MvD (.tuple ds) m := fun ⟨m, e⟩ => by
          unfold MvD at e
          injection e with e
          rw [e] at h2
          exact h2 rfl
        rw [hO2 hno] at k
        refine q_when (b := true) (et_is (et_or (et_not (et_B (ev_isTupD (ev_var rfl) hm))) fun _ => et_or (b := false) (et_test (ev_op (ev_lenS (ev_var rfl) (.inr hma)) ev_c (rv_ne rfl))) fun h => ?_) ?_) (fun h H1 e1 => s_ret ev_c fun H2 e2 => k H2 (e1.trans e2)) fun h => nomatch h
        · have h : (!decide (V.int (xs.length : Int) = V.int 2)) = false := h
          rw [decide_eq_false fun e => by injection e with e; omega] at h
          cases h
        · rw [decide_eq_false fun e : V.int (xs.length : Int) = V.int 2 => by injection e with e; omega] <;> rfl
    · have z : isTupD dd = false := by cases dd <;> first | rfl | exact absurd ⟨_, rfl⟩ ht
      rw [hO2 fun ⟨m, e⟩ => ht ⟨_, e⟩] at k
      refine q_when (b := true) (et_is (et_or (b := false) (et_not (et_B (ev_isTupD (ev_var rfl) hm))) fun h => ?_) (by rw [z] <;> rfl)) (fun h H1 e1 => s_ret ev_c fun H2 e2 => k H2 (e1.trans e2)) fun h => nomatch h
      rw [z] at h
      cases h
end
end Mv
/-! _law_leads. -/
namespace Mv
open PySem PySem.Spec PyProof.Rows L2 Evl
def DomL (d : PyData) : Prop := ∀ ds, seqD d = some ds → ds.length ≤ 1000 ∧ ∀ e ∈ ds, DomM e
theorem DomL.one {d : PyData} (h : DomL d) : Dom1 d := fun ds e => (h ds e).1
/-- o is what the moves make of rs -/
def LedD (rs : List Row) (ds : List PyData) (o : Option (List Row)) : Prop := (∀ ms, Paired MvD ds ms → o = led rs ms) ∧ ((¬∃ ms, Paired MvD ds ms) → o = none)
theorem paired_snoc {α β : Type} {F : α → β → Prop} : ∀ {xs : List α} {x : α} {zs : List β}, Paired F (xs ++ [x]) zs → ∃ ys y, zs = ys ++ [y] ∧ Paired F xs ys ∧ F x y
  | [], x, _, h => by
    cases h with
    | cons h1 t => cases t; exact ⟨[], _, rfl, .nil, h1⟩
  | c :: xs, x, _, h => by
    cases h with
    | cons h1 t =>
      obtain ⟨ys, y, e, p, q⟩ := paired_snoc t
      exact ⟨_ :: ys, y, by rw [e] <;> rfl, .cons h1 p, q⟩
theorem LedD.stay {rs : List Row} {ds : List PyData} {d : PyData} (h : LedD rs ds none) : LedD rs (ds ++ [d]) none := by
  refine ⟨fun ms hms => ?_, fun _ => rfl⟩
  obtain ⟨ys, y, e, p, _⟩ := paired_snoc hms
  rw [e, led_snoc, ← h.1 ys p] <;> rfl
theorem LedD.step {rs l : List Row} {ds : List PyData} {d : PyData} {o : Option (List Row)} (h : LedD rs ds (some l)) (hd : DoneD l d o) : LedD rs (ds ++ [d]) o := by
  obtain ⟨ms0, hms0⟩ : ∃ ms, Paired MvD ds ms := Classical.byContradiction fun z => by have := h.2 z; cases this
  refine ⟨fun ms hms => ?_, fun hno => hd.2 fun ⟨m, hm⟩ => hno ⟨ms0 ++ [m], Paired.append hms0 (.cons hm .nil)⟩⟩
  obtain ⟨ys, y, e, p, q⟩ := paired_snoc hms
  rw [e, led_snoc, ← h.1 ys p, hd.1 y q] <;> rfl
theorem doneD_ex (rs : List Row) (d : PyData) : ∃ o, DoneD rs d o := by
  by_cases h : ∃ m : Move, MvD d m
  · obtain ⟨m, hm⟩ := h
    exact ⟨done rs m.1 m.2, fun m' hm' => by rw [hm.fn hm'], fun hn => absurd ⟨m, hm⟩ hn⟩
  · exact ⟨none, fun m hm => absurd ⟨m, hm⟩ h, fun _ => rfl⟩
section
variable {P : Program} {w : World} {K : PySem.W.Frag} {mg : Str → Option Value} {base : Heap} {a : Nat → Addr} {d : Nat → FuncData} {tk : Nat → Tok}
def sp__law_leads : Sp := fun vs H Q _ => ∃ (x y z : V) (rs qs : List Row) (dd : PyData) (n : Nat), vs = [x, y, z] ∧ LRw H x rs ∧ LRw H y qs ∧ OkRows n rs ∧ qs.Perm rs ∧ Da H z dd ∧ DomL dd ∧ RetV (.bl (rb (LeadsD rs qs dd))) H Q
theorem ok__law_leads (T : All K mg a d tk) : FnOk P w K mg base CX0 2 (a 29) (d 29) ["first", "second", "moves"] sp__law_leads := by
  refine T.F__law_leads.fn.ok sc__law_leads (fun vs H Q E h => ?_) (fun cdv A outer s H vs Q E hr h => ?_)
  · obtain ⟨x, y, z, rs, qs, dd, n, rfl, _⟩ := h
    rfl
  · obtain ⟨x, y, z, rs, qs, dd, n, rfl, hx, hy, ho, pm, hz, hm, k⟩ := h
    have nd := sc__law_leads.nd
    have hu0 := hr.units0
    have hu64 := hr.units
    refine ⟨_, (pss_cons (ps_if (PW.pt (pw_or (pt_not (pt_val (pe_callB call_isiT (by rfl) T.n_isinstance PyProof.Rows.boot_isinstance (pa_cons (pv 2) (pa_cons (pe_tup (pa_cons (pe_bltn (v := .ty "list") rfl T.n_list PyProof.Rows.boot_list rfl) (pa_cons (pe_bltn (v := .ty "tuple") rfl T.n_tuple PyProof.Rows.boot_tuple rfl) pa_nil))) pa_nil))))) (pw_or1 (pt_cmpR op_ne (pe_callB call_len_seq (by rfl) T.n_len PySem.boot_len (pa_cons (pv 2) pa_nil)) (pe_op op_sub (pe_callB call_len_seq (by rfl) T.n_len PySem.boot_len (pa_cons (pv 0) pa_nil)) (pe_call (ok__law_longest T) (hr.mono (by decide)) rfl T.F__law_longest.m T.F__law_longest.kp T.F__law_longest.b .nil pass0 (pa_cons (pv 0) (pa_cons (pv 1) pa_nil)))) (nomark _)))))
 (pss_one (ps_ret pe_bl))
 pss_nil)
 (pss_cons (ps_set (i := 3) nd rfl (Or.inl rfl) (pe_callTy call_list_of rfl T.n_list PyProof.Rows.boot_list (pa_cons (pv 0) pa_nil)))
 (pss_cons (ps_for PassesOwn.never rfl (pi_seq (pv 2)) (pg_name (i := 4) nd rfl (Or.inl rfl))
 (pss_one (ps_if (pt_cmp (pc_notN (pv 3)))
 (pss_one (ps_set (i := 3) nd rfl (Or.inl rfl) (pe_call (ok__law_done T) (hr.mono (by decide)) rfl T.F__law_done.m T.F__law_done.kp T.F__law_done.b .nil pass0 (pa_cons (pv 3) (pa_cons (pv 4) pa_nil)))))
 pss_nil)))
 (pss_one (ps_ret (pe_cmpR (op_eqD hu64) (pv 3) (pe_callTy call_list_of rfl T.n_list PyProof.Rows.boot_list (pa_cons (pv 1) pa_nil)) (nomark _))))))), ?_⟩
    obtain ⟨a0, xs, rfl, hs, hp⟩ := id hx
    obtain ⟨b0, ys, rfl, ht, hq⟩ := id hy
    have nR := ho.nd
    have h60 := ho.few
    cases hsd : seqD dd with
    | none =>
      have z1 : rb (LeadsD rs qs dd) = false := rb_no fun ⟨_, _, e, _⟩ => by rw [hsd] at e; cases e
      rw [z1] at k
      refine q_when (b := true) (et_is (et_or (b := false) (et_not (et_B (ev_isSq (ev_var rfl) hz.isq))) fun h => ?_) (by rw [hsd] <;> rfl)) (fun _ H2 e2 => s_ret ev_c fun H3 e3 => k H3 (e2.trans e3)) fun h => nomatch h
      rw [hsd] at h
      cases h
    | some ds =>
    obtain ⟨c0, zs, rfl, hc, hmv⟩ := hz.seq hsd
    have lzs : zs.length = ds.length := Paired.length hmv.p
    obtain ⟨lds, hdm⟩ := hm ds hsd
    have lx : xs.length = rs.length := Paired.length hp
    have t1 : EvT (tTest (tOp rNe (tCB (rLenS K) (tCons (tVar 2) tNil)) (tOp (rI0 fun i j => .int (i - j)) (tCB (rLenS K) (tCons (tVar 0) tNil)) (tCall sp__law_longest [] E0 (tCons (tVar 0) (tCons (tVar 1) tNil)))))) [some (V.ref a0), some (.ref b0), some (.ref c0), none, none] H (!rb (Cnt rs qs ds.length)) := fun H2 e Q q =>
      (ev_lenS (K := K) (ta := tVar 2) (σ := [some (V.ref a0), some (.ref b0), some (.ref c0), none, none]) (H := H) (ev_var rfl) hc) H2 e _ fun H3 e3 => (ev_lenS (K := K) (ta := tVar 0) (σ := [some (V.ref a0), some (.ref b0), some (.ref c0), none, none]) (H := H) (ev_var rfl) (.inl hs)) H3 (e.trans e3) _ fun H4 e4 => by
        have e04 := (e.trans e3).trans e4
        refine ⟨.ref a0, rfl, .ref b0, rfl, .ref a0, .ref b0, rs, qs, n, rfl, LRw.ex hx e04, LRw.ex hy e04, ho, pm, fun lev ahd M H5 h1 h2 e5 => ?_⟩
        refine ⟨_, _, rfl, rfl, rfl, _, rfl, ?_⟩
        have : (!decide (V.int (zs.length : Int) = V.int ((xs.length : Int) - (M : Nat)))) = !rb (Cnt rs qs ds.length) := by
          refine congrArg Bool.not (rb_eq ?_)
          rw [decide_eq_true_eq, cnt_iff h1 h2]
          constructor
          · intro e
            injection e with e
            omega
          · intro e
            exact congrArg V.int (by omega)
        rw [this]
        exact q H5 ((e3.trans e4).trans e5)
    refine q_when (b := !rb (Cnt rs qs ds.length)) (et_or (a := false) (et_not (et_B (ev_isSq (ev_var rfl) (Seq.isq hc)))) fun _ => t1) (fun h H2 e2 => ?_) fun h H2 e2 => ?_
    · have z1 : rb (LeadsD rs qs dd) = false := rb_no fun ⟨ds', ms, e, g1, g2, g3⟩ => by
        rw [hsd] at e
        cases e
        rw [rb_yes g2] at h
        cases h
      rw [z1] at k
      exact s_ret ev_c fun H3 e3 => k H3 (e2.trans e3)
    have hC : Cnt rs qs ds.length := rb_iff.mp (by cases z : rb (Cnt rs qs ds.length) with | true => rfl | false => rw [z] at h; exact absurd h (by decide))
    have iff1 : ∀ {o}, LedD rs ds o → (LeadsD rs qs dd ↔ o = some qs) := fun {o} hO => ⟨fun ⟨ds', ms', e, g1, g2, g3⟩ => by
      rw [hsd] at e
      cases e
      rw [hO.1 ms' g1]
      exact g3, fun g => by
        obtain ⟨ms0, hms0⟩ : ∃ ms, Paired MvD ds ms := Classical.byContradiction fun z => by have := hO.2 z; rw [g] at this; cases this
        exact ⟨ds, ms0, hsd, hms0, hC, by rw [← hO.1 ms0 hms0]; exact g⟩⟩
    refine q_asgL (el_listS (ev_var rfl) (Seq.ex (.inl hs) e2)) fun L H3 nL e3 hL3 => ?_
    have e13 := e2.trans e3
    let Pv : Nat → L2.St → Hp → Prop := fun i σ' H' => Ex H H' ∧ ∃ (v : V) (v4 : Option V) (o : Option (List Row)), σ' = [some (.ref a0), some (.ref b0), some (.ref c0), some v, v4] ∧ LedAt H' v o ∧ LedD rs (ds.take i) o
    refine q_forS (a := c0) (xs := zs) (ev_var rfl) (hc.ex e13) Pv (fun H4 e4 => ⟨e13.trans e4, .ref L, none, some rs, rfl, ⟨L, xs, rfl, e4 _ _ hL3, Paired.imp (fun _ _ h => h.ex (e13.trans e4)) hp⟩, fun ms hms => by cases hms; rfl, fun hn => absurd ⟨[], .nil⟩ hn⟩) (fun i σ' H' _ h => ?_) ?_ ?_
    · exact hc.elim (fun z => (h.1 _ _ z).trans (e13 _ _ z).symm) fun z => (h.1 _ _ z).trans (e13 _ _ z).symm
    · rintro i m σ' H' hi ⟨e', v, v4, o, rfl, hv, hO⟩
      obtain ⟨di, hdi, hmi⟩ := Paired.at_l hmv.p i m hi
      have et : ds.take (i + 1) = ds.take i ++ [di] := take_next hdi
      cases o with
      | none =>
        cases (show v = .non from hv)
        refine s_when (b := false) (et_is (et_B (ev_notN (x := .non) (ev_var rfl))) rfl) (fun h => nomatch h) fun _ H5 e5 => ?_
        exact ⟨e'.trans e5, .non, some m, none, rfl, rfl, by rw [et]; exact hO.stay⟩
      | some l =>
        have hv : LRw H' v l := hv
        obtain ⟨b, zs', rfl, hb, hbp⟩ := id hv
        obtain ⟨ms0, hms0⟩ : ∃ ms, Paired MvD (ds.take i) ms := Classical.byContradiction fun z => by have := hO.2 z; cases this
        have pl := led_perm nR ms0 l (hO.1 ms0 hms0).symm
        obtain ⟨o', ho'⟩ := doneD_ex l di
        refine s_when (b := true) (et_is (et_B (ev_notN (x := .ref b) (ev_var rfl))) rfl) (fun _ H5 e5 => ?_) fun h => nomatch h
        show tAsg _ _ _ _ _
        refine ⟨_, rfl, m, rfl, .ref b, m, l, di, o', rfl, LRw.ex hv e5, hmi.ex (e'.trans e5), hdm di (List.mem_of_getElem? hdi), by rw [pl.length_eq]; exact h60, pl.nodup_iff.mpr nR, ho', ?_⟩
        have hS := hO.step ho'
        rw [← et] at hS
        cases o' with
        | none => exact fun H6 e6 => ⟨e'.trans (e5.trans e6), .non, some m, none, rfl, rfl, hS⟩
        | some l' => exact fun q H6 nq e6 h6 => ⟨e'.trans (e5.trans e6), .ref q, some m, some l', rfl, h6, hS⟩
    · rintro σ' H' ⟨e', v, v4, o, rfl, hv, hO⟩
      rw [lzs, List.take_length] at hO
      have z1 : rb (LeadsD rs qs dd) = decide (o = some qs) := (rb_eq (by rw [decide_eq_true_eq]; exact (iff1 hO).symm)).symm
      rw [z1] at k
      refine ⟨_, rfl, ?_⟩
      refine (el_listS (K := K) (ta := tVar 1) (σ := [some (V.ref a0), some (.ref b0), some (.ref c0), some v, v4]) (ev_var rfl) (Seq.ex (.inl ht) e')) H' (Ex.refl _) _ fun q H5 nq e5 h5 => ?_
      have hq5 : LRw H5 (.ref q) qs := ⟨q, ys, rfl, h5, Paired.imp (fun _ _ h => h.ex (e'.trans e5)) hq⟩
      cases o with
      | none =>
        cases (show v = .non from hv)
        refine ⟨.none, rl qs, .non, hq5.dp, by decide +kernel, shaped_rows qs, ?_⟩
        have z2 : PyData.eqv .none (rl qs) = false := by unfold rl; simp [PyData.eqv]
        rw [z2]
        exact k H5 (e'.trans e5)
      | some l =>
        have z2 : decide (some l = some qs) = decide (l = qs) := decide_eq_decide.mpr ⟨fun h => Option.some.inj h, fun h => by rw [h]⟩
        rw [z2] at k
        exact rv_eqRl (K := K) (LRw.ex (show LRw H' v l from hv) e5) hq5 H5 (Ex.refl _) _ fun H6 e6 => k H6 ((e'.trans e5).trans e6)
theorem spv_law_leads {x y z : V} {rs qs : List Row} {dd : PyData} {n : Nat} {H : Hp} (hx : LRw H x rs) (hy : LRw H y qs) (ho : OkRows n rs) (pm : qs.Perm rs) (hz : Da H z dd) (hm : DomL dd) : SpV sp__law_leads [x, y, z] H (.bl (rb (LeadsD rs qs dd))) := fun H1 e Q q _ => ⟨x, y, z, rs, qs, dd, n, rfl, LRw.ex hx e, LRw.ex hy e, ho, pm, hz.ex e, hm, q⟩
end
end Mv
/-! Expressions that give data; their objects are new or of B. -/
namespace Mv
open PySem PySem.Spec PyProof.Rows L2 Evl
mutual
inductive Dx (S : Addr → Prop) (H : Hp) : V → PyData → Prop
  | non : Dx S H .non .none
  | bl (b : Bool) : Dx S H (.bl b) (.bool b)
  | int (i : Int) : Dx S H (.int i) (.int i)
  | str (x : Str) : Dx S H (.str x) (.str x)
  | lst {a : Addr} {xs : List V} {ds : List PyData} : S a → H a = some (.lst xs) → DxAll S H xs ds → Dx S H (.ref a) (.list ds)
  | tup {a : Addr} {xs : List V} {ds : List PyData} : S a → H a = some (.tup xs) → DxAll S H xs ds → Dx S H (.ref a) (.tuple ds)
  | dK {a : Addr} {kvs : List (Key × V)} : S a → H a = some (.dK kvs) → Dx S H (.ref a) (.dict [])
  | dT {a : Addr} {kvs : List (List Key × V)} : S a → H a = some (.dT kvs) → Dx S H (.ref a) (.dict [])
inductive DxAll (S : Addr → Prop) (H : Hp) : List V → List PyData → Prop
  | nil : DxAll S H [] []
  | cons {v : V} {vs : List V} {d : PyData} {ds : List PyData} : Dx S H v d → DxAll S H vs ds → DxAll S H (v :: vs) (d :: ds)
end
mutual
theorem Dx.mv {S S' : Addr → Prop} {H H' : Hp} (e : ∀ a o, S a → H a = some o → S' a ∧ H' a = some o) : ∀ {v : V} {d : PyData}, Dx S H v d → Dx S' H' v d
  | _, _, .non => .non
  | _, _, .bl b => .bl b
  | _, _, .int i => .int i
  | _, _, .str x => .str x
  | _, _, .lst s h t => .lst (e _ _ s h).1 (e _ _ s h).2 (DxAll.mv e t)
  | _, _, .tup s h t => .tup (e _ _ s h).1 (e _ _ s h).2 (DxAll.mv e t)
  | _, _, .dK s h => .dK (e _ _ s h).1 (e _ _ s h).2
  | _, _, .dT s h => .dT (e _ _ s h).1 (e _ _ s h).2
theorem DxAll.mv {S S' : Addr → Prop} {H H' : Hp} (e : ∀ a o, S a → H a = some o → S' a ∧ H' a = some o) : ∀ {vs : List V} {ds : List PyData}, DxAll S H vs ds → DxAll S' H' vs ds
  | _, _, .nil => .nil
  | _, _, .cons h t => .cons (Dx.mv e h) (DxAll.mv e t)
end
mutual
theorem Dx.da {S : Addr → Prop} {H : Hp} : ∀ {v : V} {d : PyData}, Dx S H v d → Da H v d
  | _, _, .non => .non
  | _, _, .bl b => .bl b
  | _, _, .int i => .int i
  | _, _, .str x => .str x
  | _, _, .lst s h t => .lst h (DxAll.da t)
  | _, _, .tup s h t => .tup h (DxAll.da t)
  | _, _, .dK s h => .dK h
  | _, _, .dT s h => .dT h
theorem DxAll.da {S : Addr → Prop} {H : Hp} : ∀ {vs : List V} {ds : List PyData}, DxAll S H vs ds → DaAll H vs ds
  | _, _, .nil => .nil
  | _, _, .cons h t => .cons (Dx.da h) (DxAll.da t)
end
mutual
theorem Da.dx {S : Addr → Prop} {H : Hp} (hs : ∀ a o, H a = some o → S a) : ∀ {v : V} {d : PyData}, Da H v d → Dx S H v d
  | _, _, .non => .non
  | _, _, .bl b => .bl b
  | _, _, .int i => .int i
  | _, _, .str x => .str x
  | _, _, .lst h t => .lst (hs _ _ h) h (DaAll.dx hs t)
  | _, _, .tup h t => .tup (hs _ _ h) h (DaAll.dx hs t)
  | _, _, .dK h => .dK (hs _ _ h) h
  | _, _, .dT h => .dT (hs _ _ h) h
theorem DaAll.dx {S : Addr → Prop} {H : Hp} (hs : ∀ a o, H a = some o → S a) : ∀ {vs : List V} {ds : List PyData}, DaAll H vs ds → DxAll S H vs ds
  | _, _, .nil => .nil
  | _, _, .cons h t => .cons (Da.dx hs h) (DaAll.dx hs t)
end
theorem DxAll.p {S : Addr → Prop} {H : Hp} : ∀ {vs : List V} {ds : List PyData}, DxAll S H vs ds → Paired (Dx S H) vs ds
  | _, _, .nil => .nil
  | _, _, .cons h t => .cons h t.p
theorem DxAll.of {S : Addr → Prop} {H : Hp} : ∀ {vs : List V} {ds : List PyData}, Paired (Dx S H) vs ds → DxAll S H vs ds
  | _, _, .nil => .nil
  | _, _, .cons h t => .cons h (DxAll.of t)
theorem Dx.ex {S : Addr → Prop} {H H' : Hp} {v : V} {d : PyData} (h : Dx S H v d) (e : Ex H H') : Dx S H' v d := h.mv fun a o s ha => ⟨s, e a o ha⟩
theorem DxAll.ex {S : Addr → Prop} {H H' : Hp} {v : List V} {d : List PyData} (h : DxAll S H v d) (e : Ex H H') : DxAll S H' v d := h.mv fun a o s ha => ⟨s, e a o ha⟩
theorem Dx.wk {S S' : Addr → Prop} {H : Hp} {v : V} {d : PyData} (h : Dx S H v d) (e : ∀ a, S a → S' a) : Dx S' H v d := h.mv fun a o s ha => ⟨e a s, ha⟩
theorem DxAll.wk {S S' : Addr → Prop} {H : Hp} {v : List V} {d : List PyData} (h : DxAll S H v d) (e : ∀ a, S a → S' a) : DxAll S' H v d := h.mv fun a o s ha => ⟨e a s, ha⟩
theorem Dx.lst' {S : Addr → Prop} {H : Hp} {x : V} {ds : List PyData} (h : Dx S H x (.list ds)) : ∃ a xs, x = .ref a ∧ S a ∧ H a = some (.lst xs) ∧ DxAll S H xs ds := by
  cases h with
  | lst s h t => exact ⟨_, _, rfl, s, h, t⟩
theorem Dx.tup' {S : Addr → Prop} {H : Hp} {x : V} {ds : List PyData} (h : Dx S H x (.tuple ds)) : ∃ a xs, x = .ref a ∧ S a ∧ H a = some (.tup xs) ∧ DxAll S H xs ds := by
  cases h with
  | tup s h t => exact ⟨_, _, rfl, s, h, t⟩
theorem Dx.seq {S : Addr → Prop} {H : Hp} {x : V} {d : PyData} {ds : List PyData} (h : Dx S H x d) (e : seqD d = some ds) : ∃ a xs, x = .ref a ∧ S a ∧ Seq H a xs ∧ DxAll S H xs ds := by
  cases h with
  | lst s h t => cases e; exact ⟨_, _, rfl, s, .inl h, t⟩
  | tup s h t => cases e; exact ⟨_, _, rfl, s, .inr h, t⟩
  | _ => cases e
/-- old (of B) or new -/
def NB (B : Addr → Prop) (H1 : Hp) (a : Addr) : Prop := B a ∨ H1 a = none
theorem NB.up {B : Addr → Prop} {H1 H2 : Hp} (e : Ex H1 H2) : ∀ a, NB B H2 a → NB B H1 a := fun a h => h.imp id fun z => fresh_back e z
def EvN (B : Addr → Prop) (te : TE) (σ : L2.St) (H : Hp) (d : PyData) : Prop := ∀ H1, Ex H H1 → ∀ Q : VK, (∀ v H2, Ex H1 H2 → Dx (NB B H1) H2 v d → Q v H2) → te σ H1 Q
def EvNs (B : Addr → Prop) (ta : TA) (σ : L2.St) (H : Hp) (ds : List PyData) : Prop := ∀ H1, Ex H H1 → ∀ Q : List V → Hp → Prop, (∀ vs H2, Ex H1 H2 → DxAll (NB B H1) H2 vs ds → Q vs H2) → ta σ H1 Q
section
variable {K : PySem.W.Frag} {σ : L2.St} {H H' : Hp} {ta tb te tl : TE} {t : TA} {tt : TT} {x y v : V} {d e : PyData} {B : Addr → Prop} {D : Ends} {tz : TS}
theorem EvN.ex (h : EvN B te σ H d) (e : Ex H H') : EvN B te σ H' d := fun H1 e1 Q q => h H1 (e.trans e1) Q q
theorem en_ev (h : Ev te σ H v) (hd : Dx B H v d) : EvN B te σ H d := fun H1 e Q q => h H1 e Q fun H2 e2 => q v H2 e2 ((hd.ex (e.trans e2)).wk fun _ z => .inl z)
theorem en_var {i : Nat} (h : σ[i]? = some (some v)) (hd : Dx B H v d) : EvN B (tVar i) σ H d := en_ev (ev_var h) hd
theorem en_c (hd : Dx B H v d) : EvN B (tC v) σ H d := en_ev ev_c hd
theorem en_non : EvN B (tC .non) σ H .none := en_c .non
theorem en_int {i : Int} : EvN B (tC (.int i)) σ H (.int i) := en_c (.int i)
theorem en_bl {b : Bool} : EvN B (tC (.bl b)) σ H (.bool b) := en_c (.bl b)
theorem en_str {s : Str} : EvN B (tC (.str s)) σ H (.str s) := en_c (.str s)
theorem ens_nil : EvNs B tNil σ H [] := fun H1 _ Q q => q [] H1 (Ex.refl _) .nil
theorem ens_cons {ds : List PyData} (h : EvN B te σ H d) (hr : EvNs B t σ H ds) : EvNs B (tCons te t) σ H (d :: ds) := fun H1 e1 Q q =>
  h H1 e1 _ fun v H2 e2 hv => hr H2 (e1.trans e2) _ fun ws H3 e3 hw => q _ H3 (e2.trans e3) (.cons (hv.ex e3) (hw.wk (NB.up e2)))
theorem en_lst {ds : List PyData} (h : EvNs B t σ H ds) (hl : ds.length ≤ 100000) : EvN B (tLst t) σ H (.list ds) := fun H1 e1 Q q =>
  h H1 e1 _ fun vs H2 e2 hv => ⟨by rw [Paired.length hv.p]; exact sz_of hl, fun p hp => by
    have eN : Ex H2 (upd H2 p (.lst vs)) := Ex.new hp
    exact q _ _ (e2.trans eN) (.lst (.inr (fresh_back e2 hp)) upd_same (hv.ex eN))⟩
theorem en_tup {ds : List PyData} (h : EvNs B t σ H ds) (hl : ds.length ≤ 100000) : EvN B (tTup t) σ H (.tuple ds) := fun H1 e1 Q q =>
  h H1 e1 _ fun vs H2 e2 hv => ⟨by rw [Paired.length hv.p]; exact sz_of hl, fun p hp => by
    have eN : Ex H2 (upd H2 p (.tup vs)) := Ex.new hp
    exact q _ _ (e2.trans eN) (.tup (.inr (fresh_back e2 hp)) upd_same (hv.ex eN))⟩
theorem en_dict : EvN B tDNewT σ H (.dict []) := fun H1 e1 Q q p hp => q _ _ (Ex.new hp) (.dT (.inr hp) upd_same)
theorem DxAll.append {S : Addr → Prop} : ∀ {vs ws : List V} {ds es : List PyData}, DxAll S H vs ds → DxAll S H ws es → DxAll S H (vs ++ ws) (ds ++ es)
  | _, _, _, _, .nil, h => h
  | _, _, _, _, .cons h t, h2 => .cons h (t.append h2)
theorem en_cat {ds es : List PyData} (h1 : EvN B ta σ H (.list ds)) (h2 : EvN B tb σ H (.list es)) (hl : ds.length + es.length ≤ 100000) : EvN B (tOp rCat ta tb) σ H (.list (ds ++ es)) := fun H1 e1 Q q =>
  h1 H1 e1 _ fun v H2 e2 hv => h2 H2 (e1.trans e2) _ fun w H3 e3 hw => by
    obtain ⟨a, xs, rfl, _, ha, hxs⟩ := hv.lst'
    obtain ⟨b, ys, rfl, _, hb, hys⟩ := hw.lst'
    refine ⟨a, b, xs, ys, rfl, rfl, e3 _ _ ha, hb, by rw [Paired.length hxs.p, Paired.length hys.p]; exact sz_of hl, fun l hl => ?_⟩
    have eN : Ex H3 (upd H3 l (.lst (xs ++ ys))) := Ex.new hl
    exact q _ _ (e2.trans (e3.trans eN)) (.lst (.inr (fresh_back (e2.trans e3) hl)) upd_same ((hxs.ex (e3.trans eN)).append ((hys.ex eN).wk (NB.up e2))))
/-- list(x) -/
theorem en_list {ds : List PyData} (h : EvN B ta σ H d) (hd : seqD d = some ds) : EvN B (tCB (rListS K) (tCons ta tNil)) σ H (.list ds) := fun H1 e1 Q q =>
  h H1 e1 _ fun v H2 e2 hv => by
    obtain ⟨a, xs, rfl, _, ha, hxs⟩ := hv.seq hd
    refine ⟨a, xs, rfl, ha.sq, fun l hl => ?_⟩
    have eN : Ex H2 (upd H2 l (.lst xs)) := Ex.new hl
    exact q _ _ (e2.trans eN) (.lst (.inr (fresh_back e2 hl)) upd_same (hxs.ex eN))
theorem DxAll.cut {S : Addr → Prop} {vs : List V} {ds : List PyData} (h : DxAll S H vs ds) (n m : Nat) : DxAll S H ((vs.drop n).take m) ((ds.drop n).take m) := .of (Paired.take m (Paired.drop n h.p))
/-- x[lo:hi] of a list -/
theorem en_sl {tlo thi : TO} {ds es : List PyData} {lo hi : Option Int} (h : EvN B ta σ H (.list ds)) (h1 : EvO tlo σ H lo) (h2 : EvO thi σ H hi) (he : es = (ds.drop (HT.sIx ds.length 0 lo)).take (HT.sIx ds.length ds.length hi - HT.sIx ds.length 0 lo)) : EvN B (tSl (rSlL K) ta tlo thi) σ H (.list es) := fun H1 e1 Q q =>
  h H1 e1 _ fun v H2 e2 hv => h1 H2 (e1.trans e2) _ fun H3 e3 => h2 H3 ((e1.trans e2).trans e3) _ fun H4 e4 => by
    obtain ⟨a, xs, rfl, _, ha, hxs⟩ := hv.lst'
    have e34 := e3.trans e4
    refine ⟨a, xs, rfl, sq_of (e34 _ _ ha), fun l hl => ?_⟩
    have eN : Ex H4 (upd H4 l (.lst (cutV xs lo hi))) := Ex.new hl
    refine q _ _ (e2.trans (e34.trans eN)) (.lst (.inr (fresh_back (e2.trans e34) hl)) upd_same ?_)
    rw [he]
    have z := (hxs.ex (e34.trans eN)).cut (HT.sIx ds.length 0 lo) (HT.sIx ds.length ds.length hi - HT.sIx ds.length 0 lo)
    have ec : cutV xs lo hi = (xs.drop (HT.sIx ds.length 0 lo)).take (HT.sIx ds.length ds.length hi - HT.sIx ds.length 0 lo) := by
      unfold cutV
      rw [Paired.length hxs.p]
    rw [← ec] at z
    exact z
theorem paired_atI {α β : Type} {F : α → β → Prop} {xs : List α} {ys : List β} (p : Paired F xs ys) {i : Int} {y : β} (h : atI ys i = some y) : ∃ x, atI xs i = some x ∧ F x y := by
  unfold atI at h ⊢
  rw [Paired.length p]
  cases hj : ixN ys.length i with
  | none => rw [hj] at h; cases h
  | some j =>
    rw [hj] at h
    exact Paired.at_r p j y h
theorem en_ixL {ds : List PyData} {i : Int} (h : EvN B ta σ H (.list ds)) (hi : Ev tb σ H (.int i)) (he : atI ds i = some d) : EvN B (tOp (rIxL K) ta tb) σ H d := fun H1 e1 Q q =>
  h H1 e1 _ fun v H2 e2 hv => hi H2 (e1.trans e2) _ fun H3 e3 => by
    obtain ⟨a, xs, rfl, _, ha, hxs⟩ := hv.lst'
    obtain ⟨x, hx, hxd⟩ := paired_atI hxs.p he
    exact ⟨a, xs, i, x, rfl, rfl, sq_of (e3 _ _ ha), hx, q x H3 (e2.trans e3) (hxd.ex e3)⟩
theorem en_if {b : Bool} (h : EvT tt σ H b) (h1 : b = true → EvN B ta σ H d) (h2 : b = false → EvN B tb σ H d) : EvN B (tIf tt ta tb) σ H d := fun H1 e1 Q q => h H1 e1 _ fun H2 e2 => by
  cases b with
  | true => exact iteT (h1 rfl H2 (e1.trans e2) Q fun v H3 e3 hv => q v H3 (e2.trans e3) (hv.wk (NB.up e2)))
  | false => exact iteF (h2 rfl H2 (e1.trans e2) Q fun v H3 e3 hv => q v H3 (e2.trans e3) (hv.wk (NB.up e2)))
/-- [e for x in xs], xs in a list or a tuple that is known -/
theorem en_lcI {J : It} {G : Hp → Prop} {j : Nat} {vs : List Nat} {xs : List V} {ds es : List PyData} (hB : ∀ a, B a → H a ≠ none) (hxs : DxAll B H xs ds) (hl : es.length = ds.length) (hz : ds.length ≤ 1000) (w : Walk J xs.length G (fun i H x H' => H' = H ∧ xs[i]? = some x)) (hw : ∀ x, wipe ((wipe σ vs).set j (some x)) vs = wipe σ vs)
    (he : ∀ (i : Nat) (x : V) (d e : PyData), ds[i]? = some d → es[i]? = some e → Dx B H x d → EvN B te ((wipe σ vs).set j (some x)) H e) {H0 H1 : Hp} (e0 : Ex H H0) (e1 : Ex H0 H1) {Dl : Addr} (hD : H1 Dl = none) (hG : ∀ H', Ex H1 H' → G H') {Q : VK} (q : ∀ v H2, Ex H0 H2 → Dx (NB B H0) H2 v (.list es) → Q v H2) :
    ∃ W : Nat → Nat → Hp → Prop, (∃ m, W 0 m (upd H1 Dl (.lst []))) ∧ ∀ i m H, W i m H →
      (J.stop i H ∧ Q (.ref Dl) H) ∨ (J.go i H ∧ ∃ Nx : Hp → Prop, (∀ H', Nx H' → ∃ m', m' < m ∧ W (i + 1) m' H') ∧ ∀ x H', J.yld i H x H' → gName j x (wipe σ vs) H' fun σ2 H2 => wipe σ2 vs = wipe σ vs ∧ tYes σ2 H2 fun b H3 =>
        if b = true then te σ2 H3 fun y H4 => ∃ acc, H4 Dl = some (.lst acc) ∧ acc.length < sizeLine ∧ Nx (upd H4 Dl (.lst (acc ++ [y]))) else Nx H3) := by
  have lx : xs.length = ds.length := Paired.length hxs.p
  have e01 := e0.trans e1
  have nB : ∀ a, B a → a ≠ Dl := fun a hb z => hB a hb (fresh_back e01 (by rw [z]; exact hD))
  refine lc_it w (fun i H' => Ex H1 H' ∧ ∃ ys, H' Dl = some (.lst ys) ∧ DxAll (fun a => a ≠ Dl ∧ NB B H0 a) H' ys (es.take i)) ⟨Ex.new hD, [], upd_same, .nil⟩ (fun i H' _ p => hG H' p.1) ?_ fun H' ⟨e, ys, h1, h2⟩ => ?_
  · rintro i x H' H'' hi ⟨e, ys, h1, h2⟩ ⟨rfl, hm⟩
    refine ⟨hw _, ?_⟩
    show te _ _ _
    obtain ⟨d, hd, hxd⟩ := Paired.at_l hxs.p i x hm
    have hil : i < es.length := by rw [hl, ← lx]; exact hi
    have hei := List.getElem?_eq_getElem hil
    refine he i x d _ hd hei hxd H'' (e01.trans e) _ fun y H4 e4 hy => ?_
    have k1 : H4 Dl = some (.lst ys) := e4 _ _ h1
    have stay : ∀ {o}, ∀ a o', (a ≠ Dl ∧ NB B H0 a) → H4 a = some o' → (a ≠ Dl ∧ NB B H0 a) ∧ upd H4 Dl o a = some o' := fun a o' s h => ⟨s, by rw [upd_ne s.1]; exact h⟩
    have ly : ys.length ≤ 1000 := by
      rw [Paired.length h2.p, List.length_take]
      omega
    refine ⟨ys, k1, Nat.lt_of_le_of_lt ly (show 1000 < sizeLine by decide), Ex.mut (e.trans e4) hD, _, upd_same, ?_⟩
    rw [take_next hei]
    refine DxAll.append ((h2.ex e4).mv stay) (.cons ((hy.wk fun a h => ?_).mv stay) .nil)
    rcases h with h | h
    · exact ⟨nB a h, .inl h⟩
    · exact ⟨fun z => (by rw [z, h1] at h; cases h), .inr (fresh_back (e1.trans e) h)⟩
  · rw [lx, ← hl, List.take_length] at h2
    exact q _ H' (e1.trans e) (.lst (.inr (fresh_back e1 hD)) h1 (h2.wk fun a h => h.2))
theorem en_lcL {j : Nat} {vs : List Nat} {a : Addr} {xs : List V} {ds es : List PyData} (hB : ∀ a, B a → H a ≠ none) (h : Ev tl σ H (.ref a)) (ha : H a = some (.lst xs)) (hxs : DxAll B H xs ds) (hl : es.length = ds.length) (hz : ds.length ≤ 1000) (hw : ∀ x, wipe ((wipe σ vs).set j (some x)) vs = wipe σ vs)
    (he : ∀ (i : Nat) (x : V) (d e : PyData), ds[i]? = some d → es[i]? = some e → Dx B H x d → EvN B te ((wipe σ vs).set j (some x)) H e) : EvN B (tLc (iList K tl) (gName j) tYes te vs) σ H (.list es) := fun H0 e0 Q q =>
  h H0 e0 _ fun H1 e1 => ⟨a, rfl, ⟨xs, sq_of ((e0.trans e1) _ _ ha)⟩, fun Dl hD => en_lcI hB hxs hl hz (walk_list (K := K) (a := a) (xs := xs)) hw he e0 e1 hD (fun H' e => sq_of ((e0.trans (e1.trans e)) _ _ ha)) q⟩
/-- a statement: name = data -/
theorem q_asgN {i : Nat} (h : EvN B te σ H d) (k : ∀ v H1, Ex H H1 → Dx (NB B H) H1 v d → tz D (σ.set i (some v)) H1) : tSeq (tAsg te (gName i)) tz D σ H := h H (Ex.refl H) _ k
theorem EvN.ep (h : EvN B te σ H d) : EvP te σ H (fun v H2 => Da H2 v d) := fun H1 e1 Q q => h H1 e1 Q fun v H2 e2 hv => q v H2 e2 hv.da
/-- l.append(e) -/
theorem q_appN {l : Addr} {xs : List V} (hl : H l = some (.lst xs)) (ha : Ev ta σ H (.ref l)) (h : EvN B te σ H d) (hz : xs.length < 100000) (k : ∀ v H1, Ex H H1 → Dx (NB B H) H1 v d → tz D σ (upd H1 l (.lst (xs ++ [v])))) : tSeq (tDrop (tBM K "list" rAppend ta (tCons te tNil))) tz D σ H :=
  ha H (Ex.refl H) _ fun H1 e1 => ⟨.inl ⟨rfl, xs, sq_of (e1 _ _ hl)⟩, h H1 e1 _ fun v H2 e2 hv => ⟨l, xs, v, rfl, rfl, (e1.trans e2) _ _ hl, sz_lt hz, k v H2 (e1.trans e2) (hv.wk (NB.up e1))⟩⟩
end
end Mv
/-! _law_turned, _law_things, _law_bent. -/
namespace Mv
open PySem PySem.Spec PyProof.Rows L2 Evl
def turnV (i : Int) : V := if i < 2 then .bl (i != 0) else .int i
def turnD (i : Int) : PyData := if i < 2 then .bool (i != 0) else .int i
theorem da_turn {S : Addr → Prop} {H : Hp} : ∀ r : Row, DxAll S H (r.map turnV) (r.map turnD)
  | [] => .nil
  | i :: r => by
    refine .cons ?_ (da_turn r)
    unfold turnV turnD
    split
    · exact .bl _
    · exact .int _
def trow (r : Row) : PyData := .tuple (r.map turnD)
theorem turn_lay : ∀ r : Row, PyData.canLayAll0 (r.map turnD) = true ∧ PyData.depthAll (r.map turnD) ≤ 1 ∧ nod.nodAll (r.map turnD) = true
  | [] => ⟨rfl, by simp [PyData.depthAll], rfl⟩
  | i :: r => by
    obtain ⟨h1, h2, h3⟩ := turn_lay r
    rw [List.map_cons]
    have : turnD i = .bool (i != 0) ∨ turnD i = .int i := by unfold turnD; split <;> simp
    rcases this with z | z
    · rw [z]
      refine ⟨by rw [PyData.canLayAll0, h1] <;> rfl, ?_, by rw [nod.nodAll, h3] <;> rfl⟩
      simp only [PyData.depthAll, PyData.depth]
      omega
    · rw [z]
      refine ⟨by rw [PyData.canLayAll0, h1] <;> rfl, ?_, by rw [nod.nodAll, h3] <;> rfl⟩
      simp only [PyData.depthAll, PyData.depth]
      omega
theorem trow_smp (r : Row) (h : r.length ≤ 1000) : Smp (trow r) := by
  obtain ⟨h1, h2, h3⟩ := turn_lay r
  refine ⟨by unfold trow; rw [nod]; exact h3, ?_, fun es e => by cases e; rw [List.length_map]; exact h⟩
  unfold SeqAt.shaped trow
  have e : (PyData.tuple (r.map turnD)).canLay0 = true := by rw [PyData.canLay0, h1]
  have e2 : (PyData.tuple (r.map turnD)).depth ≤ 64 := by
    simp only [PyData.depth]
    omega
  rw [e, decide_eq_true e2] <;> rfl
theorem eu_tupOfN {K : PySem.W.Frag} {σ : L2.St} {H : Hp} {te : TE} {xs : List V} (h : EvL te σ H xs) : EvU (tCB (rTupOf K) (tCons te tNil)) σ H xs := fun H1 e Q q =>
  h H1 e _ fun l H2 nl e2 hl => ⟨l, xs, rfl, .inl ⟨sq_of hl, fun t nt => q t _ (fresh_back e2 nt) (e2.trans (Ex.new nt)) upd_same⟩⟩
/-- zs: the things, in any sequence, some left out, at most one more -/
def Bent (xs : List V) (odd : V) (zs : List V) : Prop := ∃ v ws, (v ∈ xs ∨ v = odd) ∧ zs.Perm ws ∧ ws.Sublist (v :: xs)
section
variable {P : Program} {w : World} {K : PySem.W.Frag} {mg : Str → Option Value} {base : Heap} {a : Nat → Addr} {d : Nat → FuncData} {tk : Nat → Tok}
def sp__law_turned : Sp := fun vs H Q _ => ∃ (x : V) (r : Row), vs = [x] ∧ IsRow H x r ∧ r.length ≤ 1000 ∧ ∀ p H2, H p = none → Ex H H2 → H2 p = some (.tup (r.map turnV)) → Q (.ref p) H2
theorem ok__law_turned (T : All K mg a d tk) : FnOk P w K mg base CX0 1 (a 32) (d 32) ["row"] sp__law_turned := by
  refine T.F__law_turned.fn.ok sc__law_turned (fun vs H Q E h => ?_) (fun cdv A outer s H vs Q E hr h => ?_)
  · obtain ⟨x, r, rfl, _⟩ := h
    rfl
  · obtain ⟨x, r, rfl, ⟨b, rfl, hb⟩, hl, k⟩ := h
    have nd := sc__law_turned.nd
    refine ⟨_, (pss_one (ps_ret (pe_callTy call_tuple_of rfl T.n_tuple PyProof.Rows.boot_tuple (pa_cons (pe_lc (own := [("each", 1)]) (g := (gName 1)) rfl nd (pi_tup (pv 0)) (blkOk_by (N := N__law_turned) (sc := defScope s__law_turned) (by decide +kernel)) (fun _ _ _ _ _ => (pg_name (i := 1) nd rfl (Or.inl rfl))) (fun _ _ _ _ _ => pts_nil) (fun _ _ _ _ _ => (pe_ifExp (pt_cmpR op_lt (pv 1) pe_int (nomark _)) (pe_callTy call_bool1 rfl T.n_bool PyProof.Rows.boot_bool (pa_cons (pv 1) pa_nil)) (pv 1)))) pa_nil)))), ?_⟩
    have c1 := el_lcTm (K := K) (σ := [some (V.ref b), none]) (H := H) (tl := tVar 0) (j := 1) (vs := [1]) (te := tIf (tTest (tOp (rI0 fun i j => .bl (decide (i < j))) (tVar 1) (tC (.int 2)))) (tCB (fun xs H Q => (∃ i, xs = [.int i] ∧ Q (.bl (i != 0)) H) ∨ ∃ k, xs = [.bl k] ∧ Q (.bl k) H) (tCons (tVar 1) tNil)) (tVar 1)) (fun v => match v with | .int i => turnV i | v => v) (ev_var rfl) hb (by rw [List.length_map]; omega) (fun _ => rfl) fun x H1 e1 hx => by
      obtain ⟨i, _, rfl⟩ := List.mem_map.mp hx
      refine ev_if (b := decide (i < 2)) (et_I0 (ev_var rfl) ev_c) (fun h => ?_) fun h => ?_
      · have : turnV i = .bl (i != 0) := by unfold turnV; rw [if_pos (of_decide_eq_true h)]
        show Ev _ _ _ (turnV i)
        rw [this]
        exact fun H2 e2 Q q => ⟨.int i, rfl, .inl ⟨i, rfl, q H2 (Ex.refl _)⟩⟩
      · have : turnV i = .int i := by unfold turnV; rw [if_neg (of_decide_eq_false h)]
        show Ev _ _ _ (turnV i)
        rw [this]
        exact ev_var rfl
    have em : (r.map V.int).map (fun v => match v with | .int i => turnV i | v => v) = r.map turnV := by rw [List.map_map] <;> rfl
    rw [em] at c1
    exact s_retU (eu_tupOfN (K := K) c1) k
theorem en_turned {B : Addr → Prop} {σ : L2.St} {H : Hp} {te : TE} {x : V} {r : Row} {E : XK} (h : Ev te σ H x) (hx : IsRow H x r) (hl : r.length ≤ 1000) : EvN B (tCall sp__law_turned [] E (tCons te tNil)) σ H (trow r) := fun H1 e1 Q q =>
  h H1 e1 _ fun H2 e2 => ⟨x, r, rfl, hx.ex (e1.trans e2), hl, fun p H3 np e3 h3 => q _ H3 (e2.trans e3) (.tup (.inr (fresh_back e2 np)) h3 (da_turn r))⟩
/-! _law_things -/
def thingsD (r : Row) : List PyData := [.none, .int 0, .str "rows", .dict [], .list [.none], .list [rd r], .tuple [rd r], .list [.list []], .dict [], .bool true]
def sp__law_things : Sp := fun vs H Q _ => ∃ (x : V) (r : Row), vs = [x] ∧ IsRow H x r ∧ ∀ v H2, Ex H H2 → Da H2 v (.list (thingsD r)) → Q v H2
theorem ok__law_things (T : All K mg a d tk) : FnOk P w K mg base CX0 1 (a 35) (d 35) ["rows"] sp__law_things := by
  refine T.F__law_things.fn.ok sc__law_things (fun vs H Q E h => ?_) (fun cdv A outer s H vs Q E hr h => ?_)
  · obtain ⟨x, r, rfl, _⟩ := h
    rfl
  · obtain ⟨x, r, rfl, hx, k⟩ := h
    have nd := sc__law_things.nd
    refine ⟨_, (pss_one (ps_ret (pe_lst (pa_cons pe_non (pa_cons pe_int (pa_cons pe_str (pa_cons pe_dnewT (pa_cons (pe_lst (pa_cons pe_non pa_nil)) (pa_cons (pe_lst (pa_cons (pv 0) pa_nil)) (pa_cons (pe_tup (pa_cons (pv 0) pa_nil)) (pa_cons (pe_lst (pa_cons (pe_lst pa_nil) pa_nil)) (pa_cons (pe_disp (pps_cons pe_str (pv 0) pps_nil) rfl rfl (by simp) (by decide)) (pa_cons pe_bl pa_nil))))))))))))), ?_⟩
    have hd : Dx (fun _ => True) H x (rd r) := Da.dx (fun _ _ _ => True.intro) hx.da
    have v0 : EvN (fun _ => True) (tVar 0) [some x] H (rd r) := en_var rfl hd
    have dsp : EvN (fun _ => True) (tDisp [(tC (.str "a"), tVar 0)]) [some x] H (.dict []) := fun H1 e1 Q q p np => by
      exact ⟨x, rfl, upd_same, [(.inr "a", x)], rfl, (show 1 ≤ 15 by decide), q _ _ (Ex.mut (Ex.new np) np) (.dK (.inl True.intro) upd_same)⟩
    refine (en_lst (ens_cons en_non (ens_cons en_int (ens_cons en_str (ens_cons en_dict (ens_cons (en_lst (ens_cons en_non ens_nil) (by decide)) (ens_cons (en_lst (ens_cons v0 ens_nil) (show 1 ≤ 100000 by decide)) (ens_cons (en_tup (ens_cons v0 ens_nil) (show 1 ≤ 100000 by decide)) (ens_cons (en_lst (ens_cons (en_lst ens_nil (by decide)) ens_nil) (by decide)) (ens_cons dsp (ens_cons en_bl ens_nil)))))))))) (show 10 ≤ 100000 by decide)) H (Ex.refl _) _ fun v H2 e2 hv => k v H2 e2 hv.da
end
end Mv
/-! _law_bent. -/
namespace Mv
open PySem PySem.Spec PyProof.Rows L2 Evl
section
variable {K : PySem.W.Frag} {σ : L2.St} {H : Hp} {ta tb te tm : TE} {v : V}
/-- a draw -/
theorem take_go {p : Addr} {m : Int} {n i : Nat} {E : XK} (hb : σ[i]? = some (some (.ref p))) (hm : Ev tm σ H (.int m)) (h1 : 1 ≤ m) (h2 : m ≤ 100000) (hB : BoxAt H p n) (hn : n ≤ 100000) {Q : VK} (q : ∀ (i : Int) (H2 : Hp), 0 ≤ i → i < m → ExB p H H2 → BoxAt H2 p (n + 1) → Q (.int i) H2) :
    tCall sp__law_take [] E (tCons (tVar i) (tCons tm tNil)) σ H Q :=
  ⟨.ref p, hb, hm H (Ex.refl H) _ fun H1 e1 => ⟨p, m, n, rfl, h1, h2, hB.ex e1, hn, fun i H2 a b c d => q i H2 a b ((Ex.b e1).trans c) d⟩⟩
theorem el_revG {xs : List V} (ha : EvG ta σ H xs) : EvL (tRevL K ta) σ H xs.reverse := fun H1 e Q q =>
  ha H1 e _ fun p1 H2 e2 h1 => ⟨p1, xs, rfl, sq_of h1, fun p hp => q p _ (fresh_back e2 hp) (e2.trans (Ex.new hp)) upd_same⟩
end
theorem bent_all (xs : List V) (odd : V) (h : xs ≠ []) : Bent xs odd xs := by
  cases xs with
  | nil => exact absurd rfl h
  | cons x xs => exact ⟨x, x :: xs, .inl List.mem_cons_self, .refl _, List.sublist_cons_self x _⟩
theorem bent_self (xs : List V) (odd : V) : Bent xs odd xs := ⟨odd, xs, .inr rfl, .refl _, List.sublist_cons_self odd _⟩
theorem bent_perm {xs : List V} {odd : V} {zs : List V} (h : zs.Perm xs) : Bent xs odd zs := ⟨odd, xs, .inr rfl, h, List.sublist_cons_self odd _⟩
theorem bent_more {xs : List V} {odd v : V} {zs : List V} (h : v ∈ xs ∨ v = odd) (hp : zs.Perm (v :: xs)) : Bent xs odd zs := ⟨v, v :: xs, h, hp, List.Sublist.refl _⟩
theorem drop_sub (xs : List V) (n : Nat) : (xs.drop (n + 1)).Sublist (xs.drop n) := by
  rw [← List.drop_drop]
  exact List.drop_sublist 1 _
theorem cut_sub (xs : List V) (n : Nat) : (xs.take n ++ xs.drop (n + 1)).Sublist xs := by
  have z := (List.Sublist.refl (xs.take n)).append (drop_sub xs n)
  rwa [List.take_append_drop] at z
theorem bent_cut {xs : List V} {odd : V} (n : Nat) : Bent xs odd (xs.take n ++ xs.drop (n + 1)) := ⟨odd, _, .inr rfl, .refl _, (cut_sub xs n).trans (List.sublist_cons_self odd _)⟩
theorem bent_put {xs : List V} {odd : V} (n : Nat) : Bent xs odd (xs.take n ++ [odd] ++ xs.drop (n + 1)) := by
  refine ⟨odd, odd :: (xs.take n ++ xs.drop (n + 1)), .inr rfl, ?_, (cut_sub xs n).cons_cons odd⟩
  rw [List.append_assoc]
  exact List.perm_middle
section
variable {P : Program} {w : World} {K : PySem.W.Frag} {mg : Str → Option Value} {base : Heap} {a : Nat → Addr} {d : Nat → FuncData} {tk : Nat → Tok}
def sp__law_bent : Sp := fun vs H Q _ => ∃ (p x : Addr) (odd : V) (xs : List V) (n : Nat), vs = [.ref p, .ref x, odd] ∧ H x = some (.lst xs) ∧ x ≠ p ∧ xs.length ≤ 100 ∧ BoxAt H p n ∧ n ≤ 90000 ∧
  ∀ q zs H2, H q = none → H2 q = some (.lst zs) → Bent xs odd zs → ExB p H H2 → BoxAt H2 p (n + 10) → Q (.ref q) H2
theorem ok__law_bent (T : All K mg a d tk) : FnOk P w K mg base CX0 2 (a 30) (d 30) ["box", "things", "odd"] sp__law_bent := by
  refine T.F__law_bent.fn.ok sc__law_bent (fun vs H Q E h => ?_) (fun cdv A outer s H vs Q E hr h => ?_)
  · obtain ⟨p, x, odd, xs, n, rfl, _⟩ := h
    rfl
  · obtain ⟨p, x, odd, xs, n, rfl, hx, nxp, h60, hB, hn, k⟩ := h
    have nd := sc__law_bent.nd
    refine ⟨_, (pss_cons (ps_par (i := 3) (j := 4) rfl nd rfl rfl (by decide) rfl rfl (pa_cons (pe_callTy call_list_of rfl T.n_list PyProof.Rows.boot_list (pa_cons (pv 1) pa_nil)) (pa_cons (pe_callB call_len_seq (by rfl) T.n_len PySem.boot_len (pa_cons (pv 1) pa_nil)) pa_nil)) (by rfl))
 (pss_cons (ps_par (i := 5) (j := 6) rfl nd rfl rfl (by decide) rfl rfl (pa_cons (pe_call (ok__law_take T) (hr.mono (by decide)) rfl T.F__law_take.m T.F__law_take.kp T.F__law_take.b .nil pass0 (pa_cons (pv 0) (pa_cons pe_int pa_nil))) (pa_cons (pe_call (ok__law_take T) (hr.mono (by decide)) rfl T.F__law_take.m T.F__law_take.kp T.F__law_take.b .nil pass0 (pa_cons (pv 0) (pa_cons (pe_callB (call_max2 rfl) (by rfl) T.n_max PyProof.Rows.boot_max (pa_cons pe_int (pa_cons (pv 4) pa_nil))) pa_nil))) pa_nil)) (by rfl))
 (pss_cons (ps_if (PW.pt (pw_or (pt_cmpR op_eq (pv 5) pe_int (nomark _)) (pw_or1 (pt_cmpR op_eq (pv 4) pe_int (nomark _)))))
 (pss_one (ps_ret (pe_ifExp (pt_cmpR op_eq (pe_call (ok__law_take T) (hr.mono (by decide)) rfl T.F__law_take.m T.F__law_take.kp T.F__law_take.b .nil pass0 (pa_cons (pv 0) (pa_cons pe_int pa_nil))) pe_int (nomark _)) (pe_op op_cat (pv 3) (pe_lst (pa_cons (pv 2) pa_nil))) (pv 3))))
 pss_nil)
 (pss_cons (ps_if (pt_cmpR op_eq (pv 5) pe_int (nomark _))
 (pss_one (ps_ret (pe_op op_cat (pe_slice sl_list (pv 3) po_none (po_some (pv 6))) (pe_slice sl_list (pv 3) (po_some (pe_op op_add (pv 6) pe_int)) po_none))))
 pss_nil)
 (pss_cons (ps_if (pt_cmpR op_eq (pv 5) pe_int (nomark _))
 (pss_one (ps_ret (pe_op op_cat (pe_op op_cat (pe_slice sl_list (pv 3) po_none (po_some (pv 6))) (pe_lst (pa_cons (pe_ix ix_list (pv 3) (pv 6) (fun _ _ => rfl)) pa_nil))) (pe_slice sl_list (pv 3) (po_some (pv 6)) po_none))))
 pss_nil)
 (pss_cons (ps_if (pt_cmpR op_eq (pv 5) pe_int (nomark _))
 (pss_cons (ps_set (i := 7) nd rfl (Or.inl rfl) (pe_call (ok__law_take T) (hr.mono (by decide)) rfl T.F__law_take.m T.F__law_take.kp T.F__law_take.b .nil pass0 (pa_cons (pv 0) (pa_cons (pv 4) pa_nil))))
 (pss_cons (ps_asg (pe_tup (pa_cons (pe_ix ix_list (pv 3) (pv 7) (fun _ _ => rfl)) (pa_cons (pe_ix ix_list (pv 3) (pv 6) (fun _ _ => rfl)) pa_nil))) (pg_tup rfl (pgs_cons (pg_sub (pv 3) (pv 6) set_list) (pgs_cons (pg_sub (pv 3) (pv 7) set_list) pgs_nil))) (hw := by rfl))
 (pss_one (ps_ret (pv 3)))))
 pss_nil)
 (pss_one (ps_ret (pe_ifExp (pt_cmpR op_eq (pv 5) pe_int (nomark _)) (pe_revL (pv 3)) (pe_op op_cat (pe_op op_cat (pe_slice sl_list (pv 3) po_none (po_some (pv 6))) (pe_lst (pa_cons (pv 2) pa_nil))) (pe_slice sl_list (pv 3) (po_some (pe_op op_add (pv 6) pe_int)) po_none))))))))))), ?_⟩
    refine ⟨.ref x, rfl, x, xs, rfl, .inl (sq_of hx), fun l nl => ⟨.ref x, rfl, x, xs, rfl, .inl (sq_of ((Ex.new nl) _ _ hx)), _, _, rfl, ?_⟩⟩
    have eN : Ex H (upd H l (.lst xs)) := Ex.new nl
    have hBl : p ≠ l := hB.ne nl
    have hl0 : upd H l (.lst xs) l = some (.lst xs) := upd_same
    have hB0 := hB.ex eN
    generalize upd H l (.lst xs) = H0 at *
    refine take_go (i := 0) rfl ev_c (by decide) (by decide) hB0 (by omega) fun way H1 w0 w1 e1 hB1 => ?_
    have hl1 : H1 l = some (.lst xs) := e1 _ _ (Ne.symm hBl) hl0
    have lm : (1 : Int) ≤ (if (xs.length : Int) > 1 then (xs.length : Int) else 1) ∧ (if (xs.length : Int) > 1 then (xs.length : Int) else 1) ≤ 100000 := by split <;> omega
    refine take_go (i := 0) (σ := [some (.ref p), some (.ref x), some odd, some (.ref l), some (.int (xs.length : Int)), none, none, none]) rfl (ev_max2 (i := 1) (j := (xs.length : Int)) ev_c (ev_var rfl)) lm.1 lm.2 hB1 (by omega) fun at_ H2 a0 a1 e2 hB2 => ⟨_, _, rfl, ?_⟩
    have eB2 : ExB p H H2 := ((Ex.b eN).trans e1).trans e2
    have hl2 : H2 l = some (.lst xs) := e2 _ _ (Ne.symm hBl) hl1
    have out : ∀ {zs : List V} {q : Addr} {H3 : Hp}, H2 q = none → Ex H2 H3 → H3 q = some (.lst zs) → Bent xs odd zs → Q (.ref q) H3 := fun nq e3 hq hb =>
      k _ _ _ (eB2.back (fun z => hB2.some (z ▸ nq)) nq) hq hb (eB2.trans (Ex.b e3)) ((hB2.ex e3).mono (by omega))
    have fG : ∀ {H3 : Hp} {v7 : Option V}, Ex H2 H3 → EvG (tVar 3) [some (.ref p), some (.ref x), some odd, some (.ref l), some (.int (xs.length : Int)), some (.int way), some (.int at_), v7] H3 xs := fun e3 => Ev.g (ev_var rfl) (e3 _ _ hl2)
    refine q_when (et_or (et_test (ev_op (ev_var rfl) ev_c (rv_eq rfl))) fun _ => et_test (ev_op (ev_var rfl) ev_c (rv_eq rfl))) (fun _ H3 e3 => ?_) fun hb H3 e3 => ?_
    · -- return found + [odd] if take(box, 2) == 0 else found
      have hB3 := hB2.ex e3
      show tIf _ _ _ _ _ _
      refine take_go (i := 0) rfl ev_c (by decide) (by decide) hB3 (by omega) fun i H4 i0 i1 e4 hB4 => ⟨rfl, _, rfl, ?_⟩
      have hl4 : H4 l = some (.lst xs) := e4 _ _ (Ne.symm hBl) (e3 _ _ hl2)
      have eB4 : ExB p H H4 := (eB2.trans (Ex.b e3)).trans e4
      cases hi : decide (V.int i = V.int 0) with
      | true =>
        refine iteT (el_catG (σ := [some (.ref p), some (.ref x), some odd, some (.ref l), some (.int (xs.length : Int)), some (.int way), some (.int at_), none]) (Ev.g (ev_var rfl) hl4) (EvL.g (el_lst (ea_cons (ev_var (i := 2) rfl) ea_nil) (show 1 ≤ 100000 by decide))) (by show xs.length + 1 ≤ 100000; omega) H4 (Ex.refl _) _ fun q H5 nq e5 hq => ?_)
        exact k _ _ _ (eB4.back (fun z => hB4.some (z ▸ nq)) nq) hq (bent_more (.inr rfl) (List.perm_append_comm (l₁ := xs) (l₂ := [odd]))) (eB4.trans (Ex.b e5)) ((hB4.ex e5).mono (by omega))
      | false => exact iteF ⟨_, rfl, k _ _ _ nl hl4 (bent_self xs odd) eB4 (hB4.mono (by omega))⟩
    obtain ⟨hb1, hb2⟩ := Bool.or_eq_false_iff.mp hb
    have hne : xs.length ≠ 0 := fun z => by
      rw [z] at hb2
      exact absurd hb2 (by decide)
    obtain ⟨atn, rfl, hat⟩ : ∃ atn : Nat, at_ = (atn : Int) ∧ atn < xs.length := ⟨at_.toNat, by omega, by split at a1 <;> omega⟩
    have slT : ∀ {H5 : Hp} {v7 : Option V}, Ex H2 H5 → EvL (tSl (rSlL K) (tVar 3) tNoPart (tPart (tVar 6))) [some (.ref p), some (.ref x), some odd, some (.ref l), some (.int (xs.length : Int)), some (.int way), some (.int (atn : Int)), v7] H5 (xs.take atn) := by
      intro H5 v7 e5
      have z := el_sl (K := K) (σ := [some (.ref p), some (.ref x), some odd, some (.ref l), some (.int (xs.length : Int)), some (.int way), some (.int (atn : Int)), v7]) (H := H5) (lo := none) (hi := some (atn : Int)) (te := tVar 3) (ev_var rfl) eo_none (eo_some (te := tVar 6) (ev_var rfl)) (sq_of (e5 _ _ hl2))
      rwa [cutV_to _ _ (by omega)] at z
    have slF : ∀ {H5 : Hp} {v7 : Option V}, Ex H2 H5 → EvL (tSl (rSlL K) (tVar 3) (tPart (tVar 6)) tNoPart) [some (.ref p), some (.ref x), some odd, some (.ref l), some (.int (xs.length : Int)), some (.int way), some (.int (atn : Int)), v7] H5 (xs.drop atn) := by
      intro H5 v7 e5
      have z := el_sl (K := K) (σ := [some (.ref p), some (.ref x), some odd, some (.ref l), some (.int (xs.length : Int)), some (.int way), some (.int (atn : Int)), v7]) (H := H5) (lo := some (atn : Int)) (hi := none) (te := tVar 3) (ev_var rfl) (eo_some (te := tVar 6) (ev_var rfl)) eo_none (sq_of (e5 _ _ hl2))
      rwa [cutV_from _ _ (by omega)] at z
    have slN : ∀ {H5 : Hp} {v7 : Option V}, Ex H2 H5 → EvL (tSl (rSlL K) (tVar 3) (tPart (tOp (rI0 fun i j => .int (i + j)) (tVar 6) (tC (.int 1)))) tNoPart) [some (.ref p), some (.ref x), some odd, some (.ref l), some (.int (xs.length : Int)), some (.int way), some (.int (atn : Int)), v7] H5 (xs.drop (atn + 1)) := by
      intro H5 v7 e5
      have z := el_sl (K := K) (σ := [some (.ref p), some (.ref x), some odd, some (.ref l), some (.int (xs.length : Int)), some (.int way), some (.int (atn : Int)), v7]) (H := H5) (lo := some ((atn + 1 : Nat) : Int)) (hi := none) (te := tVar 3) (ev_var rfl) (eo_some (te := tOp (rI0 fun i j => .int (i + j)) (tVar 6) (tC (.int 1))) (ev_is (ev_I0 (ev_var rfl) ev_c) (congrArg V.int (by omega)))) eo_none (sq_of (e5 _ _ hl2))
      rwa [cutV_from _ _ (by omega)] at z
    have l1 : (xs.take atn).length ≤ 100 := by rw [List.length_take]; omega
    have l2 : (xs.drop atn).length ≤ 100 := by rw [List.length_drop]; omega
    have l3 : (xs.drop (atn + 1)).length ≤ 100 := by rw [List.length_drop]; omega
    have lc1 : ∀ v : V, (xs.take atn ++ [v]).length ≤ 101 := fun v => by rw [List.length_append, List.length_singleton]; omega
    refine q_when (et_test (ev_op (ev_var rfl) ev_c (rv_eq rfl))) (fun _ H4 e4 => ?_) fun _ H4 e4 => ?_
    · exact s_retL (el_catG (EvL.g (slT (e3.trans e4))) (EvL.g (slN (e3.trans e4))) (by omega)) fun q H5 nq e5 hq => out (fresh_back (e3.trans e4) nq) ((e3.trans e4).trans e5) hq (bent_cut atn)
    have hxa := List.getElem?_eq_getElem hat
    refine q_when (et_test (ev_op (ev_var rfl) ev_c (rv_eq rfl))) (fun _ H5 e5 => ?_) fun _ H5 e5 => ?_
    · have e35 := e3.trans (e4.trans e5)
      refine s_retL (el_catG (EvL.g (el_catG (EvL.g (slT e35)) (EvL.g (el_lst (ea_cons (ev_ixL (i := (atn : Int)) (ev_var rfl) (ev_var rfl) (sq_of (e35 _ _ hl2)) (atI_nat hxa)) ea_nil) (show 1 ≤ 100000 by decide))) (by simp only [List.length_cons, List.length_nil]; omega))) (EvL.g (slF e35)) (by have := lc1 xs[atn]; omega)) fun q H6 nq e6 hq => out (fresh_back e35 nq) (e35.trans e6) hq (bent_more (v := xs[atn]) (.inl (List.getElem_mem hat)) ?_)
      rw [List.append_assoc]
      have z := List.perm_middle (a := xs[atn]) (l₁ := xs.take atn) (l₂ := xs.drop atn)
      rwa [List.take_append_drop] at z
    have e35 := e3.trans (e4.trans e5)
    refine q_when (et_test (ev_op (ev_var rfl) ev_c (rv_eq rfl))) (fun _ H6 e6 => ?_) fun _ H6 e6 => ?_
    · have e36 := e35.trans e6
      have hB6 := hB2.ex e36
      refine take_go (i := 0) rfl (ev_var rfl) (by omega) (by omega) hB6 (by omega) fun to H7 t0 t1 e7 hB7 => ?_
      obtain ⟨tn, rfl, htn⟩ : ∃ tn : Nat, to = (tn : Int) ∧ tn < xs.length := ⟨to.toNat, by omega, by omega⟩
      have hl7 : H7 l = some (.lst xs) := e7 _ _ (Ne.symm hBl) (e36 _ _ hl2)
      have eB7 : ExB p H H7 := (eB2.trans (Ex.b e36)).trans e7
      have hxt := List.getElem?_eq_getElem htn
      refine ⟨_, rfl, _, rfl, l, xs, (tn : Int), xs[tn], rfl, rfl, sq_of hl7, atI_nat hxt, _, rfl, _, rfl, l, xs, (atn : Int), xs[atn], rfl, rfl, sq_of hl7, atI_nat hxa, sz_of (show 2 ≤ 100000 by decide), fun t nt => ?_⟩
      have eT : Ex H7 (upd H7 t (.tup [xs[tn], xs[atn]])) := Ex.new nt
      have ntl : l ≠ t := fun z => by rw [← z, hl7] at nt; cases nt
      refine ⟨t, _, rfl, st_of upd_same, rfl, _, _, rfl, _, rfl, _, rfl, l, xs, (atn : Int), atn, rfl, rfl, eT _ _ hl7, ixN_nat hat, _, _, rfl, _, rfl, _, rfl, l, xs.set atn xs[tn], (tn : Int), tn, rfl, rfl, upd_same, ixN_nat (by rw [List.length_set]; exact htn), rfl, ?_⟩
      refine ⟨_, rfl, ?_⟩
      refine k l _ _ nl upd_same (bent_perm (List.set_set_perm hat htn)) ?_ ?_
      · exact ((eB7.trans (Ex.b eT)).mut nl).mut nl
      · exact (((hB7.ex eT).upd hBl).upd hBl).mono (by omega)
    · have e36 := e35.trans e6
      show tIf _ _ _ _ _ _
      refine (et_test (ev_op (ta := tVar 5) (tb := tC (.int 4)) (σ := [some (.ref p), some (.ref x), some odd, some (.ref l), some (.int (xs.length : Int)), some (.int way), some (.int (atn : Int)), none]) (H := H6) (ev_var rfl) ev_c (rv_eq rfl))) H6 (Ex.refl _) _ fun H7 e7 => ?_
      have e37 := e36.trans e7
      cases hi : decide (V.int way = V.int 4) with
      | true => exact iteT (el_revG (K := K) (fG e37) H7 (Ex.refl _) _ fun q H8 nq e8 hq => out (fresh_back e37 nq) (e37.trans e8) hq (bent_perm (List.reverse_perm xs)))
      | false => exact iteF (el_catG (EvL.g (el_catG (EvL.g (slT e37)) (EvL.g (el_lst (ea_cons (ev_var (i := 2) rfl) ea_nil) (show 1 ≤ 100000 by decide))) (by simp only [List.length_cons, List.length_nil]; omega))) (EvL.g (slN e37)) (by have := lc1 odd; omega) H7 (Ex.refl _) _ fun q H8 nq e8 hq => out (fresh_back e37 nq) (e37.trans e8) hq (bent_put atn))
end
end Mv
/-! _law_parts: as few falling lists as can be. -/
namespace Mv
open PySem PySem.Spec PyProof.Rows L2 Evl
def hd (L : List Row) : Row := L.headD []
/-- falling lists of the rows P, which stand behind all other rows of rs -/
structure Fall (rs qs P : List Row) (Ls : List (List Row)) : Prop where
  pm : Ls.flatten.Perm P
  ok : ∀ L ∈ Ls, L ≠ [] ∧ RisesC rs L ∧ RisesC qs L.reverse
  dn : Ls.Pairwise fun L M => qs.idxOf (hd M) < qs.idxOf (hd L)
  ch : ∀ (k : Nat) (L : List Row), Ls[k]? = some L → ∃ ds, Rise rs (hd L :: ds) ∧ Rise qs (hd L :: ds) ∧ (∀ r ∈ ds, r ∈ P) ∧ ds.length = k
theorem hd_mem {L : List Row} (h : L ≠ []) : hd L ∈ L := by
  cases L with
  | nil => exact absurd rfl h
  | cons r L => exact List.mem_cons_self
theorem Fall.mem {rs qs P : List Row} {Ls : List (List Row)} (h : Fall rs qs P Ls) {L : List Row} (hL : L ∈ Ls) {r : Row} (hr : r ∈ L) : r ∈ P := h.pm.mem_iff.mp (List.mem_flatten.mpr ⟨L, hL, hr⟩)
theorem chain_cons {L : List Row} {r q : Row} {ds : List Row} (h : Rise L (q :: ds)) (hr : L.idxOf r < L.idxOf q) : Rise L (r :: q :: ds) := by
  refine List.pairwise_cons.mpr ⟨fun x hx => ?_, h⟩
  rcases List.mem_cons.mp hx with e | hx
  · rw [e]; exact hr
  · exact Nat.lt_trans hr ((List.pairwise_cons.mp h).1 x hx)
/-- a chain behind a new row -/
theorem Fall.chain {rs qs P : List Row} {Ls : List (List Row)} (h : Fall rs qs P Ls) {r : Row} (hb : ∀ q ∈ P, rs.idxOf r < rs.idxOf q) {k : Nat} (hk : ∀ L, (0 < k → Ls[k - 1]? = some L → qs.idxOf r < qs.idxOf (hd L))) (hl : k ≤ Ls.length) : ∃ ds, Rise rs (r :: ds) ∧ Rise qs (r :: ds) ∧ (∀ q ∈ ds, q ∈ P) ∧ ds.length = k := by
  cases k with
  | zero => exact ⟨[], List.pairwise_singleton _ _, List.pairwise_singleton _ _, fun q hq => absurd hq (by simp), rfl⟩
  | succ k =>
    have hlt : k < Ls.length := by omega
    have hg := List.getElem?_eq_getElem hlt
    obtain ⟨ds, h1, h2, h3, h4⟩ := h.ch k _ hg
    have mL := List.getElem_mem hlt
    have mh := h.mem mL (hd_mem (h.ok _ mL).1)
    refine ⟨hd Ls[k] :: ds, chain_cons h1 (hb _ mh), chain_cons h2 (hk _ (Nat.succ_pos k) hg), fun q hq => ?_, by rw [List.length_cons, h4]⟩
    rcases List.mem_cons.mp hq with e | hq
    · rw [e]; exact mh
    · exact h3 q hq
theorem Fall.new {rs qs P : List Row} {Ls : List (List Row)} (h : Fall rs qs P Ls) {r : Row} (hr : r ∈ rs) (hq : r ∈ qs) (hb : ∀ q ∈ P, rs.idxOf r < rs.idxOf q) (hn : ∀ L ∈ Ls, qs.idxOf r < qs.idxOf (hd L)) : Fall rs qs (P ++ [r]) (Ls ++ [[r]]) where
  pm := by
    rw [List.flatten_append, List.flatten_singleton]
    exact h.pm.append_right _
  ok := fun L hL => by
    rcases List.mem_append.mp hL with hL | hL
    · exact h.ok L hL
    · rw [List.mem_singleton.mp hL]
      exact ⟨by simp, ⟨fun c hc => by rw [List.mem_singleton.mp hc]; exact hr, List.pairwise_singleton _ _⟩, ⟨fun c hc => (show c = r by simpa using hc) ▸ hq, List.pairwise_singleton _ _⟩⟩
  dn := List.pairwise_append.mpr ⟨h.dn, List.pairwise_singleton _ _, fun L hL M hM => by rw [List.mem_singleton.mp hM]; exact hn L hL⟩
  ch := fun k L hL => by
    rcases Nat.lt_or_ge k Ls.length with hlt | hge
    · rw [List.getElem?_append_left hlt] at hL
      obtain ⟨ds, h1, h2, h3, h4⟩ := h.ch k L hL
      exact ⟨ds, h1, h2, fun q hq => List.mem_append_left _ (h3 q hq), h4⟩
    · rw [List.getElem?_append_right hge] at hL
      have hk : k = Ls.length := by
        have := (List.getElem?_eq_some_iff.mp hL).1
        simp at this
        omega
      subst hk
      rw [Nat.sub_self] at hL
      cases hL
      obtain ⟨ds, h1, h2, h3, h4⟩ := h.chain hb (k := Ls.length) (fun L _ hL => hn L (List.mem_of_getElem? hL)) (Nat.le_refl _)
      exact ⟨ds, h1, h2, fun q hq => List.mem_append_left _ (h3 q hq), h4⟩
theorem Fall.put {rs qs P : List Row} {Ls : List (List Row)} (h : Fall rs qs P Ls) {r : Row} (hr : r ∈ rs) (hq : r ∈ qs) (hb : ∀ q ∈ P, rs.idxOf r < rs.idxOf q) {k : Nat} {L : List Row} (hk : Ls[k]? = some L) (h1 : qs.idxOf (hd L) < qs.idxOf r) (h2 : ∀ j M, j < k → Ls[j]? = some M → qs.idxOf r < qs.idxOf (hd M)) : Fall rs qs (P ++ [r]) (Ls.set k (r :: L)) := by
  have hlt := (List.getElem?_eq_some_iff.mp hk).1
  have mL := List.mem_of_getElem? hk
  obtain ⟨o1, o2, o3⟩ := h.ok L mL
  have split : Ls = Ls.take k ++ L :: Ls.drop (k + 1) := by
    have z := List.take_append_drop k Ls
    rw [List.drop_eq_getElem_cons hlt] at z
    rw [List.getElem?_eq_getElem hlt] at hk
    rw [Option.some.inj hk] at z
    exact z.symm
  have split2 : Ls.set k (r :: L) = Ls.take k ++ (r :: L) :: Ls.drop (k + 1) := by
    rw [List.set_eq_take_append_cons_drop, if_pos hlt]
  constructor
  · rw [split2, List.flatten_append, List.flatten_cons]
    have z := h.pm
    rw [split, List.flatten_append, List.flatten_cons] at z
    refine List.Perm.trans ?_ (List.perm_append_comm (l₁ := [r]) (l₂ := P))
    refine List.Perm.trans ?_ (z.cons r)
    exact List.perm_middle
  · intro M hM
    rw [split2] at hM
    rcases List.mem_append.mp hM with hM | hM
    · exact h.ok M (List.mem_of_mem_take hM)
    · rcases List.mem_cons.mp hM with e | hM
      · rw [e]
        refine ⟨by simp, ⟨fun c hc => ?_, List.pairwise_cons.mpr ⟨fun c hc => hb c (h.mem mL hc), o2.2⟩⟩, ⟨fun c hc => ?_, ?_⟩⟩
        · rcases List.mem_cons.mp hc with z | hc
          · rw [z]; exact hr
          · exact o2.1 c hc
        · rcases List.mem_cons.mp (List.mem_reverse.mp hc) with z | hc
          · rw [z]; exact hq
          · exact o3.1 c (List.mem_reverse.mpr hc)
        · rw [List.reverse_cons]
          refine Rise.append o3.2 fun q hq => ?_
          have hq := List.mem_reverse.mp hq
          refine Nat.lt_of_le_of_lt ?_ h1
          cases L with
          | nil => exact absurd rfl o1
          | cons c L =>
            rcases List.mem_cons.mp hq with z | hq
            · rw [z]; exact Nat.le_refl _
            · have z := o3.2
              unfold Rise at z
              rw [List.pairwise_reverse] at z
              exact Nat.le_of_lt ((List.pairwise_cons.mp z).1 q hq)
      · exact h.ok M (List.mem_of_mem_drop hM)
  · rw [split2]
    have z := h.dn
    rw [split] at z
    obtain ⟨z1, z2, z3⟩ := List.pairwise_append.mp z
    obtain ⟨z4, z5⟩ := List.pairwise_cons.mp z2
    refine List.pairwise_append.mpr ⟨z1, List.pairwise_cons.mpr ⟨fun M hM => Nat.lt_trans (z4 M hM) h1, z5⟩, fun M hM N hN => ?_⟩
    rcases List.mem_cons.mp hN with e | hN
    · rw [e]
      obtain ⟨j, hj⟩ := List.mem_iff_getElem?.mp hM
      have hjk : j < k := by
        have := (List.getElem?_eq_some_iff.mp hj).1
        rw [List.length_take] at this
        omega
      rw [List.getElem?_take_of_lt hjk] at hj
      exact h2 j M hjk hj
    · exact z3 M hM N (List.mem_cons_of_mem _ hN)
  · intro j M hM
    by_cases e : k = j
    · subst e
      rw [List.getElem?_set_self hlt] at hM
      cases hM
      obtain ⟨ds, g1, g2, g3, g4⟩ := h.chain hb (k := k) (fun L h0 hL => h2 (k - 1) L (by omega) hL) (Nat.le_of_lt hlt)
      exact ⟨ds, g1, g2, fun q hq => List.mem_append_left _ (g3 q hq), g4⟩
    · rw [List.getElem?_set_ne e] at hM
      obtain ⟨ds, g1, g2, g3, g4⟩ := h.ch j M hM
      exact ⟨ds, g1, g2, fun q hq => List.mem_append_left _ (g3 q hq), g4⟩
/-- what comes out -/
structure PartsOk (rs qs : List Row) (Ls : List (List Row)) : Prop where
  pm : Ls.flatten.Perm rs
  ok : ∀ L ∈ Ls, L ≠ [] ∧ RisesC rs L ∧ RisesC qs L.reverse
  ch : ∃ ds, Rise rs ds ∧ Rise qs ds ∧ (∀ r ∈ ds, r ∈ rs) ∧ ds.length = Ls.length
theorem Fall.fin {rs qs : List Row} {Ls : List (List Row)} (h : Fall rs qs rs.reverse Ls) : PartsOk rs qs Ls where
  pm := h.pm.trans (List.reverse_perm rs)
  ok := h.ok
  ch := by
    rcases Nat.eq_zero_or_pos Ls.length with z | z
    · exact ⟨[], .nil, .nil, fun r hr => absurd hr (by simp), by rw [z] <;> rfl⟩
    · have hlt : Ls.length - 1 < Ls.length := by omega
      have hg := List.getElem?_eq_getElem hlt
      obtain ⟨ds, h1, h2, h3, h4⟩ := h.ch _ _ hg
      have mL := List.getElem_mem hlt
      refine ⟨_, h1, h2, fun r hr => ?_, by rw [List.length_cons, h4]; omega⟩
      rcases List.mem_cons.mp hr with e | hr
      · rw [e]; exact List.mem_reverse.mp (h.mem mL (hd_mem (h.ok _ mL).1))
      · exact List.mem_reverse.mp (h3 r hr)
theorem len_split {α : Type} (f : α → Bool) : ∀ ds : List α, ds.length = (ds.filter f).length + (ds.filter fun r => !f r).length
  | [] => rfl
  | d :: ds => by
    have ih := len_split f ds
    cases h : f d <;> simp [List.filter_cons, h] <;> omega
/-- a rising list holds at most one row of each falling list -/
theorem one_each {rs qs : List Row} : ∀ {Ls : List (List Row)} {ds : List Row}, (∀ L ∈ Ls, Rise rs L ∧ Rise qs L.reverse) → Rise rs ds → Rise qs ds → (∀ r ∈ ds, r ∈ Ls.flatten) → ds.length ≤ Ls.length
  | [], ds, _, _, _, hm => by
    cases ds with
    | nil => exact Nat.le_refl _
    | cons r ds => exact absurd (hm r List.mem_cons_self) (by simp)
  | L :: Ls, ds, hL, h1, h2, hm => by
    have ih := one_each (rs := rs) (qs := qs) (Ls := Ls) (ds := ds.filter fun r => !decide (r ∈ L)) (fun M hM => hL M (List.mem_cons_of_mem _ hM)) (h1.sub List.filter_sublist) (h2.sub List.filter_sublist) fun r hr => by
      obtain ⟨a, b⟩ := List.mem_filter.mp hr
      have := hm r a
      rw [List.flatten_cons] at this
      rcases List.mem_append.mp this with z | z
      · rw [decide_eq_true z] at b; cases b
      · exact z
    have two : (ds.filter fun r => decide (r ∈ L)).length ≤ 1 := by
      obtain ⟨l1, l2⟩ := hL L List.mem_cons_self
      match hz : ds.filter fun r => decide (r ∈ L) with
      | [] => exact Nat.zero_le _
      | [_] => exact Nat.le_refl _
      | q :: r :: t =>
        exfalso
        have g1 : Rise rs (q :: r :: t) := by rw [← hz]; exact h1.sub List.filter_sublist
        have g2 : Rise qs (q :: r :: t) := by rw [← hz]; exact h2.sub List.filter_sublist
        have mq : q ∈ L := by
          have : q ∈ ds.filter fun r => decide (r ∈ L) := by rw [hz]; exact List.mem_cons_self
          exact of_decide_eq_true (List.mem_filter.mp this).2
        have mr : r ∈ L := by
          have : r ∈ ds.filter fun r => decide (r ∈ L) := by rw [hz]; exact List.mem_cons_of_mem _ List.mem_cons_self
          exact of_decide_eq_true (List.mem_filter.mp this).2
        have a1 := (List.pairwise_cons.mp g1).1 r List.mem_cons_self
        have a2 := (List.pairwise_cons.mp g2).1 r List.mem_cons_self
        obtain ⟨i, hi⟩ := List.mem_iff_getElem?.mp mq
        obtain ⟨j, hj⟩ := List.mem_iff_getElem?.mp mr
        obtain ⟨hi1, rfl⟩ := List.getElem?_eq_some_iff.mp hi
        obtain ⟨hj1, rfl⟩ := List.getElem?_eq_some_iff.mp hj
        unfold Rise at l2
        rw [List.pairwise_reverse] at l2
        rcases Nat.lt_trichotomy i j with z | z | z
        · have := List.pairwise_iff_getElem.mp l2 i j hi1 hj1 z
          omega
        · subst z
          exact Nat.lt_irrefl _ a1
        · have := List.pairwise_iff_getElem.mp l1 j i hj1 hi1 z
          omega
    have hs := len_split (fun r => decide (r ∈ L)) ds
    rw [List.length_cons]
    omega
theorem PartsOk.len {rs qs : List Row} {Ls : List (List Row)} (h : PartsOk rs qs Ls) {lev : Row → Nat} {ahd : Row → Option Row} {M : Nat} (L : LevOn [rs, qs] rs lev ahd) (hM : IsCount rs lev M) : Ls.length = M := by
  obtain ⟨ds, h1, h2, h3, h4⟩ := h.ch
  have a := chain_len L hM h1 h2 h3
  obtain ⟨es, g1, g2, g3, g4⟩ := chain_most L hM
  have b := one_each (rs := rs) (qs := qs) (Ls := Ls) (fun L hL => ⟨(h.ok L hL).2.1.2, (h.ok L hL).2.2.2⟩) g1 g2 fun r hr => h.pm.mem_iff.mpr (g3 r hr)
  omega
end Mv
/-! _law_parts walked. -/
namespace Mv
open PySem PySem.Spec PyProof.Rows L2 Evl
theorem given_first {f : Nat → Bool} {v : Nat → V} : ∀ {n : Nat}, (given n f v).isEmpty = false → ∃ k, k < n ∧ f k = true ∧ (∀ j, j < k → f j = false) ∧ (given n f v)[0]? = some (v k)
  | 0, h => by cases h
  | n + 1, h => by
    cases e : (given n f v).isEmpty with
    | false =>
      obtain ⟨k, h1, h2, h3, h4⟩ := given_first e
      refine ⟨k, by omega, h2, h3, ?_⟩
      cases hf : f n with
      | true =>
        rw [given_yes hf, List.getElem?_append_left (List.getElem?_eq_some_iff.mp h4).1]
        exact h4
      | false => rw [given_no hf]; exact h4
    | true =>
      have hn : ∀ j, j < n → f j = false := by
        rw [given_empty, List.all_eq_true] at e
        intro j hj
        have := e j (List.mem_range.mpr hj)
        cases z : f j with
        | false => rfl
        | true => rw [z] at this; cases this
      have e0 : given n f v = [] := List.isEmpty_iff.mp e
      cases hf : f n with
      | true => exact ⟨n, by omega, hf, hn, by rw [given_yes hf, e0] <;> rfl⟩
      | false => rw [given_no hf, e0] at h; cases h
theorem behind {rs : List Row} (nd : rs.Nodup) {i : Nat} {r q : Row} (hr : rs.reverse[i]? = some r) (hq : q ∈ rs.reverse.take i) : rs.idxOf r < rs.idxOf q := by
  obtain ⟨j, hj⟩ := List.mem_iff_getElem?.mp hq
  have hji : j < i := by
    have := (List.getElem?_eq_some_iff.mp hj).1
    rw [List.length_take] at this
    omega
  rw [List.getElem?_take_of_lt hji] at hj
  have li := (List.getElem?_eq_some_iff.mp hr).1
  rw [List.length_reverse] at li
  rw [List.getElem?_reverse (by omega)] at hj hr
  rw [idxOf_at nd hj, idxOf_at nd hr]
  omega
section
variable {P : Program} {w : World} {K : PySem.W.Frag} {mg : Str → Option Value} {base : Heap} {a : Nat → Addr} {d : Nat → FuncData} {tk : Nat → Tok}
def LstRows (H : Hp) (q : Addr) (L : List Row) : Prop := ∃ zs, H q = some (.lst zs) ∧ Paired (IsRow H) zs L
def sp__law_parts : Sp := fun vs H Q _ => ∃ (x y : V) (rs qs : List Row) (n : Nat), vs = [x, y] ∧ LRw H x rs ∧ LRw H y qs ∧ OkRows n rs ∧ qs.Perm rs ∧ ∀ q as Ls H2, H q = none → Ex H H2 → H2 q = some (.lst (as.map V.ref)) → (∀ b ∈ as, H b = none) → Paired (LstRows H2) as Ls → PartsOk rs qs Ls → Q (.ref q) H2
theorem ok__law_parts (T : All K mg a d tk) : FnOk P w K mg base CX0 1 (a 31) (d 31) ["first", "second"] sp__law_parts := by
  refine T.F__law_parts.fn.ok sc__law_parts (fun vs H Q E h => ?_) (fun cdv A outer s H vs Q E hr h => ?_)
  · obtain ⟨x, y, rs, qs, n, rfl, _⟩ := h
    rfl
  · obtain ⟨x, y, rs, qs, n, rfl, hx, hy, ho, pm, k⟩ := h
    have nd := sc__law_parts.nd
    have hu := hu_of hr
    have hu0 := hr.units0
    have hu64 := hr.units
    have oq := ho.perm pm
    have h60 := ho.few
    refine ⟨_, (pss_cons (ps_asg (pe_tup (pa_cons (pe_callTy (cr_dictPT rfl hu64) rfl T.n_dict PyProof.Rows.boot_dict (pa_cons (pe_lc (own := [("at", 6), ("row", 4)]) (g := (gTup K 2 (gCons (gName 6) (gCons (gName 4) gNil)))) rfl nd (pi_enum rfl T.n_enumerate (pa_cons (pv 1) pa_nil)) (blkOk_by (N := N__law_parts) (sc := defScope s__law_parts) (by decide +kernel)) (fun _ _ _ _ _ => (pg_tup rfl (pgs_cons (pg_name (i := 6) nd rfl (Or.inl rfl)) (pgs_cons (pg_name (i := 4) nd rfl (Or.inl rfl)) pgs_nil)))) (fun _ _ _ _ _ => pts_nil) (fun _ _ _ _ _ => (pe_tup (pa_cons (pv 4) (pa_cons (pv 6) pa_nil))))) pa_nil)) (pa_cons (pe_lst pa_nil) pa_nil))) (pg_tup rfl (pgs_cons (pg_name (i := 2) nd rfl (Or.inr rfl)) (pgs_cons (pg_name (i := 3) nd rfl (Or.inr rfl)) pgs_nil))) (hw := by rfl))
 (pss_cons (ps_for PassesOwn.never rfl (pi_list (pe_revL (pv 0))) (pg_name (i := 4) nd rfl (Or.inr rfl))
 (pss_cons (ps_setLc (i := 5) (own := [("at", 6)]) (g := (gName 6)) rfl nd rfl rfl (sw_true rfl rfl rfl (by decide +kernel)) (pi_range1 rfl T.n_range (pa_cons (pe_callB call_len_seq (by rfl) T.n_len PySem.boot_len (pa_cons (pv 3) pa_nil)) pa_nil)) (blkOk_by (N := N__law_parts) (sc := defScope s__law_parts) (by decide +kernel)) (fun _ _ _ _ _ => (pg_name (i := 6) nd rfl (Or.inl rfl))) (fun _ _ _ _ _ => (pts_one (pt_cmpR op_lt (pe_dget hu (pv 2) (pe_ix (show IxR _ (rIxL K) from ix_list) (pe_ix (show IxR _ (rIxL K) from ix_list) (pv 3) (pv 6) (fun _ _ => rfl)) pe_int (fun _ _ => rfl)) (fun _ _ => rfl)) (pe_dget hu (pv 2) (pv 4) (fun _ _ => rfl)) (nomark _)))) (fun _ _ _ _ _ => (pv 6)))
 (pss_one (ps_if (pt_cmpR (op_eqNil hu0) (pv 5) (pe_lst pa_nil) (nomark _))
 (pss_one (ps_expr (pe_bm PySem.F.plainAttrs_list PySem.F.slot_list_append PySem.F.type_list_append mt_append (pv 3) (pa_cons (pe_lst (pa_cons (pv 4) pa_nil)) pa_nil))))
 (pss_one (ps_expr (pe_bm PySem.F.plainAttrs_list PySem.F.slot_list_insert PySem.F.type_list_insert mt_insert (pe_ix ix_list (pv 3) (pe_ix ix_list (pv 5) pe_int (fun _ _ => rfl)) (fun _ _ => rfl)) (pa_cons pe_int (pa_cons (pv 4) pa_nil)))))))))
 (pss_one (ps_ret (pv 3))))), ?_⟩
    obtain ⟨a0, xs, rfl, hs, hp⟩ := id hx
    obtain ⟨b0, ys, rfl, ht, hq⟩ := id hy
    have lx : xs.length = rs.length := Paired.length hp
    refine ef_dictEnum (K := K) (σ := [some (V.ref a0), some (.ref b0), none, none, none, none, none]) (tl := tVar 1) (j1 := 6) (j2 := 4) (vs := [6, 4]) (ev_var rfl) ht hq oq.nd oq.few (fun _ _ => rfl) (fun _ _ => rfl) (fun _ _ => rfl) _ (Ex.refl _) _ fun pd H1 npd e1 hPos => ⟨Nat.zero_le _, fun fb nfb => ⟨sz_of (show 2 ≤ 100000 by decide), fun t nt => ?_⟩⟩
    have eF : Ex H1 (upd H1 fb (.lst [])) := Ex.new nfb
    have eT : Ex (upd H1 fb (.lst [])) (upd (upd H1 fb (.lst [])) t (.tup [.ref pd, .ref fb])) := Ex.new nt
    refine ⟨t, _, rfl, st_of upd_same, rfl, _, _, rfl, _, _, rfl, rfl, ?_⟩
    have e3 : Ex H (upd (upd H1 fb (.lst [])) t (.tup [.ref pd, .ref fb])) := (e1.trans eF).trans eT
    have hf3 : upd (upd H1 fb (.lst [])) t (.tup [.ref pd, .ref fb]) fb = some (.lst []) := eT _ _ upd_same
    have hP3 : upd (upd H1 fb (.lst [])) t (.tup [.ref pd, .ref fb]) pd = some (.dT (dtab qs (plc qs))) := (eF.trans eT) _ _ hPos
    have nfbH : H fb = none := fresh_back e1 nfb
    generalize upd (upd H1 fb (.lst [])) t (.tup [.ref pd, .ref fb]) = H3 at *
    let Pv : Addr → Nat → L2.St → Hp → Prop := fun rb i σ' H' => Ex H H' ∧ rb ≠ fb ∧ H' rb = some (.lst xs.reverse) ∧ H' pd = some (.dT (dtab qs (plc qs))) ∧ ∃ (as : List Addr) (Ls : List (List Row)) (v4 v5 v6 : Option V), σ' = [some (.ref a0), some (.ref b0), some (.ref pd), some (.ref fb), v4, v5, v6] ∧
      H' fb = some (.lst (as.map V.ref)) ∧ as.Nodup ∧ (∀ q ∈ as, H q = none ∧ q ≠ fb ∧ q ≠ rb) ∧ Paired (LstRows H') as Ls ∧ Fall rs qs (rs.reverse.take i) Ls
    refine q_forNLn (K := K) (el_revG (K := K) (ta := tVar 0) (σ := [some (V.ref a0), some (.ref b0), some (.ref pd), some (.ref fb), none, none, none]) (Ev.g (ev_var rfl) (e3 _ _ hs))) Pv (fun rb H4 nrb e4 hrb => ⟨e3.trans e4, fun z => (by rw [z, hf3] at nrb; cases nrb), hrb, e4 _ _ hP3, [], [], _, _, _, rfl, e4 _ _ hf3, List.nodup_nil, fun q h => absurd h (by simp), .nil, ⟨.refl _, fun L h => absurd h (by simp), .nil, fun k L h => by simp at h⟩⟩) (fun rb i σ' H' _ h => sq_of h.2.2.1) ?_ ?_
    · rintro rb i rv σ' H' hi ⟨e', nrf, hrb, hpd, as, Ls, v4, v5, v6, rfl, hfb, ndA, hA, hLs, hF⟩
      obtain ⟨r, hri, hrow0⟩ := Paired.at_l (Paired.rev hp) i rv hi
      have mr : r ∈ rs := List.mem_reverse.mp (List.mem_of_getElem? hri)
      have mq : r ∈ qs := pm.mem_iff.mpr mr
      have hrow := hrow0.ex e'
      have hb : ∀ q ∈ rs.reverse.take i, rs.idxOf r < rs.idxOf q := fun q hq => behind ho.nd hri hq
      have lA : as.length = Ls.length := Paired.length hLs
      have lLs : Ls.length ≤ 60 := by
        rcases Nat.eq_zero_or_pos Ls.length with z | z
        · omega
        · have hlt : Ls.length - 1 < Ls.length := by omega
          obtain ⟨ds, h1, _, h3, h4⟩ := hF.ch _ _ (List.getElem?_eq_getElem hlt)
          have mL := List.getElem_mem hlt
          have := sub_len (ds := hd Ls[Ls.length - 1] :: ds) (rs := rs) h1.nodup fun q hq => by
            rcases List.mem_cons.mp hq with e | hq
            · rw [e]; exact (hF.ok _ mL).2.1.1 _ (hd_mem (hF.ok _ mL).1)
            · exact List.mem_reverse.mp (List.mem_of_mem_take (h3 q hq))
          rw [List.length_cons, h4] at this
          omega
      have head : ∀ {H2 : Hp} {j : Nat} {L : List Row} {q : Addr}, Ex H' H2 → as[j]? = some q → Ls[j]? = some L → ∃ (zs : List V) (hv : V), H2 q = some (.lst zs) ∧ zs[0]? = some hv ∧ IsRow H2 hv (hd L) := by
        intro H2 j L q e2 hq hL
        obtain ⟨L', hL', zs, hz1, hz2⟩ := Paired.at_l hLs j q hq
        rw [hL] at hL'
        cases hL'
        have ne := (hF.ok L (List.mem_of_getElem? hL)).1
        cases L with
        | nil => exact absurd rfl ne
        | cons c L =>
          obtain ⟨v0, hv0, hrw⟩ := Paired.at_r hz2 0 c rfl
          exact ⟨zs, v0, e2 _ _ hz1, hv0, hrw.ex e2⟩
      have hdq : ∀ {j : Nat} {L : List Row}, Ls[j]? = some L → hd L ∈ qs ∧ hd L ∈ rs.reverse.take i := fun {j L} hL => by
        have mL := List.mem_of_getElem? hL
        have ok := hF.ok L mL
        exact ⟨ok.2.2.1 _ (List.mem_reverse.mpr (hd_mem ok.1)), hF.mem mL (hd_mem ok.1)⟩
      have c1 := el_lcR1 (σ := [some (V.ref a0), some (.ref b0), some (.ref pd), some (.ref fb), some rv, v5, v6]) (H := H') (ta := tCons (tCB (rLenS K) (tCons (tVar 3) tNil)) tNil) (t := tTest (tOp (rI0 fun i j => .bl (decide (i < j))) (tDGet (tVar 2) (tOp (rIxL K) (tOp (rIxL K) (tVar 3) (tVar 6)) (tC (.int 0)))) (tDGet (tVar 2) (tVar 4)))) (te := tVar 6) (j := 6) (vs := [6]) (n := ((as.map V.ref).length : Int))
        (fun j => decide (qs.idxOf (hd (Ls.getD j [])) < qs.idxOf r)) (fun j => .int (j : Int)) (ea_cons (ev_lenS (ev_var rfl) (.inl hfb)) ea_nil) (by rw [List.length_map]; omega) (fun _ => rfl) (fun j H4 e4 hj => by
          rw [List.length_map] at hj
          have hjA : j < as.length := by omega
          have hjL : j < Ls.length := by omega
          have gA := List.getElem?_eq_getElem hjA
          have gL := List.getElem?_eq_getElem hjL
          obtain ⟨zs, hv, z1, z2, z3⟩ := head e4 gA gL
          have gD : Ls.getD j [] = Ls[j] := by rw [List.getD_eq_getElem?_getD, gL] <;> rfl
          rw [gD]
          refine et_is (et_I0 (g := fun i j => decide (i < j)) (ev_dget (ev_var rfl) (ev_ixL (i := ((0 : Nat) : Int)) (ev_ixL (i := (j : Int)) (ev_var rfl) (ev_var rfl) (sq_of (e4 _ _ hfb)) (atI_nat (by rw [List.getElem?_map, gA] <;> rfl))) ev_c (sq_of z1) (atI_nat z2)) (e4 _ _ hpd) z3 (hdq gL).1) (ev_dget (ev_var rfl) (ev_var rfl) (e4 _ _ hpd) (hrow.ex e4) mq)) ?_
          exact decide_eq_decide.mpr (by omega)) (fun j H4 e4 hj _ => ev_var rfl)
      rw [List.length_map] at c1
      refine q_asgL c1 fun ftb H4 nft e4 hft => ?_
      have e04 := e'.trans e4
      have hfb4 := e4 _ _ hfb
      have hLs4 : Paired (LstRows H4) as Ls := Paired.imp (fun _ _ ⟨zs, z1, z2⟩ => ⟨zs, e4 _ _ z1, Paired.imp (fun _ _ h => h.ex e4) z2⟩) hLs
      have z0 : ((as.length : Nat) : Int).toNat = as.length := Int.toNat_natCast _
      rw [z0] at hft
      have tke : rs.reverse.take (i + 1) = rs.reverse.take i ++ [r] := take_next hri
      refine s_if (et_test (ev_eqNil (ev_var rfl) (sq_of hft))) (fun hE H5 e5 => ?_) fun hE H5 e5 => ?_
      · -- found.append([row])
        have hn : ∀ L ∈ Ls, qs.idxOf r < qs.idxOf (hd L) := fun L hL => by
          obtain ⟨j, hj⟩ := List.mem_iff_getElem?.mp hL
          have hjL := (List.getElem?_eq_some_iff.mp hj).1
          rw [given_empty, List.all_eq_true] at hE
          have z := hE j (List.mem_range.mpr (by omega))
          rw [List.getD_eq_getElem?_getD, hj] at z
          have z : (!decide (qs.idxOf (hd L) < qs.idxOf r)) = true := z
          have z : ¬ qs.idxOf (hd L) < qs.idxOf r := fun h => by rw [decide_eq_true h] at z; cases z
          have ne : qs.idxOf (hd L) ≠ qs.idxOf r := fun e => by
            have := idxOf_inj (hdq hj).1 mq e
            have h2 := hb _ (hdq hj).2
            rw [this] at h2
            exact Nat.lt_irrefl _ h2
          omega
        refine s_appL (e5 _ _ hfb4) (ev_var rfl) (el_lst (ea_cons (ev_var (i := 4) rfl) ea_nil) (show 1 ≤ 100000 by decide)) (by rw [List.length_map]; omega) fun nb H6 nnb e6 hnb => ?_
        have e46 := e5.trans e6
        have hfb6 := e46 _ _ hfb4
        have nnf : nb ≠ fb := fun z => by rw [z, e5 _ _ hfb4] at nnb; cases nnb
        have nH : H nb = none := fresh_back (e04.trans e5) nnb
        have up : ∀ {v : V} {c : Row} {o}, IsRow H6 v c → IsRow (upd H6 fb o) v c := fun h => h.upd hfb6 (lst_ntup _)
        refine ⟨Ex.mut (e04.trans e46) nfbH, nrf, by rw [upd_ne nrf]; exact (e4.trans e46) _ _ hrb, ?_, as ++ [nb], Ls ++ [[r]], _, _, _, rfl, ?_, ?_, ?_, ?_, ?_⟩
        · rw [upd_ne (fun z => by rw [z, hfb] at hpd; cases hpd)]
          exact (e4.trans e46) _ _ hpd
        · rw [upd_same, List.map_append] <;> rfl
        · refine List.nodup_append.mpr ⟨ndA, (by simp), fun q hq q' hq' => ?_⟩
          rw [List.mem_singleton.mp hq']
          intro z
          obtain ⟨j, hj⟩ := List.mem_iff_getElem?.mp hq
          obtain ⟨L, _, zs, z1, _⟩ := Paired.at_l hLs4 j q hj
          rw [z] at z1
          rw [e5 _ _ z1] at nnb
          cases nnb
        · intro q hq
          rcases List.mem_append.mp hq with hq | hq
          · exact hA q hq
          · rw [List.mem_singleton.mp hq]
            exact ⟨nH, nnf, fun z => by rw [z, (e4.trans e5) _ _ hrb] at nnb; cases nnb⟩
        · refine Paired.append (paired_of lA fun j q L hq hL => ?_) (.cons ⟨[rv], by rw [upd_ne nnf]; exact hnb, .cons (up (hrow.ex (e4.trans e46))) .nil⟩ .nil)
          obtain ⟨L', hL', zs, z1, z2⟩ := Paired.at_l hLs4 j q hq
          rw [hL] at hL'
          cases hL'
          exact ⟨zs, by rw [upd_ne (hA q (List.mem_of_getElem? hq)).2.1]; exact e46 _ _ z1, Paired.imp (fun _ _ h => up (h.ex e46)) z2⟩
        · rw [tke]
          exact hF.new mr mq hb hn
      · -- found[fit[0]].insert(0, row)
        obtain ⟨kk, hk1, hk2, hk3, hk4⟩ := given_first hE
        have gA := List.getElem?_eq_getElem hk1
        have hkL : kk < Ls.length := by omega
        have gL := List.getElem?_eq_getElem hkL
        obtain ⟨L', hL', zs, z1, z2⟩ := Paired.at_l hLs4 kk _ gA
        rw [gL] at hL'
        cases hL'
        have h1 : qs.idxOf (hd Ls[kk]) < qs.idxOf r := by
          have z := of_decide_eq_true hk2
          rwa [List.getD_eq_getElem?_getD, gL] at z
        have h2 : ∀ j M, j < kk → Ls[j]? = some M → qs.idxOf r < qs.idxOf (hd M) := fun j M hj hM => by
          have z := of_decide_eq_false (hk3 j hj)
          rw [List.getD_eq_getElem?_getD, hM] at z
          have z : ¬ qs.idxOf (hd M) < qs.idxOf r := z
          have ne : qs.idxOf (hd M) ≠ qs.idxOf r := fun e => by
            have := idxOf_inj (hdq hM).1 mq e
            have h2 := hb _ (hdq hM).2
            rw [this] at h2
            exact Nat.lt_irrefl _ h2
          omega
        refine (ev_ixL (K := K) (ta := tVar 3) (tb := tOp (rIxL K) (tVar 5) (tC (.int 0))) (σ := [some (V.ref a0), some (.ref b0), some (.ref pd), some (.ref fb), some rv, some (.ref ftb), v6]) (H := H5) (i := (kk : Int)) (v := .ref as[kk]) (ev_var rfl) (ev_ixL (i := ((0 : Nat) : Int)) (ev_var rfl) ev_c (sq_of (e5 _ _ hft)) (atI_nat hk4)) (sq_of (e5 _ _ hfb4)) (atI_nat (by rw [List.getElem?_map, gA] <;> rfl))) H5 (Ex.refl _) _ fun H6 e6 => ?_
        have e46 := e5.trans e6
        have z16 := e46 _ _ z1
        refine ⟨.inl ⟨rfl, zs, sq_of z16⟩, rv, rfl, as[kk], zs, 0, rv, rfl, rfl, z16, ?_, Int.le_refl _, by decide, ?_⟩
        · refine Nat.lt_of_le_of_lt ?_ (show 1000 < sizeLine by decide)
          rw [Paired.length z2]
          have := sub_len (rs := rs) ((hF.ok _ (List.getElem_mem hkL)).2.1.2.nodup) (hF.ok _ (List.getElem_mem hkL)).2.1.1
          omega
        have hAk := hA _ (List.getElem_mem hk1)
        have up : ∀ {v : V} {c : Row} {o}, IsRow H6 v c → IsRow (upd H6 as[kk] o) v c := fun h => h.upd z16 (lst_ntup _)
        refine ⟨Ex.mut (e04.trans e46) hAk.1, nrf, by rw [upd_ne (Ne.symm hAk.2.2)]; exact (e4.trans e46) _ _ hrb, ?_, as, Ls.set kk (r :: Ls[kk]), _, _, _, rfl, ?_, ndA, hA, ?_, ?_⟩
        · rw [upd_ne (fun z => by rw [← z, (e4.trans e46) _ _ hpd] at z16; cases z16)]
          exact (e4.trans e46) _ _ hpd
        · rw [upd_ne (Ne.symm hAk.2.1)]
          exact e46 _ _ hfb4
        · refine paired_of (by rw [List.length_set]; exact lA) fun j q M hq hM => ?_
          by_cases e : kk = j
          · subst e
            rw [List.getElem?_set_self hkL] at hM
            cases hM
            rw [gA] at hq
            cases hq
            exact ⟨rv :: zs, upd_same, .cons (up (hrow.ex (e4.trans e46))) (Paired.imp (fun _ _ h => up (h.ex e46)) z2)⟩
          · rw [List.getElem?_set_ne e] at hM
            obtain ⟨M', hM', zs', y1, y2⟩ := Paired.at_l hLs4 j q hq
            rw [hM] at hM'
            cases hM'
            have nq : q ≠ as[kk] := fun z => e (by
              obtain ⟨hj, ej⟩ := List.getElem?_eq_some_iff.mp hq
              have nd2 := List.pairwise_iff_getElem.mp ndA
              rcases Nat.lt_trichotomy kk j with w | w | w
              · exact absurd (ej.trans z).symm (nd2 kk j hk1 hj w)
              · exact w
              · exact absurd (ej.trans z) (nd2 j kk hj hk1 w))
            exact ⟨zs', by rw [upd_ne nq]; exact e46 _ _ y1, Paired.imp (fun _ _ h => up (h.ex e46)) y2⟩
        · rw [tke]
          exact hF.put mr mq hb gL h1 h2
    · rintro rb σ' H' ⟨e', nrf, hrb, hpd, as, Ls, v4, v5, v6, rfl, hfb, ndA, hA, hLs, hF⟩
      have lr : xs.reverse.length = rs.reverse.length := by rw [List.length_reverse, List.length_reverse]; exact lx
      rw [lr, List.take_length] at hF
      refine s_ret (ev_var rfl) fun H5 e5 => k fb as Ls H5 nfbH (e'.trans e5) (e5 _ _ hfb) (fun b hb => (hA b hb).1) (Paired.imp (fun _ _ ⟨zs, z1, z2⟩ => ⟨zs, e5 _ _ z1, Paired.imp (fun _ _ h => h.ex e5) z2⟩) hLs) hF.fin
end
end Mv
/-! Arguments by what is true of them; falling lists. -/
namespace Mv
open PySem PySem.Spec PyProof.Rows L2 Evl
def EvAP (t : TA) (σ : L2.St) (H : Hp) (P : List V → Hp → Prop) : Prop := ∀ H1, Ex H H1 → ∀ Q : List V → Hp → Prop, (∀ vs H2, Ex H1 H2 → P vs H2 → Q vs H2) → t σ H1 Q
/-- what stays while the heap grows -/
def Sta (P : V → Hp → Prop) : Prop := ∀ v H1 H2, P v H1 → Ex H1 H2 → P v H2
section
variable {K : PySem.W.Frag} {σ : L2.St} {H : Hp} {ta tb te : TE} {t : TA} {x y z : V} {D : Ends} {tz : TS} {P R : V → Hp → Prop} {S : List V → Hp → Prop}
theorem eap_nil : EvAP tNil σ H (fun vs _ => vs = []) := fun H1 _ Q q => q [] H1 (Ex.refl _) rfl
theorem eap_cons (h : EvP te σ H P) (sP : Sta P) (hr : EvAP t σ H S) : EvAP (tCons te t) σ H (fun vs H2 => ∃ v ws, vs = v :: ws ∧ P v H2 ∧ S ws H2) := fun H1 e Q q =>
  h H1 e _ fun v H2 e2 hv => hr H2 (e.trans e2) _ fun ws H3 e3 hw => q _ H3 (e2.trans e3) ⟨v, ws, rfl, sP _ _ _ hv e3, hw⟩
theorem ep_callP {sp : Sp} {dvs : List V} {E : XK} (h : EvAP t σ H S) (hs : ∀ vs H1, Ex H H1 → S vs H1 → SpP sp (vs ++ dvs) H1 R) : EvP (tCall sp dvs E t) σ H R := fun H1 e Q q =>
  h H1 e _ fun vs H2 e2 hv => hs vs H2 (e.trans e2) hv H2 (Ex.refl _) Q (fun v H3 e3 hp => q v H3 (e2.trans e3) hp) E
theorem ev_callP {sp : Sp} {dvs : List V} {E : XK} (h : EvAP t σ H S) (hs : ∀ vs H1, Ex H H1 → S vs H1 → SpV sp (vs ++ dvs) H1 z) : Ev (tCall sp dvs E t) σ H z := fun H1 e Q q =>
  h H1 e _ fun vs H2 e2 hv => hs vs H2 (e.trans e2) hv H2 (Ex.refl _) Q (fun H3 e3 => q H3 (e2.trans e3)) E
theorem ep_callNP {sp : Sp} {E : XK} {m : Nat} {gV : List V → List V → List V} (h : EvAP t σ H S) (hm : ∀ vs H1, S vs H1 → vs.length = m) (hs : ∀ vs H1, Ex H H1 → S vs H1 → SpP sp (gV [] vs) H1 R) : EvP (tCallN 0 m sp gV E tNil t) σ H R := fun H1 e Q q =>
  h H1 e _ fun vs H2 e2 hv => ⟨rfl, hm vs H2 hv, hs vs H2 (e.trans e2) hv H2 (Ex.refl _) Q (fun v H3 e3 hp => q v H3 (e2.trans e3) hp) E⟩
theorem q_parP {i j : Nat} (ha : EvP ta σ H P) (sP : Sta P) (hb : EvP tb σ H R) (k : ∀ v u H1, Ex H H1 → P v H1 → R u H1 → tz D ((σ.set i (some v)).set j (some u)) H1) : tSeq (tPar i j (tCons ta (tCons tb tNil))) tz D σ H :=
  ha H (Ex.refl _) _ fun v H1 e1 hv => hb H1 e1 _ fun u H2 e2 hu => ⟨v, u, rfl, k v u H2 (e1.trans e2) (sP _ _ _ hv e2) hu⟩
theorem ep_of (h : Ev te σ H z) (hP : ∀ H1, Ex H H1 → P z H1) : EvP te σ H P := fun H1 e Q q => h H1 e _ fun H2 e2 => q z H2 e2 (hP H2 (e.trans e2))
theorem sta_rws {rs : List Row} : Sta fun v H2 => Rws H2 v rs := fun _ _ _ h e => h.ex e
theorem sta_lrw {rs : List Row} : Sta fun v H2 => LRw H2 v rs := fun _ _ _ h e => LRw.ex h e
theorem ep_tup {rs : List Row} (h : Ev te σ H x) (hx : LRw H x rs) : EvP (tCB (rTupOf K) (tCons te tNil)) σ H (fun v H2 => Rws H2 v rs) := fun H1 e Q q => by
  obtain ⟨b, ys, rfl, hb, hp⟩ := id hx
  exact eu_tupOf (K := K) h hb H1 e _ fun p H2 np e2 h2 => q _ H2 e2 ⟨p, ys, rfl, .inr h2, Paired.imp (fun _ _ h => h.ex (e.trans e2)) hp⟩
end
/-! falling lists -/
theorem falls_ok {rs qs tops : List Row} {lev : Row → Nat} {ahd : Row → Option Row} (nR : rs.Nodup) (pm : qs.Perm rs) (h : Pls rs qs rs tops lev ahd) : FallsOk rs qs (tops.map fun t => rs.filter fun q => decide (lev q = lev t)) := by
  constructor
  · intro L hL
    obtain ⟨t, ht, rfl⟩ := List.mem_map.mp hL
    obtain ⟨i, hi⟩ := List.mem_iff_getElem?.mp ht
    have mt := (h.mem i t hi).1
    intro z
    have : t ∈ rs.filter fun q => decide (lev q = lev t) := List.mem_filter.mpr ⟨mt, decide_eq_true rfl⟩
    rw [z] at this
    cases this
  · intro L hL
    obtain ⟨t, _, rfl⟩ := List.mem_map.mp hL
    exact (Rise.self nR).sub List.filter_sublist
  · intro L hL
    obtain ⟨t, _, rfl⟩ := List.mem_map.mp hL
    unfold Rise
    rw [List.pairwise_reverse]
    have up : Rise rs (rs.filter fun q => decide (lev q = lev t)) := (Rise.self nR).sub List.filter_sublist
    refine List.Pairwise.imp_of_mem (fun {q r} hq hr hlt => ?_) up
    have hq := List.mem_filter.mp hq
    have hr := List.mem_filter.mp hr
    have e1 := of_decide_eq_true hq.2
    have e2 := of_decide_eq_true hr.2
    refine Nat.lt_of_not_le fun z => ?_
    have ne : qs.idxOf q ≠ qs.idxOf r := fun e => by
      have := idxOf_inj (pm.mem_iff.mpr hq.1) (pm.mem_iff.mpr hr.1) e
      rw [this] at hlt
      exact Nat.lt_irrefl _ hlt
    have := h.L.lt r hr.1 q hq.1 (ah_two.mpr ⟨hlt, by omega⟩)
    omega
  · have e : (tops.map fun t => rs.filter fun q => decide (lev q = lev t)) = (List.range tops.length).map fun i => rs.filter fun q => decide (lev q = i) := by
      refine List.ext_getElem (by rw [List.length_map, List.length_map, List.length_range]) fun i h1 h2 => ?_
      rw [List.getElem_map, List.getElem_map, List.getElem_range]
      rw [List.length_map] at h1
      have := (h.mem i _ (List.getElem?_eq_getElem h1)).2
      rw [this]
    rw [e]
    exact flat_all h.count.lt
/-- what falls hands back: new lists in a new list -/
def FallV (rs qs : List Row) (M : Nat) (B : Hp) (v : V) (H2 : Hp) : Prop := ∃ (p1 : Addr) (bs : List Addr) (Ls : List (List Row)), v = .ref p1 ∧ B p1 = none ∧ H2 p1 = some (.lst (bs.map V.ref)) ∧ (∀ b ∈ bs, B b = none ∧ b ≠ p1) ∧ Paired (LRw H2) (bs.map V.ref) Ls ∧ FallsOk rs qs Ls ∧ Ls.length = M
theorem FallV.ex {rs qs : List Row} {M : Nat} {B H H' : Hp} {v : V} (h : FallV rs qs M B v H) (e : Ex H H') : FallV rs qs M B v H' := let ⟨p1, bs, Ls, h1, h2, h3, h4, h5, h6⟩ := h; ⟨p1, bs, Ls, h1, h2, e _ _ h3, h4, Paired.imp (fun _ _ h => LRw.ex h e) h5, h6⟩
theorem FallV.back {rs qs : List Row} {M : Nat} {B B' H : Hp} {v : V} (h : FallV rs qs M B' v H) (e : Ex B B') : FallV rs qs M B v H := let ⟨p1, bs, Ls, h1, h2, h3, h4, h5⟩ := h; ⟨p1, bs, Ls, h1, fresh_back e h2, h3, fun b hb => ⟨fresh_back e (h4 b hb).1, (h4 b hb).2⟩, h5⟩
/-- so many rows stay -/
def Stays (rs qs : List Row) (M : Nat) : Prop := ∀ lev ahd M', LevOn [rs, qs] rs lev ahd → IsCount rs lev M' → M' = M
theorem FallRes.v {rs qs : List Row} {M : Nat} {B H : Hp} {p1 : Addr} (h : FallRes rs qs B p1 H) (np : B p1 = none) (nR : rs.Nodup) (pm : qs.Perm rs) (hM : Stays rs qs M) : FallV rs qs M B (.ref p1) H := by
  obtain ⟨bs, tops, lev, ahd, h1, h2, h3, h4, h5⟩ := h
  have lb : bs.length = tops.length := Paired.length h2
  refine ⟨p1, bs, _, rfl, np, h1, h3, ?_, falls_ok nR pm h5, by rw [List.length_map]; exact hM lev ahd _ h5.L h5.count⟩
  refine paired_of (by rw [List.length_map, List.length_map, lb]) fun i x L hx hL => ?_
  rw [List.getElem?_map] at hx hL
  obtain ⟨b, hb, rfl⟩ := Option.map_eq_some_iff.mp hx
  obtain ⟨t, ht, rfl⟩ := Option.map_eq_some_iff.mp hL
  obtain ⟨t', ht', zi, zt, g1, g2, g3, g4⟩ := Paired.at_l h2 i b hb
  rw [ht] at ht'
  cases ht'
  exact ⟨b, _, rfl, g1, g4⟩
/-- rows that stay, in a new list -/
def StayV (rs qs : List Row) (M : Nat) (B : Hp) (v : V) (H2 : Hp) : Prop := ∃ (p : Addr) (ds : List Row), v = .ref p ∧ B p = none ∧ LRw H2 v ds ∧ (∀ r ∈ ds, r ∈ rs) ∧ Rise rs ds ∧ Rise qs ds ∧ ds.length = M
theorem StayV.ex {rs qs : List Row} {M : Nat} {B H H' : Hp} {v : V} (h : StayV rs qs M B v H) (e : Ex H H') : StayV rs qs M B v H' := let ⟨p, ds, h1, h2, h3, h4⟩ := h; ⟨p, ds, h1, h2, LRw.ex h3 e, h4⟩
theorem spp_stays {x y : V} {rs qs : List Row} {n M : Nat} {H : Hp} (hx : Rws H x rs) (hy : Rws H y qs) (ho : OkRows n rs) (pm : qs.Perm rs) (hM : Stays rs qs M) : SpP sp_longest_of [x, y] H (StayV rs qs M H) := fun H1 e Q q _ =>
  ⟨x, y, rs, qs, n, rfl, hx.ex e, hy.ex e, ho, pm, fun p H2 np e2 ⟨ys, ds, lev, ahd, M', h1, h2, h3, h4, h5, h6, h7⟩ => q _ H2 e2 ⟨p, ds, rfl, fresh_back e np, ⟨p, ys, rfl, h1, h3⟩, h5, Chn.rise List.mem_cons_self h4, Chn.rise (List.mem_cons_of_mem _ List.mem_cons_self) h4, by
    rw [← Paired.length h3, h2]
    exact hM lev ahd M' h6 h7⟩⟩
theorem spp_falls {x y : V} {rs qs : List Row} {n M : Nat} {H : Hp} (hx : Rws H x rs) (hy : Rws H y qs) (ho : OkRows n rs) (pm : qs.Perm rs) (hM : Stays rs qs M) : SpP sp_falls [x, y] H (FallV rs qs M H) := fun H1 e Q q _ =>
  ⟨x, y, rs, qs, n, rfl, hx.ex e, hy.ex e, ho, pm, fun p H2 np e2 h => q _ H2 e2 ((h.v np ho.nd pm hM).back e)⟩
theorem Stays.of {rs qs : List Row} {M : Nat} {lev : Row → Nat} {ahd : Row → Option Row} (L : LevOn [rs, qs] rs lev ahd) (hM : IsCount rs lev M) : Stays rs qs M := fun lev' ahd' M' L' hM' => (count_unique L L' List.mem_cons_self hM hM').symm
theorem Stays.symm {rs qs : List Row} {M : Nat} {lev : Row → Nat} {ahd : Row → Option Row} (L : LevOn [rs, qs] rs lev ahd) (hM : IsCount rs lev M) (pm : qs.Perm rs) : Stays qs rs M := fun lev' ahd' M' L' hM' => by
  obtain ⟨c, c1, c2, c3, c4⟩ := chain_most L hM
  obtain ⟨d, d1, d2, d3, d4⟩ := chain_most L' hM'
  have a := chain_len L' hM' c2 c1 fun r hr => pm.mem_iff.mpr (c3 r hr)
  have b := chain_len L hM d2 d1 fun r hr => pm.mem_iff.mp (d3 r hr)
  omega
end Mv
/-! A list that is filled with data, beside a box. -/
namespace Mv
open PySem PySem.Spec PyProof.Rows L2 Evl
def Sp2 (p sb : Addr) (a : Addr) : Prop := a ≠ p ∧ a ≠ sb
def Bn (p sb : Addr) (H : Hp) (a : Addr) : Prop := Sp2 p sb a ∧ H a ≠ none
structure Gs (p sb : Addr) (H0 : Hp) (Dt : List (V × PyData)) (It : PyData → Prop) (n : Nat) (H : Hp) (zs : List V) : Prop where
  n0 : H0 sb = none
  ps : p ≠ sb
  eb : ExB p H0 H
  bx : BoxAt H p n
  l : H sb = some (.lst zs)
  it : ∀ v ∈ zs, ∃ d, Dx (Sp2 p sb) H v d ∧ It d
  dt : ∀ x ∈ Dt, Dx (Sp2 p sb) H x.1 x.2
theorem Dx.occ {S : Addr → Prop} {H : Hp} {v : V} {d : PyData} (h : Dx S H v d) : Dx (fun a => S a ∧ H a ≠ none) H v d := h.mv fun a o s ha => ⟨⟨s, fun z => by rw [z] at ha; cases ha⟩, ha⟩
section
variable {p sb : Addr} {H0 H H1 : Hp} {Dt : List (V × PyData)} {It : PyData → Prop} {n : Nat} {zs : List V} {v : V} {d : PyData}
theorem Gs.ex (G : Gs p sb H0 Dt It n H zs) (e : Ex H H1) : Gs p sb H0 Dt It n H1 zs := ⟨G.n0, G.ps, G.eb.trans (Ex.b e), G.bx.ex e, e _ _ G.l, fun v hv => let ⟨d, h1, h2⟩ := G.it v hv; ⟨d, h1.ex e, h2⟩, fun x hx => (G.dt x hx).ex e⟩
theorem Gs.app (G : Gs p sb H0 Dt It n H zs) (hv : Dx (Sp2 p sb) H v d) (hd : It d) : Gs p sb H0 Dt It n (upd H sb (.lst (zs ++ [v]))) (zs ++ [v]) := by
  have st : ∀ {o}, ∀ a o', Sp2 p sb a → H a = some o' → Sp2 p sb a ∧ upd H sb o a = some o' := fun a o' s h => ⟨s, by rw [upd_ne s.2]; exact h⟩
  refine ⟨G.n0, G.ps, G.eb.mut G.n0, G.bx.upd G.ps, upd_same, fun u hu => ?_, fun x hx => (G.dt x hx).mv st⟩
  rcases List.mem_append.mp hu with hu | hu
  · obtain ⟨e, h1, h2⟩ := G.it u hu
    exact ⟨e, h1.mv st, h2⟩
  · rw [List.mem_singleton.mp hu]
    exact ⟨d, hv.mv st, hd⟩
theorem Gs.box {m : Nat} (G : Gs p sb H0 Dt It n H zs) (e : ExB p H H1) (hB : BoxAt H1 p m) : Gs p sb H0 Dt It m H1 zs := by
  have st : ∀ a o', Sp2 p sb a → H a = some o' → Sp2 p sb a ∧ H1 a = some o' := fun a o' s h => ⟨s, e _ _ s.1 h⟩
  exact ⟨G.n0, G.ps, G.eb.trans e, hB, e _ _ (Ne.symm G.ps) G.l, fun u hu => let ⟨d, h1, h2⟩ := G.it u hu; ⟨d, h1.mv st, h2⟩, fun x hx => (G.dt x hx).mv st⟩
variable {K : PySem.W.Frag} {σ : L2.St} {ta te tb : TE} {D : Ends} {tz : TS}
theorem Gs.var {i : Nat} {x : V} (G : Gs p sb H0 Dt It n H zs) (hx : (x, d) ∈ Dt) (h : σ[i]? = some (some x)) : EvN (Bn p sb H) (tVar i) σ H d := en_var h (G.dt _ hx).occ
theorem Gs.nb (G : Gs p sb H0 Dt It n H zs) : ∀ a, NB (Bn p sb H) H a → Sp2 p sb a := fun a h => by
  rcases h with h | h
  · exact h.1
  · exact ⟨fun z => G.bx.some (z ▸ h), fun z => by rw [z, G.l] at h; cases h⟩
/-- l.append(e) -/
theorem q_appGs (G : Gs p sb H0 Dt It n H zs) (ha : Ev ta σ H (.ref sb)) (h : EvN (Bn p sb H) te σ H d) (hd : It d) (hz : zs.length < 100000) (k : ∀ v H', Gs p sb H0 Dt It n H' (zs ++ [v]) → tz D σ H') : tSeq (tDrop (tBM K "list" rAppend ta (tCons te tNil))) tz D σ H :=
  q_appN G.l ha h hz fun v H1 e1 hv => k v _ ((G.ex e1).app (hv.wk G.nb) hd)
theorem s_appGs (G : Gs p sb H0 Dt It n H zs) (ha : Ev ta σ H (.ref sb)) (h : EvN (Bn p sb H) te σ H d) (hd : It d) (hz : zs.length < 100000) (k : ∀ v H', Gs p sb H0 Dt It n H' (zs ++ [v]) → D.nx σ H') : tDrop (tBM K "list" rAppend ta (tCons te tNil)) D σ H :=
  ha H (Ex.refl H) _ fun H1 e1 => ⟨.inl ⟨rfl, zs, sq_of (e1 _ _ G.l)⟩, h H1 e1 _ fun v H2 e2 hv => ⟨sb, zs, v, rfl, rfl, (e1.trans e2) _ _ G.l, sz_lt hz, k v _ ((G.ex (e1.trans e2)).app ((hv.wk (NB.up e1)).wk G.nb) hd)⟩⟩
theorem bn_ne (a : Addr) (h : Bn p sb H a) : H a ≠ none := h.2
theorem IsRow.dx {S : Addr → Prop} {x : V} {r : Row} (h : IsRow H x r) (hS : ∀ a xs, H a = some (.tup xs) → S a) : Dx S H x (rd r) := by
  obtain ⟨b, rfl, hb⟩ := h
  refine .tup (hS _ _ hb) hb ?_
  have : ∀ r : Row, DxAll S H (r.map V.int) (r.map PyData.int) := by
    intro r
    induction r with
    | nil => exact .nil
    | cons i r ih => exact .cons (.int i) ih
  exact this r
theorem rows_dx {S : Addr → Prop} (hS : ∀ a xs, H a = some (.tup xs) → S a) : ∀ {xs : List V} {cs : List Row}, Paired (IsRow H) xs cs → DxAll S H xs (cs.map rd)
  | _, [], .nil => .nil
  | _, c :: cs, .cons h t => .cons (h.dx hS) (rows_dx hS t)
theorem Dx.lrw {S : Addr → Prop} {x : V} {cs : List Row} (h : Dx S H x (rl cs)) : LRw H x cs := by
  obtain ⟨a, xs, rfl, _, h1, h2⟩ := h.lst'
  exact ⟨a, xs, rfl, h1, da_rows h2.da⟩
theorem Dx.row {S : Addr → Prop} {x : V} {r : Row} (h : Dx S H x (rd r)) : IsRow H x r := h.da.row
/-! slices with constant bounds -/
theorem en_to {B : Addr → Prop} {ds : List PyData} {k : Nat} {t : TE} (h : EvN B ta σ H (.list ds)) (hk : Ev t σ H (.int (k : Int))) : EvN B (tSl (rSlL K) ta tNoPart (tPart t)) σ H (.list (ds.take k)) :=
  en_sl h eo_none (eo_some hk) (by
    rw [HT.sIx_nat, HT.sIx_none, List.drop_zero, Nat.sub_zero]
    by_cases z : k ≤ ds.length
    · rw [Nat.min_eq_left z]
    · rw [Nat.min_eq_right (by omega), List.take_length, List.take_of_length_le (by omega)])
theorem en_from {B : Addr → Prop} {ds : List PyData} {k : Nat} {t : TE} (h : EvN B ta σ H (.list ds)) (hk : Ev t σ H (.int (k : Int))) : EvN B (tSl (rSlL K) ta (tPart t) tNoPart) σ H (.list (ds.drop k)) :=
  en_sl h (eo_some hk) eo_none (by
    rw [HT.sIx_nat, HT.sIx_none]
    by_cases z : k ≤ ds.length
    · rw [Nat.min_eq_left z, List.take_of_length_le (by rw [List.length_drop]; omega)]
    · rw [Nat.min_eq_right (by omega), Nat.sub_self, List.take_zero, List.drop_of_length_le (by omega)])
theorem ev_neg {i : Int} (h : Ev ta σ H (.int i)) : Ev (tUn (rU fun i => .int (-i)) ta) σ H (.int (-i)) := fun H1 e Q q => h H1 e _ fun H2 e2 => ⟨i, rfl, q H2 e2⟩
theorem en_butlast {B : Addr → Prop} {ds : List PyData} {d : PyData} {t : TE} (h : EvN B ta σ H (.list (ds ++ [d]))) (hk : Ev t σ H (.int (-1))) : EvN B (tSl (rSlL K) ta tNoPart (tPart t)) σ H (.list ds) :=
  en_sl h eo_none (eo_some hk) (by
    have z : HT.sIx (ds ++ [d]).length (ds ++ [d]).length (some (-1)) = ds.length := by
      show (if (-1 : Int) < 0 then ((-1 : Int) + ((ds ++ [d]).length : Int)).toNat else (min (-1 : Int).toNat (ds ++ [d]).length)) = _
      rw [if_pos (by decide), List.length_append, List.length_singleton]
      omega
    rw [z, HT.sIx_none, List.drop_zero, Nat.sub_zero, List.take_left])
theorem ev_last {B : Addr → Prop} {ds : List PyData} {d : PyData} {t : TE} (h : EvN B ta σ H (.list (ds ++ [d]))) (hk : Ev t σ H (.int (-1))) : EvN B (tOp (rIxL K) ta t) σ H d := en_ixL h hk (atI_last ds d)
end
/-! shapes -/
def lg (g : Row → PyData) (L : List Row) : PyData := .list (L.map g)
def ll (g : Row → PyData) (Ls : List (List Row)) : PyData := .list (Ls.map (lg g))
def lrow (r : Row) : PyData := .list (r.map PyData.int)
theorem lrow_smp (r : Row) (h : r.length ≤ 1000) : Smp (lrow r) := ⟨by
  unfold lrow
  rw [nod, nodAll_iff]
  intro d hd
  obtain ⟨i, _, rfl⟩ := List.mem_map.mp hd
  rfl, shaped_ints r, fun es e => by cases e; rw [List.length_map]; exact h⟩
theorem dom_lg {g : Row → PyData} {L : List Row} (h : L.length ≤ 1000) (hg : ∀ r ∈ L, Smp (g r)) : DomS (lg g L) := fun ds e => by
  cases e
  refine ⟨by rw [List.length_map]; exact h, fun x hx => ?_⟩
  obtain ⟨r, hr, rfl⟩ := List.mem_map.mp hx
  exact hg r hr
theorem flat_ll (g : Row → PyData) : ∀ Ls : List (List Row), (flatD (Ls.map (lg g))).length = Ls.flatten.length
  | [] => rfl
  | L :: Ls => by
    have z : flatD ((L :: Ls).map (lg g)) = L.map g ++ flatD (Ls.map (lg g)) := rfl
    rw [z, List.length_append, List.length_map, flat_ll g Ls, List.flatten_cons, List.length_append]
theorem dom_ll {g : Row → PyData} {Ls : List (List Row)} (h1 : Ls.length ≤ 1000) (h2 : Ls.flatten.length < 64) (hg : ∀ r ∈ Ls.flatten, Smp (g r)) : DomP (ll g Ls) := fun ds e => by
  cases e
  refine ⟨by rw [List.length_map]; exact h1, by rw [flat_ll]; exact h2, fun x hx => ?_⟩
  obtain ⟨L, hL, rfl⟩ := List.mem_map.mp hx
  have := len_flat hL
  exact dom_lg (by omega) fun r hr => hg r (List.mem_flatten.mpr ⟨L, hL, hr⟩)
/-- as few parts as rows can stay -/
theorem fits_own {rs qs ds : List Row} {Ls : List (List Row)} (hc : ∀ r ∈ ds, r ∈ rs) (r1 : Rise rs ds) (r2 : Rise qs ds) (pm : qs.Perm rs) (hl : Ls.length = ds.length) (hp : Ls.flatten.Perm rs) (ok : ∀ L ∈ Ls, L ≠ [] ∧ RisesC rs L ∧ RisesC qs L.reverse) : FitsD rs qs (rl ds) (ll rd Ls) := by
  refine ⟨⟨ds, rfl, hc, r1⟩, ⟨ds, rfl, fun r hr => pm.mem_iff.mpr (hc r hr), r2⟩, _, _, rfl, rfl, by rw [List.length_map, List.length_map, hl], fun d hd => ?_, Ls, ?_, hp⟩
  · obtain ⟨L, hL, rfl⟩ := List.mem_map.mp hd
    obtain ⟨o1, o2, o3⟩ := ok L hL
    exact ⟨L, rfl, o1, o2, o3⟩
  · clear hl hp ok
    induction Ls with
    | nil => exact .nil
    | cons L Ls ih => exact .cons rfl ih
end Mv
/-! What _law_own_right makes of parts and moves. -/
namespace Mv
open PySem PySem.Spec PyProof.Rows L2 Evl
theorem call_repr_bool {X : Cx} : CallR X (.builtin "repr") (fun xs H Q => ∃ b, xs = [.bl b] ∧ Q (.str (if b then "True" else "False")) H) := by
  intro pins s σ H xs us Q I r h
  obtain ⟨b, rfl, q⟩ := h
  cases r with
  | cons ra rt =>
    cases rt
    cases ra
    exact PySem.P.repr_of_bool ⟨.str _, H, I.tok _, ⟨_, rfl⟩, q⟩
def mvd (m : Move) : PyData := .tuple [rd m.1, oD m.2]
section
variable {K : PySem.W.Frag} {σ : L2.St} {H : Hp} {ta tb te : TE} {x : V} {B : Addr → Prop}
theorem ev_reprB {b : Bool} (h : Ev ta σ H (.bl b)) : Ev (tCB (fun xs H Q => ∃ b, xs = [V.bl b] ∧ Q (.str (if b then "True" else "False")) H) (tCons ta tNil)) σ H (.str (if b then "True" else "False")) := fun H1 e Q q =>
  h H1 e _ fun H2 e2 => ⟨b, rfl, q H2 e2⟩
theorem LRw.dx {S : Addr → Prop} {rs : List Row} (h : LRw H x rs) (hS : ∀ a xs, H a = some (.tup xs) → S a) (hx : ∀ a, x = .ref a → S a) : Dx S H x (rl rs) := by
  obtain ⟨a, xs, rfl, h1, h2⟩ := h
  exact .lst (hx _ rfl) h1 (rows_dx hS h2)
theorem IsMv.dx {S : Addr → Prop} {m : Move} (h : IsMv H x m.1 m.2) (hS : ∀ a xs, H a = some (.tup xs) → S a) : Dx S H x (mvd m) := by
  obtain ⟨a, vr, vo, rfl, h1, h2, h3⟩ := h
  refine .tup (hS _ _ h1) h1 (.cons (h2.dx hS) (.cons ?_ .nil))
  cases ho : m.2 with
  | none =>
    rw [ho] at h3
    cases (show vo = .non from h3)
    exact .non
  | some q =>
    rw [ho] at h3
    exact IsRow.dx h3 hS
theorem moves_dx {S : Addr → Prop} (hS : ∀ a xs, H a = some (.tup xs) → S a) : ∀ {xs : List V} {ms : List Move}, MvAll H xs ms → DxAll S H xs (ms.map mvd)
  | _, [], .nil => .nil
  | _, m :: ms, .cons h t => .cons (IsMv.dx h hS) (moves_dx hS t)
theorem mv_parts {m : Move} (h : Dx B H x (mvd m)) : ∃ a v1 v2, x = .ref a ∧ H a = some (.tup [v1, v2]) ∧ Dx B H v1 (rd m.1) ∧ Dx B H v2 (oD m.2) := by
  obtain ⟨a, xs, rfl, _, h1, h2⟩ := Dx.tup' h
  cases h2 with
  | cons g1 t =>
    cases t with
    | cons g2 t =>
      cases t
      exact ⟨a, _, _, rfl, h1, g1, g2⟩
/-- (k,) * width -/
theorem en_rep {i : Int} {w : Nat} (hb : Ev tb σ H (.int (w : Int))) (h1 : 1 ≤ w) (h5 : w ≤ 5) : EvN B (tOp (rRepU K) (tTup (tCons (tC (.int i)) tNil)) tb) σ H (rd (List.replicate w i)) := fun H1 e Q q =>
  ⟨sz_of (show 1 ≤ 100000 by decide), fun t ht => by
    have e3 : Ex H1 (upd H1 t (.tup [.int i])) := Ex.new ht
    refine hb _ (e.trans e3) _ fun H4 e4 => ?_
    have g := e4 _ _ (upd_same (H := H1) (a := t) (o := .tup [.int i]))
    refine ⟨t, (w : Int), [.int i], rfl, rfl, st_of g, by simp, by omega, by omega, show 1 ≤ 1000 by decide, fun hw => ?_, fun hw p hp => ?_⟩
    · have e1 : w = 1 := by omega
      subst e1
      exact q _ _ (e3.trans e4) (.tup (.inr ht) g (.cons (.int i) .nil))
    · have ee : (List.replicate w [V.int i]).flatten = (List.replicate w i).map V.int := by
        clear q e4 g hw h1 h5 hb
        induction w with
        | zero => rfl
        | succ w ih => rw [List.replicate_succ, List.flatten_cons, ih, List.replicate_succ, List.map_cons] <;> rfl
      refine q _ _ ((e3.trans e4).trans (Ex.new hp)) (.tup (.inr (fresh_back (e3.trans e4) hp)) (by rw [upd_same, Int.toNat_natCast, ee]) (da_ints_dx _))⟩
where
  da_ints_dx {S : Addr → Prop} {H : Hp} : ∀ r : Row, DxAll S H (r.map V.int) (r.map PyData.int)
    | [] => .nil
    | i :: r => .cons (.int i) (da_ints_dx r)
end
/-! moves that are turned otherwise -/
theorem domL_of {es : List PyData} (h : es.length ≤ 1000) (he : ∀ e ∈ es, DomM e) : DomL (.list es) := fun ds e => by
  cases e
  exact ⟨h, he⟩
theorem oD_smp {o : Option Row} (h : ∀ q, o = some q → q.length ≤ 1000) : Smp (oD o) ∧ (oD o = .none ∨ ∃ es, seqD (oD o) = some es) := by
  cases o with
  | none => exact ⟨⟨rfl, by decide +kernel, fun es e => by cases e⟩, .inl rfl⟩
  | some q => exact ⟨Smp.row q (h q rfl), .inr ⟨_, rfl⟩⟩
def ot : Option Row → PyData
  | none => .none
  | some q => trow q
theorem ot_smp {o : Option Row} (h : ∀ q, o = some q → q.length ≤ 1000) : Smp (ot o) ∧ (ot o = .none ∨ ∃ es, seqD (ot o) = some es) := by
  cases o with
  | none => exact ⟨⟨rfl, by decide +kernel, fun es e => by cases e⟩, .inl rfl⟩
  | some q => exact ⟨trow_smp q (h q rfl), .inr ⟨_, rfl⟩⟩
theorem domM_two {a b : PyData} (ha : Smp a) (hb : Smp b ∧ (b = .none ∨ ∃ es, seqD b = some es)) : DomM (.tuple [a, b]) := fun a' b' e => by
  cases e
  exact ⟨ha, hb.1, fun _ => hb.2⟩
theorem domM_lst {ds : List PyData} : DomM (.list ds) := fun a b e => by cases e
end Mv
set_option maxHeartbeats 1000000
/-! _law_own_right. -/
namespace Mv
open PySem PySem.Spec PyProof.Rows L2 Evl
theorem given_mem {f : Nat → Bool} {v : Nat → V} {n : Nat} {x : V} (h : x ∈ given n f v) : ∃ i, i < n ∧ f i = true ∧ x = v i := by
  unfold given at h
  obtain ⟨i, hi, rfl⟩ := List.mem_map.mp h
  obtain ⟨h1, h2⟩ := List.mem_filter.mp hi
  exact ⟨i, List.mem_range.mp h1, h2, rfl⟩
theorem q_lstN {B : Addr → Prop} {σ : L2.St} {H : Hp} {t : TA} {D : Ends} {tz : TS} {i : Nat} {ds : List PyData} (h : EvNs B t σ H ds) (hl : ds.length ≤ 100000) (k : ∀ p vs H1, Ex H H1 → H1 p = none → DxAll (NB B H) H1 vs ds → tz D (σ.set i (some (.ref p))) (upd H1 p (.lst vs))) : tSeq (tAsg (tLst t) (gName i)) tz D σ H :=
  h H (Ex.refl H) _ fun vs H1 e1 hv => ⟨by rw [Paired.length hv.p]; exact sz_of hl, fun p hp => k p vs H1 e1 hp hv⟩
section
variable {P : Program} {w : World} {K : PySem.W.Frag} {mg : Str → Option Value} {base : Heap} {a : Nat → Addr} {d : Nat → FuncData} {tk : Nat → Tok}
def PairD (d : PyData) : Prop := ∃ d1 d2, d = .list [d1, d2] ∧ DomS d1 ∧ DomP d2
def sp__law_own_right : Sp := fun vs H Q _ => ∃ (p : Addr) (x y s : V) (rs qs ds : List Row) (n m : Nat), vs = [.ref p, x, y, s] ∧ LRw H x rs ∧ LRw H y qs ∧ LRw H s ds ∧ OkRows n rs ∧ qs.Perm rs ∧ rs.length ≤ 25 ∧ (∀ r ∈ ds, r ∈ rs) ∧ Rise rs ds ∧ Rise qs ds ∧ Stays rs qs ds.length ∧ BoxAt H p m ∧ m ≤ 90000 ∧
  ∀ H2, ExB p H H2 → BoxAt H2 p (m + 10) → Q (.bl true) H2
theorem ok__law_own_right (T : All K mg a d tk) : FnOk P w K mg base CX0 8 (a 33) (d 33) ["box", "first", "second", "still"] sp__law_own_right := by
  refine T.F__law_own_right.fn.ok sc__law_own_right (fun vs H Q E h => ?_) (fun cdv A outer s H vs Q E hr h => ?_)
  · obtain ⟨p, x, y, s, rs, qs, ds, n, m, rfl, _⟩ := h
    rfl
  · obtain ⟨p, x, y, sv, rs, qs, ds, n, m, rfl, hx, hy, hsv, ho, pm, h25, hds, r1, r2, hSt, hB, hm, k⟩ := h
    have nd := sc__law_own_right.nd
    have hu0 := hr.units0
    have hu64 := hr.units
    have oq := ho.perm pm
    refine ⟨_, (pss_cons (ps_asg (pe_tup (pa_cons (pe_call (ok__law_parts T) (hr.mono (by decide)) rfl T.F__law_parts.m T.F__law_parts.kp T.F__law_parts.b .nil pass0 (pa_cons (pv 1) (pa_cons (pv 2) pa_nil))) (pa_cons (pe_call (ok_plan_moves T) (hr.mono (by decide)) rfl T.F_plan_moves.m T.F_plan_moves.kp T.F_plan_moves.b .nil pass0 (pa_cons (pv 1) (pa_cons (pv 2) pa_nil))) pa_nil))) (pg_tup rfl (pgs_cons (pg_name (i := 4) nd rfl (Or.inr rfl)) (pgs_cons (pg_name (i := 5) nd rfl (Or.inl rfl)) pgs_nil))) (hw := by rfl))
 (pss_cons (ps_if (PW.pt (pw_or (pt_cmpR op_ne (pe_callB call_len_seq (by rfl) T.n_len PySem.boot_len (pa_cons (pv 4) pa_nil)) (pe_callB call_len_seq (by rfl) T.n_len PySem.boot_len (pa_cons (pv 3) pa_nil)) (nomark _)) (pw_or1 (pt_cmpR op_ne (pe_callB call_repr_bool (by rfl) T.n_repr PyProof.Rows.boot_repr (pa_cons (pe_call (ok_check_papers T) (hr.mono (by decide)) rfl T.F_check_papers.m T.F_check_papers.kp T.F_check_papers.b .nil pass0 (pa_cons (pv 1) (pa_cons (pv 2) (pa_cons (pv 3) (pa_cons (pv 4) pa_nil))))) pa_nil)) pe_str (nomark _)))))
 (pss_one (ps_ret pe_bl))
 pss_nil)
 (pss_cons (ps_set (i := 6) nd rfl (Or.inl rfl) (pe_lst pa_nil))
 (pss_cut (ps_if (pt_cmpR (op_neNil hu0) (pv 4) (pe_lst pa_nil) (nomark _))
 (pss_cons (ps_expr (pe_bm PySem.F.plainAttrs_list PySem.F.slot_list_append PySem.F.type_list_append mt_append (pv 6) (pa_cons (pe_lst (pa_cons (pv 3) (pa_cons (pe_op op_cat (pe_slice sl_list (pv 4) po_none (po_some (pe_un un_neg pe_int))) (pe_lst (pa_cons (pe_slice sl_list (pe_ix ix_list (pv 4) (pe_un un_neg pe_int) (fun _ _ => rfl)) po_none (po_some pe_int)) (pa_cons (pe_slice sl_list (pe_ix ix_list (pv 4) (pe_un un_neg pe_int) (fun _ _ => rfl)) (po_some pe_int) po_none) pa_nil)))) pa_nil))) pa_nil)))
 (pss_one (ps_expr (pe_bm PySem.F.plainAttrs_list PySem.F.slot_list_append PySem.F.type_list_append mt_append (pv 6) (pa_cons (pe_lst (pa_cons (pe_op op_cat (pe_slice sl_list (pv 3) po_none (po_some pe_int)) (pv 3)) (pa_cons (pe_op op_cat (pv 4) (pe_lst (pa_cons (pe_ix ix_list (pv 4) (pe_un un_neg pe_int) (fun _ _ => rfl)) pa_nil))) pa_nil))) pa_nil)))))
 pss_nil)
 (pss_cons (ps_expr (pe_bm PySem.F.plainAttrs_list PySem.F.slot_list_append PySem.F.type_list_append mt_append (pv 6) (pa_cons (pe_lst (pa_cons (pe_lc (own := [("row", 13)]) (g := (gName 13)) rfl nd (pi_list (pv 3)) (blkOk_by (N := N__law_own_right) (sc := defScope s__law_own_right) (by decide +kernel)) (fun _ _ _ _ _ => (pg_name (i := 13) nd rfl (Or.inl rfl))) (fun _ _ _ _ _ => pts_nil) (fun _ _ _ _ _ => (pe_call (ok__law_turned T) (hr.mono (by decide)) rfl T.F__law_turned.m T.F__law_turned.kp T.F__law_turned.b .nil pass0 (pa_cons (pv 13) pa_nil)))) (pa_cons (pv 4) pa_nil))) pa_nil)))
 (pss_cons (ps_expr (pe_bm PySem.F.plainAttrs_list PySem.F.slot_list_append PySem.F.type_list_append mt_append (pv 6) (pa_cons (pe_lst (pa_cons (pv 3) (pa_cons (pe_lc (own := [("rows", 14)]) (g := (gName 14)) rfl nd (pi_list (pv 4)) (blkOk_by (N := N__law_own_right) (sc := defScope s__law_own_right) (by decide +kernel)) (fun _ _ _ _ _ => (pg_name (i := 14) nd rfl (Or.inl rfl))) (fun _ _ _ _ _ => pts_nil) (fun _ _ _ _ _ => (pe_lc (own := [("row", 13)]) (g := (gName 13)) rfl nd (pi_listK (K := K) rfl (pv 14)) (blkOk_by (N := N__law_own_right) (sc := relS _ (defScope s__law_own_right)) (by decide +kernel)) (fun _ _ _ _ _ => (pg_name (i := 13) nd rfl (Or.inl rfl))) (fun _ _ _ _ _ => pts_nil) (fun _ _ _ _ _ => (pe_call (ok__law_turned T) (hr.mono (by decide)) rfl T.F__law_turned.m T.F__law_turned.kp T.F__law_turned.b .nil pass0 (pa_cons (pv 13) pa_nil)))))) pa_nil))) pa_nil)))
 (pss_cons (ps_expr (pe_bm PySem.F.plainAttrs_list PySem.F.slot_list_append PySem.F.type_list_append mt_append (pv 6) (pa_cons (pe_lst (pa_cons (pv 3) (pa_cons (pe_lc (own := [("rows", 14)]) (g := (gName 14)) rfl nd (pi_list (pv 4)) (blkOk_by (N := N__law_own_right) (sc := defScope s__law_own_right) (by decide +kernel)) (fun _ _ _ _ _ => (pg_name (i := 14) nd rfl (Or.inl rfl))) (fun _ _ _ _ _ => pts_nil) (fun _ _ _ _ _ => (pe_lc (own := [("row", 13)]) (g := (gName 13)) rfl nd (pi_listK (K := K) rfl (pv 14)) (blkOk_by (N := N__law_own_right) (sc := relS _ (defScope s__law_own_right)) (by decide +kernel)) (fun _ _ _ _ _ => (pg_name (i := 13) nd rfl (Or.inl rfl))) (fun _ _ _ _ _ => pts_nil) (fun _ _ _ _ _ => (pe_callTy (show CallR _ (.type "list") (Evl.rListS K) from call_list_of) rfl T.n_list PyProof.Rows.boot_list (pa_cons (pv 13) pa_nil)))))) pa_nil))) pa_nil)))
 (pss_cons (ps_expr (pe_bm PySem.F.plainAttrs_list PySem.F.slot_list_append PySem.F.type_list_append mt_append (pv 6) (pa_cons (pe_lst (pa_cons (pe_lc (own := [("row", 13)]) (g := (gName 13)) rfl nd (pi_list (pv 3)) (blkOk_by (N := N__law_own_right) (sc := defScope s__law_own_right) (by decide +kernel)) (fun _ _ _ _ _ => (pg_name (i := 13) nd rfl (Or.inl rfl))) (fun _ _ _ _ _ => pts_nil) (fun _ _ _ _ _ => (pe_callTy (show CallR _ (.type "list") (Evl.rListS K) from call_list_of) rfl T.n_list PyProof.Rows.boot_list (pa_cons (pv 13) pa_nil)))) (pa_cons (pv 4) pa_nil))) pa_nil)))
 (pss_cons (ps_setLc (i := 7) (own := [("at", 8)]) (g := (gName 8)) rfl nd rfl rfl (sw_true rfl rfl rfl (by decide +kernel)) (pi_range1 rfl T.n_range (pa_cons (pe_callB call_len_seq (by rfl) T.n_len PySem.boot_len (pa_cons (pv 4) pa_nil)) pa_nil)) (blkOk_by (N := N__law_own_right) (sc := defScope s__law_own_right) (by decide +kernel)) (fun _ _ _ _ _ => (pg_name (i := 8) nd rfl (Or.inl rfl))) (fun _ _ _ _ _ => (pts_one (pt_cmpR op_gt (pe_callB (show CallR _ (.builtin "len") (Evl.rLenS K) from call_len_seq) (by rfl) T.n_len PySem.boot_len (pa_cons (pe_ix (show IxR _ (rIxL K) from ix_list) (pv 4) (pv 8) (fun _ _ => rfl)) pa_nil)) pe_int (nomark _)))) (fun _ _ _ _ _ => (pv 8)))
 (pss_cut (ps_if (pt_cmpR (op_neNil hu0) (pv 7) (pe_lst pa_nil) (nomark _))
 (pss_cons (ps_set (i := 8) nd rfl (Or.inl rfl) (pe_ix ix_list (pv 7) (pe_call (ok__law_take T) (hr.mono (by decide)) rfl T.F__law_take.m T.F__law_take.kp T.F__law_take.b .nil pass0 (pa_cons (pv 0) (pa_cons (pe_callB call_len_seq (by rfl) T.n_len PySem.boot_len (pa_cons (pv 7) pa_nil)) pa_nil))) (fun _ _ => rfl)))
 (pss_cons (ps_set (i := 9) nd rfl (Or.inl rfl) (pe_op op_cat (pe_op op_cat (pe_slice sl_list (pv 4) po_none (po_some (pv 8))) (pe_lst (pa_cons (pe_slice sl_list (pe_ix ix_list (pv 4) (pv 8) (fun _ _ => rfl)) po_none (po_some pe_int)) (pa_cons (pe_slice sl_list (pe_ix ix_list (pv 4) (pv 8) (fun _ _ => rfl)) (po_some pe_int) po_none) pa_nil)))) (pe_slice sl_list (pv 4) (po_some (pe_op op_add (pv 8) pe_int)) po_none)))
 (pss_one (ps_expr (pe_bm PySem.F.plainAttrs_list PySem.F.slot_list_append PySem.F.type_list_append mt_append (pv 6) (pa_cons (pe_lst (pa_cons (pe_op op_cat (pe_slice sl_list (pv 3) po_none (po_some pe_int)) (pv 3)) (pa_cons (pv 9) pa_nil))) pa_nil))))))
 pss_nil)
 (pss_cons (ps_for PassesOwn.never rfl (pi_list (pv 6)) (pg_unl rfl (pgs_cons (pg_name (i := 10) nd rfl (Or.inl rfl)) (pgs_cons (pg_name (i := 11) nd rfl (Or.inl rfl)) pgs_nil)))
 (pss_one (ps_if (pt_cmpR op_ne (pe_callB call_repr_bool (by rfl) T.n_repr PyProof.Rows.boot_repr (pa_cons (pe_call (ok_check_papers T) (hr.mono (by decide)) rfl T.F_check_papers.m T.F_check_papers.kp T.F_check_papers.b .nil pass0 (pa_cons (pv 1) (pa_cons (pv 2) (pa_cons (pv 10) (pa_cons (pv 11) pa_nil))))) pa_nil)) (pe_callB call_repr_bool (by rfl) T.n_repr PyProof.Rows.boot_repr (pa_cons (pe_call (ok__law_fits T) (hr.mono (by decide)) rfl T.F__law_fits.m T.F__law_fits.kp T.F__law_fits.b .nil pass0 (pa_cons (pv 1) (pa_cons (pv 2) (pa_cons (pv 10) (pa_cons (pv 11) pa_nil))))) pa_nil)) (nomark _))
 (pss_one (ps_ret pe_bl))
 pss_nil)))
 (pss_cons (ps_set (i := 12) nd rfl (Or.inl rfl) (pe_lst (pa_cons (pe_lc (own := [("move", 15)]) (g := (gName 15)) rfl nd (pi_list (pv 5)) (blkOk_by (N := N__law_own_right) (sc := defScope s__law_own_right) (by decide +kernel)) (fun _ _ _ _ _ => (pg_name (i := 15) nd rfl (Or.inl rfl))) (fun _ _ _ _ _ => pts_nil) (fun _ _ _ _ _ => (pe_tup (pa_cons (pe_call (ok__law_turned T) (hr.mono (by decide)) rfl T.F__law_turned.m T.F__law_turned.kp T.F__law_turned.b .nil pass0 (pa_cons (pe_ix (show IxR _ (rIx K) from ix_seq) (pv 15) pe_int (fun _ _ => rfl)) pa_nil)) (pa_cons (pe_ix (show IxR _ (rIx K) from ix_seq) (pv 15) pe_int (fun _ _ => rfl)) pa_nil))))) (pa_cons (pe_lc (own := [("move", 15)]) (g := (gName 15)) rfl nd (pi_list (pv 5)) (blkOk_by (N := N__law_own_right) (sc := defScope s__law_own_right) (by decide +kernel)) (fun _ _ _ _ _ => (pg_name (i := 15) nd rfl (Or.inl rfl))) (fun _ _ _ _ _ => pts_nil) (fun _ _ _ _ _ => (pe_callTy (show CallR _ (.type "list") (Evl.rListS K) from call_list_of) rfl T.n_list PyProof.Rows.boot_list (pa_cons (pv 15) pa_nil)))) pa_nil))))
 (pss_cons (ps_expr (pe_bm PySem.F.plainAttrs_list PySem.F.slot_list_append PySem.F.type_list_append mt_append (pv 12) (pa_cons (pe_lc (own := [("move", 15)]) (g := (gName 15)) rfl nd (pi_list (pv 5)) (blkOk_by (N := N__law_own_right) (sc := defScope s__law_own_right) (by decide +kernel)) (fun _ _ _ _ _ => (pg_name (i := 15) nd rfl (Or.inl rfl))) (fun _ _ _ _ _ => pts_nil) (fun _ _ _ _ _ => (pe_tup (pa_cons (pe_ix (show IxR _ (rIx K) from ix_seq) (pv 15) pe_int (fun _ _ => rfl)) (pa_cons (pe_op (show OpR _ (binaryOp .Mult) (rRepU K) from op_repU) (pe_tup (pa_cons pe_int pa_nil)) (pe_callB (show CallR _ (.builtin "len") (Evl.rLenS K) from call_len_seq) (by rfl) T.n_len PySem.boot_len (pa_cons (pe_ix (show IxR _ (rIx K) from ix_seq) (pv 15) pe_int (fun _ _ => rfl)) pa_nil))) pa_nil))))) pa_nil)))
 (pss_cons (ps_expr (pe_bm PySem.F.plainAttrs_list PySem.F.slot_list_append PySem.F.type_list_append mt_append (pv 12) (pa_cons (pe_lc (own := [("move", 15)]) (g := (gName 15)) rfl nd (pi_list (pv 5)) (blkOk_by (N := N__law_own_right) (sc := defScope s__law_own_right) (by decide +kernel)) (fun _ _ _ _ _ => (pg_name (i := 15) nd rfl (Or.inl rfl))) (fun _ _ _ _ _ => pts_nil) (fun _ _ _ _ _ => (pe_tup (pa_cons (pe_ix (show IxR _ (rIx K) from ix_seq) (pv 15) pe_int (fun _ _ => rfl)) (pa_cons (pe_ifExp (pt_cmp (pc_isN (pe_ix (show IxR _ (rIx K) from ix_seq) (pv 15) pe_int (fun _ _ => rfl)))) pe_non (pe_call (ok__law_turned T) (hr.mono (by decide)) rfl T.F__law_turned.m T.F__law_turned.kp T.F__law_turned.b .nil pass0 (pa_cons (pe_ix (show IxR _ (rIx K) from ix_seq) (pv 15) pe_int (fun _ _ => rfl)) pa_nil))) pa_nil))))) pa_nil)))
 (pss_cons (ps_for PassesOwn.never rfl (pi_list (pv 12)) (pg_name (i := 10) nd rfl (Or.inl rfl))
 (pss_one (ps_if (pt_cmpR op_ne (pe_callB call_repr_bool (by rfl) T.n_repr PyProof.Rows.boot_repr (pa_cons (pe_call (ok_check_moves T) (hr.mono (by decide)) rfl T.F_check_moves.m T.F_check_moves.kp T.F_check_moves.b .nil pass0 (pa_cons (pv 1) (pa_cons (pv 2) (pa_cons (pv 10) pa_nil)))) pa_nil)) (pe_callB call_repr_bool (by rfl) T.n_repr PyProof.Rows.boot_repr (pa_cons (pe_call (ok__law_leads T) (hr.mono (by decide)) rfl T.F__law_leads.m T.F__law_leads.kp T.F__law_leads.b .nil pass0 (pa_cons (pv 1) (pa_cons (pv 2) (pa_cons (pv 10) pa_nil)))) pa_nil)) (nomark _))
 (pss_one (ps_ret pe_bl))
 pss_nil)))
 (pss_one (ps_ret pe_bl))))))))))))))))), ?_⟩
    have lds : ds.length ≤ rs.length := sub_len r1.nodup hds
    have rlen : ∀ r ∈ rs, r.length ≤ 1000 := fun r hr => ho.short hr
    refine ⟨x, rfl, y, rfl, x, y, rs, qs, n, rfl, hx, hy, ho, pm, fun q as Ls H1 nq e1 hq1 hAs hLs1 hPk => ⟨x, rfl, y, rfl, x, y, rs, qs, n, rfl, LRw.rws (LRw.ex hx e1), LRw.rws (LRw.ex hy e1), ho, pm, fun mp H2 nmp e2 hPl => ⟨sz_of (show 2 ≤ 100000 by decide), fun t nt => ?_⟩⟩⟩
    obtain ⟨zm, ms, lev, ahd, M, hmp2, hmv2, hok, hled, hL, hM, hlen, _⟩ := hPl
    have eT : Ex H2 (upd H2 t (.tup [.ref q, .ref mp])) := Ex.new nt
    refine ⟨t, _, rfl, st_of upd_same, rfl, _, _, rfl, _, _, rfl, rfl, ?_⟩
    have e3 : Ex H1 (upd H2 t (.tup [.ref q, .ref mp])) := e2.trans eT
    have hmp3 := eT _ _ hmp2
    have hmv3 := hmv2.ex eT
    generalize upd H2 t (.tup [.ref q, .ref mp]) = H3 at *
    have e03 := e1.trans e3
    have lPM := hPk.len hL hM
    have lSM := hSt lev ahd M hL hM
    have lPd : Ls.length = ds.length := by rw [lPM, lSM]
    have flL : Ls.flatten.length = rs.length := hPk.pm.length_eq
    have inL : ∀ r ∈ Ls.flatten, r ∈ rs := fun r hr => hPk.pm.mem_iff.mp hr
    have fit : FitsD rs qs (rl ds) (ll rd Ls) := fits_own hds r1 r2 pm lPd hPk.pm hPk.ok
    have dS : DomS (rl ds) := dom_lg (g := rd) (by omega) fun r hr => Smp.row r (rlen r (hds r hr))
    have dP : DomP (ll rd Ls) := dom_ll (by omega) (by omega) fun r hr => Smp.row r (rlen r (inL r hr))
    obtain ⟨sa, ss, rfl, hsa, hsp⟩ := id hsv
    have lss : ss.length = ds.length := Paired.length hsp
    have las : as.length = Ls.length := Paired.length hLs1
    have hq3 := e3 _ _ hq1
    have hLr : Paired (LRw H3) (as.map V.ref) Ls := paired_of (by rw [List.length_map]; exact las) fun i v L hv hL' => by
      rw [List.getElem?_map] at hv
      obtain ⟨b, hb, rfl⟩ := Option.map_eq_some_iff.mp hv
      obtain ⟨L2, hL2, zs, g1, g2⟩ := Paired.at_l hLs1 i b hb
      rw [hL'] at hL2
      cases hL2
      exact ⟨b, zs, rfl, e3 _ _ g1, Paired.imp (fun _ _ h => h.ex e3) g2⟩
    have dxP : ∀ {S : Addr → Prop} {H' : Hp}, Ex H3 H' → (∀ a xs, H' a = some (.tup xs) → S a) → S q → (∀ b ∈ as, S b) → Dx S H' (.ref q) (ll rd Ls) := by
      intro S H' e' hS hSq hSa
      refine .lst hSq (e' _ _ hq3) (.of ?_)
      refine paired_of (by rw [List.length_map, List.length_map]; exact las) fun i v dd hv hd => ?_
      rw [List.getElem?_map] at hd
      obtain ⟨L, hL', rfl⟩ := Option.map_eq_some_iff.mp hd
      obtain ⟨L2, hL2, hw⟩ := Paired.at_l hLr i v hv
      rw [hL'] at hL2
      cases hL2
      refine LRw.dx (LRw.ex hw e') hS fun b eb => ?_
      rw [List.getElem?_map] at hv
      obtain ⟨b', hb', eb'⟩ := Option.map_eq_some_iff.mp hv
      rw [eb] at eb'
      cases eb'
      exact hSa b (List.mem_of_getElem? hb')
    have cP : Ev (tCall sp_check_papers [] E0 (tCons (tVar 1) (tCons (tVar 2) (tCons (tVar 3) (tCons (tVar 4) tNil))))) [some (.ref p), some x, some y, some (.ref sa), some (.ref q), some (.ref mp), none, none, none, none, none, none, none, none, none, none] H3 (.bl true) := by
      have z := ev_call (E := E0) (σ := [some (.ref p), some x, some y, some (.ref sa), some (.ref q), some (.ref mp), none, none, none, none, none, none, none, none, none, none]) (H := H3) (ta := tCons (tVar 1) (tCons (tVar 2) (tCons (tVar 3) (tCons (tVar 4) tNil)))) (ea_cons (ev_var rfl) (ea_cons (ev_var rfl) (ea_cons (ev_var rfl) (ea_cons (ev_var rfl) ea_nil)))) (spv_papers (LRw.rws (LRw.ex hx e03)) (LRw.rws (LRw.ex hy e03)) ho pm (LRw.dx (S := fun _ => True) (LRw.ex hsv e03) (fun _ _ _ => True.intro) fun _ _ => True.intro).da (dxP (S := fun _ => True) (Ex.refl _) (fun _ _ _ => True.intro) True.intro fun _ _ => True.intro).da dS.one dP.two)
      rwa [rb_yes fit] at z
    refine q_when (b := false) (et_is (et_or (b := false) (et_test (ev_op (ev_lenS (ev_var rfl) (.inl hq3)) (ev_lenS (ev_var rfl) (.inl (e03 _ _ hsa))) (rv_ne rfl))) fun _ => et_is (et_test (ev_op (ev_reprB cP) ev_c (rv_ne rfl))) (by decide)) ?_) (fun h => nomatch h) fun _ H4 e4 => ?_
    · rw [List.length_map, las, lss, lPd, decide_eq_true rfl] <;> rfl
    refine q_asgL (el_lst ea_nil (Nat.zero_le _)) fun sb H5 nsb e5 hsb => ?_
    have e35 := e4.trans e5
    have e05 := e03.trans e35
    have nsbH : H sb = none := fresh_back (e03.trans e4) nsb
    have psb : p ≠ sb := hB.ne nsbH
    have hB5 := hB.ex e05
    have tupS : ∀ a xs, H5 a = some (.tup xs) → Sp2 p sb a := fun a xs h => ⟨fun z => (by obtain ⟨_, _, _, h2, _⟩ := hB5; rw [z, h2] at h; cases h), fun z => (by rw [z, hsb] at h; cases h)⟩
    have old : ∀ {b : Addr} {o : HO}, H4 b = some o → b ≠ sb := fun h z => by rw [z, nsb] at h; cases h
    have newp : ∀ {b : Addr}, H b = none → b ≠ p := fun h z => hB.some (z ▸ h)
    have rwS : ∀ {v : V} {cs : List Row}, LRw H v cs → ∀ a, v = .ref a → Sp2 p sb a := fun h a e => by
      obtain ⟨b, ys, eb, h1, h2⟩ := h
      rw [e] at eb
      cases eb
      exact ⟨rows_box hB h1 h2, old ((e03.trans e4) _ _ h1)⟩
    have sq : Sp2 p sb q := ⟨newp nq, old (e4 _ _ hq3)⟩
    have sm : Sp2 p sb mp := ⟨newp (fresh_back e1 nmp), old (e4 _ _ hmp3)⟩
    have sas : ∀ b ∈ as, Sp2 p sb b := fun b hb => by
      obtain ⟨i, hi⟩ := List.mem_iff_getElem?.mp hb
      obtain ⟨L2, _, zs, g1, _⟩ := Paired.at_l hLs1 i b hi
      exact ⟨newp (hAs b hb), old ((e3.trans e4) _ _ g1)⟩
    let Dt : List (V × PyData) := [(x, rl rs), (y, rl qs), (.ref sa, rl ds), (.ref q, ll rd Ls), (.ref mp, .list (ms.map mvd))]
    have mDt : ∀ {z}, z ∈ Dt ↔ z = (x, rl rs) ∨ z = (y, rl qs) ∨ z = (.ref sa, rl ds) ∨ z = (.ref q, ll rd Ls) ∨ z = (.ref mp, .list (ms.map mvd)) := by
      intro z
      show z ∈ [_, _, _, _, _] ↔ _
      simp
    have i1 : (x, rl rs) ∈ Dt := mDt.mpr (.inl rfl)
    have i2 : (y, rl qs) ∈ Dt := mDt.mpr (.inr (.inl rfl))
    have i3 : (.ref sa, rl ds) ∈ Dt := mDt.mpr (.inr (.inr (.inl rfl)))
    have i4 : (.ref q, ll rd Ls) ∈ Dt := mDt.mpr (.inr (.inr (.inr (.inl rfl))))
    have i5 : (.ref mp, .list (ms.map mvd)) ∈ Dt := mDt.mpr (.inr (.inr (.inr (.inr rfl))))
    have G0 : Gs p sb H Dt PairD m H5 [] := ⟨nsbH, psb, Ex.b e05, hB5, hsb, fun v h => absurd h (by simp), fun z hz => by
      rcases mDt.mp hz with e | e | e | e | e
      · rw [e]; exact LRw.dx (LRw.ex hx e05) tupS (rwS hx)
      · rw [e]; exact LRw.dx (LRw.ex hy e05) tupS (rwS hy)
      · rw [e]; exact LRw.dx (LRw.ex hsv e05) tupS (rwS hsv)
      · rw [e]; exact dxP e35 tupS sq sas
      · rw [e]; exact .lst sm (e35 _ _ hmp3) (moves_dx tupS (hmv3.ex e35))⟩
    let st : Option V → Option V → Option V → L2.St := fun v7 v8 v9 => [some (.ref p), some x, some y, some (.ref sa), some (.ref q), some (.ref mp), some (.ref sb), v7, v8, v9, none, none, none, none, none, none]
    have smR : ∀ r ∈ rs, Smp (rd r) := fun r hr => Smp.row r (rlen r hr)
    have smT : ∀ r ∈ rs, Smp (trow r) := fun r hr => trow_smp r (rlen r hr)
    have smL : ∀ r ∈ rs, Smp (lrow r) := fun r hr => lrow_smp r (rlen r hr)
    have pD : ∀ {g1 g2 : Row → PyData} {A : List Row} {Bs : List (List Row)} {d1 d2 : PyData}, (∀ r ∈ rs, Smp (g1 r)) → (∀ r ∈ rs, Smp (g2 r)) → (∀ r ∈ A, r ∈ rs) → A.length ≤ 1000 → (∀ r ∈ Bs.flatten, r ∈ rs) → Bs.length ≤ 1000 → Bs.flatten.length < 64 → d1 = lg g1 A → d2 = ll g2 Bs → PairD (.list [d1, d2]) := by
      intro g1 g2 A Bs d1 d2 h1 h2 h3 h4 h5 h6 h7 e1 e2
      exact ⟨d1, d2, rfl, by rw [e1]; exact dom_lg h4 fun r hr => h1 r (h3 r hr), by rw [e2]; exact dom_ll h6 h7 fun r hr => h2 r (h5 r hr)⟩
    have len2 : ∀ {a b : PyData}, [a, b].length ≤ 100000 := fun {a b} => (show 2 ≤ 100000 by decide)
    refine q_cut (M := fun σ' H' => σ' = st none none none ∧ ∃ zs, Gs p sb H Dt PairD m H' zs ∧ zs.length ≤ 2) ?_ ?_
    · refine s_when (et_test (ev_neNil (ev_var rfl) (sq_of (e35 _ _ hq3)))) (fun hne H6 e6 => ?_) fun _ H6 e6 => ⟨rfl, [], G0.ex e6, by decide⟩
      have ne : Ls ≠ [] := fun z => by
        have : as = [] := List.length_eq_zero_iff.mp (by rw [las, z] <;> rfl)
        rw [this] at hne
        cases hne
      obtain ⟨Li, Ll, eL⟩ : ∃ Li Ll, Ls = Li ++ [Ll] := ⟨Ls.dropLast, Ls.getLast ne, (List.dropLast_concat_getLast ne).symm⟩
      have eD : ll rd Ls = .list (Li.map (lg rd) ++ [lg rd Ll]) := by
        rw [eL]
        unfold ll
        rw [List.map_append] <;> rfl
      have neg1 : ∀ {σ' : L2.St} {H' : Hp}, Ev (tUn (rU fun i => .int (-i)) (tC (.int 1))) σ' H' (.int (-1)) := ev_neg ev_c
      have vP : ∀ {H' : Hp} {zs : List V}, Gs p sb H Dt PairD m H' zs → EvN (Bn p sb H') (tVar 4) (st none none none) H' (.list (Li.map (lg rd) ++ [lg rd Ll])) := fun G => by
        have := G.var (σ := st none none none) (i := 4) i4 rfl
        rwa [eD] at this
      have mLl : ∀ r ∈ Ll, r ∈ rs := fun r hr => inL r (by rw [eL]; exact List.mem_flatten.mpr ⟨Ll, List.mem_append_right _ List.mem_cons_self, hr⟩)
      have mLi : ∀ r ∈ Li.flatten, r ∈ rs := fun r hr => inL r (by rw [eL, List.flatten_append]; exact List.mem_append_left _ hr)
      have lL : Li.flatten.length + Ll.length = rs.length := by rw [← flL, eL, List.flatten_append, List.length_append, List.flatten_singleton]
      have lLi : Li.length + 1 = Ls.length := by rw [eL, List.length_append] <;> rfl
      have G1 := G0.ex e6
      refine q_appGs G1 (ev_var rfl) (en_lst (ens_cons (G1.var (i := 3) i3 rfl) (ens_cons (en_cat (en_butlast (vP G1) neg1) (en_lst (ens_cons (en_to (k := 1) (ev_last (vP G1) neg1) ev_c) (ens_cons (en_from (k := 1) (ev_last (vP G1) neg1) ev_c) ens_nil)) len2) (by rw [List.length_map]; show _ + 2 ≤ 100000; omega)) ens_nil)) len2) (pD (g1 := rd) (g2 := rd) (A := ds) (Bs := Li ++ [Ll.take 1, Ll.drop 1]) smR smR hds (by omega) ?_ ?_ ?_ rfl ?_) (show 0 < 100000 by decide) fun v H7 G2 => ?_
      · intro r hr
        rw [List.flatten_append] at hr
        rcases List.mem_append.mp hr with hr | hr
        · exact mLi r hr
        · obtain ⟨L, hL', hrL⟩ := List.mem_flatten.mp hr
          rcases List.mem_cons.mp hL' with e | hL'
          · rw [e] at hrL; exact mLl r (List.mem_of_mem_take hrL)
          · rw [List.mem_singleton.mp hL'] at hrL; exact mLl r (List.mem_of_mem_drop hrL)
      · rw [List.length_append]; show _ + 2 ≤ 1000; omega
      · rw [List.flatten_append, List.length_append]
        have : [Ll.take 1, Ll.drop 1].flatten = Ll := by rw [List.flatten_cons, List.flatten_singleton, List.take_append_drop]
        rw [this]
        omega
      · have e : [PyData.list ((Ll.map rd).take 1), .list ((Ll.map rd).drop 1)] = [Ll.take 1, Ll.drop 1].map (lg rd) := by simp only [List.map_cons, List.map_nil, lg, List.map_take, List.map_drop]
        unfold ll
        rw [List.map_append, ← e]
      refine s_appGs G2 (ev_var rfl) (en_lst (ens_cons (en_cat (en_to (k := 1) (G2.var (i := 3) i3 rfl) ev_c) (G2.var (i := 3) i3 rfl) (by rw [List.length_take, List.length_map]; omega)) (ens_cons (en_cat (vP G2) (en_lst (ens_cons (ev_last (vP G2) neg1) ens_nil) (show 1 ≤ 100000 by decide)) (by rw [List.length_append, List.length_map]; show _ + 1 + 1 ≤ 100000; omega)) ens_nil)) len2) (pD (g1 := rd) (g2 := rd) (A := ds.take 1 ++ ds) (Bs := Ls ++ [Ll]) smR smR ?_ ?_ ?_ ?_ ?_ ?_ ?_) (show 1 < 100000 by decide) fun u H8 G3 => ⟨rfl, _, G3, by simp⟩
      · intro r hr
        rcases List.mem_append.mp hr with hr | hr
        · exact hds r (List.mem_of_mem_take hr)
        · exact hds r hr
      · rw [List.length_append, List.length_take]; omega
      · intro r hr
        rw [List.flatten_append, List.flatten_singleton] at hr
        rcases List.mem_append.mp hr with hr | hr
        · exact inL r hr
        · exact mLl r hr
      · rw [List.length_append]; show _ + 1 ≤ 1000; omega
      · rw [List.flatten_append, List.flatten_singleton, List.length_append]; omega
      · unfold lg
        rw [List.map_append, List.map_take]
      · unfold ll
        rw [eL, List.map_append, List.map_append] <;> rfl
    rintro σ' H6 ⟨rfl, zs1, G1, lz1⟩
    have lcS : ∀ {H' : Hp} {zs : List V} {te : TE} {g : Row → PyData} (G : Gs p sb H Dt PairD m H' zs), (∀ (v : V) (r : Row), r ∈ rs → Dx (Bn p sb H') H' v (rd r) → EvN (Bn p sb H') te ((wipe (st none none none) [13]).set 13 (some v)) H' (g r)) → EvN (Bn p sb H') (tLc (iList K (tVar 3)) (gName 13) tYes te [13]) (st none none none) H' (lg g ds) := by
      intro H' zs te g G he
      obtain ⟨b, xs, eb, _, hb, hxs⟩ := (G.dt _ i3).occ.lst'
      cases eb
      refine en_lcL bn_ne (ev_var rfl) hb hxs (by rw [List.length_map, List.length_map]) (by rw [List.length_map]; omega) (fun _ => rfl) fun i v dd ee hd he2 hv => ?_
      rw [List.getElem?_map] at hd he2
      obtain ⟨r, hr, rfl⟩ := Option.map_eq_some_iff.mp hd
      rw [hr] at he2
      cases he2
      exact he v r (hds r (List.mem_of_getElem? hr)) hv
    have lcP : ∀ {H' : Hp} {zs : List V} {te : TE} {g : Row → PyData} (G : Gs p sb H Dt PairD m H' zs), (∀ (v u : V) (r : Row), r ∈ rs → Dx (Bn p sb H') H' v (rd r) → EvN (Bn p sb H') te ((wipe ((wipe (st none none none) [14]).set 14 (some u)) [13]).set 13 (some v)) H' (g r)) → EvN (Bn p sb H') (tLc (iList K (tVar 4)) (gName 14) tYes (tLc (iList K (tVar 14)) (gName 13) tYes te [13]) [14]) (st none none none) H' (ll g Ls) := by
      intro H' zs te g G he
      obtain ⟨b, xs, eb, _, hb, hxs⟩ := (G.dt _ i4).occ.lst'
      cases eb
      refine en_lcL bn_ne (ev_var rfl) hb hxs (by rw [List.length_map, List.length_map]) (by rw [List.length_map]; omega) (fun _ => rfl) fun i u dd ee hd he2 hu => ?_
      rw [List.getElem?_map] at hd he2
      obtain ⟨L, hL', rfl⟩ := Option.map_eq_some_iff.mp hd
      rw [hL'] at he2
      cases he2
      have mL := List.mem_of_getElem? hL'
      obtain ⟨b2, xs2, rfl, _, hb2, hxs2⟩ := Dx.lst' hu
      have := len_flat mL
      refine en_lcL bn_ne (ev_var rfl) hb2 hxs2 (by rw [List.length_map, List.length_map]) (by rw [List.length_map]; omega) (fun _ => rfl) fun j v dd ee hd he3 hv => ?_
      rw [List.getElem?_map] at hd he3
      obtain ⟨r, hr, rfl⟩ := Option.map_eq_some_iff.mp hd
      rw [hr] at he3
      cases he3
      exact he v _ r (inL r (List.mem_flatten.mpr ⟨L, mL, List.mem_of_getElem? hr⟩)) hv
    have tr : ∀ {H' : Hp} {v : V} {r : Row} {σ' : L2.St}, r ∈ rs → σ'[13]? = some (some v) → Dx (Bn p sb H') H' v (rd r) → EvN (Bn p sb H') (tCall sp__law_turned [] E0 (tCons (tVar 13) tNil)) σ' H' (trow r) := fun hr hσ hv => en_turned (ev_var hσ) hv.row (rlen _ hr)
    have li : ∀ {H' : Hp} {v : V} {r : Row} {σ' : L2.St}, σ'[13]? = some (some v) → Dx (Bn p sb H') H' v (rd r) → EvN (Bn p sb H') (tCB (rListS K) (tCons (tVar 13) tNil)) σ' H' (lrow r) := fun hσ hv => en_list (en_var hσ hv) rfl
    refine q_appGs G1 (ev_var rfl) (en_lst (ens_cons (lcS (g := trow) G1 fun v r hr hv => tr hr rfl hv) (ens_cons (G1.var (i := 4) i4 rfl) ens_nil)) len2) (pD (g1 := trow) (g2 := rd) smT smR hds (by omega) inL (by omega) (by omega) rfl rfl) (by omega) fun v1 H7 G2 => ?_
    refine q_appGs G2 (ev_var rfl) (en_lst (ens_cons (G2.var (i := 3) i3 rfl) (ens_cons (lcP (g := trow) G2 fun v u r hr hv => tr hr rfl hv) ens_nil)) len2) (pD (g1 := rd) (g2 := trow) smR smT hds (by omega) inL (by omega) (by omega) rfl rfl) (by rw [List.length_append]; show _ + 1 < 100000; omega) fun v2 H8 G3 => ?_
    refine q_appGs G3 (ev_var rfl) (en_lst (ens_cons (G3.var (i := 3) i3 rfl) (ens_cons (lcP (g := lrow) G3 fun v u r hr hv => li rfl hv) ens_nil)) len2) (pD (g1 := rd) (g2 := lrow) smR smL hds (by omega) inL (by omega) (by omega) rfl rfl) (by simp only [List.length_append, List.length_singleton]; omega) fun v3 H9 G4 => ?_
    refine q_appGs G4 (ev_var rfl) (en_lst (ens_cons (lcS (g := lrow) G4 fun v r hr hv => li rfl hv) (ens_cons (G4.var (i := 4) i4 rfl) ens_nil)) len2) (pD (g1 := lrow) (g2 := rd) smL smR hds (by omega) inL (by omega) (by omega) rfl rfl) (by simp only [List.length_append, List.length_singleton]; omega) fun v4 H10 G5 => ?_
    have lz5 : (zs1 ++ [v1] ++ [v2] ++ [v3] ++ [v4]).length ≤ 6 := by simp only [List.length_append, List.length_singleton]; omega
    generalize (zs1 ++ [v1] ++ [v2] ++ [v3] ++ [v4]) = zs5 at G5 lz5
    obtain ⟨qb, qx, eqb, _, hqb, hqx⟩ := (G5.dt _ i4).lst'
    cases eqb
    have lqx : qx.length = Ls.length := by rw [Paired.length hqx.p, List.length_map]
    have c1 := el_lcR1 (σ := st none none none) (H := H10) (ta := tCons (tCB (rLenS K) (tCons (tVar 4) tNil)) tNil) (t := tTest (tOp (rI0 fun i j => .bl (decide (j < i))) (tCB (rLenS K) (tCons (tOp (rIxL K) (tVar 4) (tVar 8)) tNil)) (tC (.int 1)))) (te := tVar 8) (j := 8) (vs := [8]) (n := (qx.length : Int))
      (fun j => decide (1 < (Ls.getD j []).length)) (fun j => .int (j : Int)) (ea_cons (ev_lenS (ev_var rfl) (.inl hqb)) ea_nil) (by omega) (fun _ => rfl) (fun j H' e' hj => by
        have hjL : j < Ls.length := by omega
        have gL := List.getElem?_eq_getElem hjL
        obtain ⟨v, hv, hvd⟩ := Paired.at_r hqx.p j (lg rd Ls[j]) (by rw [List.getElem?_map, gL] <;> rfl)
        obtain ⟨b2, xs2, rfl, _, hb2, hxs2⟩ := Dx.lst' hvd
        have gD : Ls.getD j [] = Ls[j] := by rw [List.getD_eq_getElem?_getD, gL] <;> rfl
        rw [gD]
        refine et_is (et_I0 (g := fun i j => decide (j < i)) (ev_lenS (ev_ixL (i := (j : Int)) (ev_var rfl) (ev_var rfl) (sq_of (e' _ _ hqb)) (atI_nat hv)) (.inl (e' _ _ hb2))) ev_c) ?_
        have : xs2.length = Ls[j].length := by rw [Paired.length hxs2.p, List.length_map]
        exact decide_eq_decide.mpr (by omega)) (fun j H' e' hj _ => ev_var rfl)
    have zn : ((qx.length : Nat) : Int).toNat = qx.length := Int.toNat_natCast _
    rw [zn] at c1
    refine q_asgL c1 fun cb H11 ncb e11 hcb => ?_
    have G6 := G5.ex e11
    refine q_cut (M := fun σ' H' => (∃ v8 v9, σ' = st (some (.ref cb)) v8 v9) ∧ ∃ zs m', Gs p sb H Dt PairD m' H' zs ∧ m' ≤ m + 1 ∧ zs.length ≤ 7) ?_ ?_
    · refine s_when (et_test (ev_neNil (ev_var rfl) (sq_of hcb))) (fun hne H12 e12 => ?_) fun _ H12 e12 => ⟨⟨none, none, rfl⟩, zs5, m, G6.ex e12, by omega, by omega⟩
      have G7 := G6.ex e12
      have hcb12 := e12 _ _ hcb
      have gpos : 0 < (given qx.length (fun j => decide (1 < (Ls.getD j []).length)) (fun j => V.int (j : Int))).length := by
        cases z : given qx.length (fun j => decide (1 < (Ls.getD j []).length)) (fun j => V.int (j : Int)) with
        | nil => rw [z] at hne; cases hne
        | cons _ _ => exact Nat.succ_pos _
      have glen := given_len qx.length (fun j => decide (1 < (Ls.getD j []).length)) (fun j => V.int (j : Int))
      have pcb : p ≠ cb := fun z => G5.bx.some (z ▸ ncb)
      refine ⟨.ref cb, rfl, take_go (i := 0) (σ := st (some (.ref cb)) none none) rfl (ev_lenS (ev_var rfl) (.inl hcb12)) (by omega) (by omega) G7.bx (by omega) fun i H13 i0 i1' e13 hB13 => ?_⟩
      have G8 := G7.box e13 hB13
      have hcb13 := e13 _ _ (Ne.symm pcb) hcb12
      obtain ⟨iN, rfl⟩ : ∃ iN : Nat, i = (iN : Int) := ⟨i.toNat, by omega⟩
      have hiN : iN < (given qx.length (fun j => decide (1 < (Ls.getD j []).length)) (fun j => V.int (j : Int))).length := by omega
      have gI := List.getElem?_eq_getElem hiN
      obtain ⟨k8, hk1, hk2, hk3⟩ := given_mem (List.getElem_mem hiN)
      rw [hk3] at gI
      refine ⟨cb, _, (iN : Int), .int (k8 : Int), rfl, rfl, sq_of hcb13, atI_nat gI, ?_⟩
      have hkL : k8 < Ls.length := by omega
      have gL := List.getElem?_eq_getElem hkL
      have at8 : atI (Ls.map (lg rd)) (k8 : Int) = some (lg rd Ls[k8]) := atI_nat (by rw [List.getElem?_map, gL] <;> rfl)
      have vP : EvN (Bn p sb H13) (tVar 4) (st (some (.ref cb)) (some (.int (k8 : Int))) none) H13 (.list (Ls.map (lg rd))) := G8.var (i := 4) i4 rfl
      have v8 : Ev (tVar 8) (st (some (.ref cb)) (some (.int (k8 : Int))) none) H13 (.int (k8 : Int)) := ev_var rfl
      have mL8 := List.getElem_mem hkL
      have l8 := len_flat mL8
      have tkl : (Ls.take k8).length ≤ 100 := by rw [List.length_take]; omega
      have dkl : (Ls.drop (k8 + 1)).length ≤ 100 := by rw [List.length_drop]; omega
      refine q_asgN (en_cat (en_cat (en_to (k := k8) vP v8) (en_lst (ens_cons (en_to (k := 1) (en_ixL vP v8 at8) ev_c) (ens_cons (en_from (k := 1) (en_ixL vP v8 at8) ev_c) ens_nil)) len2) (by rw [← List.map_take, List.length_map]; show _ + 2 ≤ 100000; omega)) (en_from (k := k8 + 1) vP (ev_is (ev_I0 v8 ev_c) (congrArg V.int (by omega)))) (by simp only [List.length_append, List.length_take, List.length_drop, List.length_map, List.length_cons, List.length_nil]; omega)) fun lv H14 e14 hlv => ?_
      have G9 := G8.ex e14
      have hlv9 := hlv.wk G8.nb
      have spl : Ls.take k8 ++ [Ls[k8]] ++ Ls.drop (k8 + 1) = Ls := by
        rw [List.append_assoc, List.singleton_append, ← List.drop_eq_getElem_cons hkL, List.take_append_drop]
      have spf : (Ls.take k8 ++ [Ls[k8].take 1, Ls[k8].drop 1] ++ Ls.drop (k8 + 1)).flatten = Ls.flatten := by
        have z := congrArg List.flatten spl
        rw [List.flatten_append, List.flatten_append, List.flatten_singleton] at z
        rw [List.flatten_append, List.flatten_append]
        have : [Ls[k8].take 1, Ls[k8].drop 1].flatten = Ls[k8] := by rw [List.flatten_cons, List.flatten_singleton, List.take_append_drop]
        rw [this]
        exact z
      refine s_appGs G9 (ev_var rfl) (en_lst (ens_cons (en_cat (en_to (k := 1) (G9.var (i := 3) i3 rfl) ev_c) (G9.var (i := 3) i3 rfl) (by rw [List.length_take, List.length_map]; omega)) (ens_cons (en_var (i := 9) rfl hlv9.occ) ens_nil)) len2) (pD (g1 := rd) (g2 := rd) (A := ds.take 1 ++ ds) (Bs := Ls.take k8 ++ [Ls[k8].take 1, Ls[k8].drop 1] ++ Ls.drop (k8 + 1)) smR smR ?_ ?_ ?_ ?_ ?_ ?_ ?_) (by omega) fun u H15 G10 => ⟨⟨_, _, rfl⟩, _, m + 1, G10, Nat.le_refl _, by rw [List.length_append, List.length_singleton]; omega⟩
      · intro r hr
        rcases List.mem_append.mp hr with hr | hr
        · exact hds r (List.mem_of_mem_take hr)
        · exact hds r hr
      · rw [List.length_append, List.length_take]; omega
      · intro r hr
        rw [spf] at hr
        exact inL r hr
      · rw [List.length_append, List.length_append]; show _ + 2 + _ ≤ 1000; omega
      · rw [spf]; omega
      · unfold lg
        rw [List.map_append, List.map_take]
      · have e : [PyData.list ((Ls[k8].map rd).take 1), .list ((Ls[k8].map rd).drop 1)] = [Ls[k8].take 1, Ls[k8].drop 1].map (lg rd) := by simp only [List.map_cons, List.map_nil, lg, List.map_take, List.map_drop]
        unfold ll
        rw [List.map_append, List.map_append, ← e, List.map_take, List.map_drop]
    rintro σ' H12 ⟨⟨v8, v9, rfl⟩, zs, m', G7, lm', lz⟩
    let Pv : Nat → L2.St → Hp → Prop := fun _ σ' H' => Ex H12 H' ∧ ∃ v10 v11, σ' = [some (.ref p), some x, some y, some (.ref sa), some (.ref q), some (.ref mp), some (.ref sb), some (.ref cb), v8, v9, v10, v11, none, none, none, none]
    refine q_forL (a := sb) (xs := zs) (ev_var rfl) (sq_of G7.l) Pv (fun H' e' => ⟨e', _, _, rfl⟩) (fun i σ' H' _ h => sq_of (h.1 _ _ G7.l)) ?_ ?_
    · rintro i v σ' H' hi ⟨e', v10, v11, rfl⟩
      obtain ⟨dd, hv, d1, d2, rfl, g1, g2⟩ := (G7.ex e').it v (List.mem_of_getElem? hi)
      obtain ⟨b, xs, rfl, _, hb, hxs⟩ := hv.lst'
      cases hxs with
      | cons y1 t =>
      rename_i u1 _
      cases t with
      | cons y2 t =>
      rename_i u2 _
      cases t
      refine ⟨b, _, rfl, sq_of hb, rfl, _, _, rfl, _, _, rfl, rfl, ?_⟩
      have G8 := G7.ex e'
      have hx' := Dx.lrw (G8.dt _ i1)
      have hy' := Dx.lrw (G8.dt _ i2)
      refine s_when (b := false) (et_is (et_test (ev_op (ev_reprB (ev_call (ea_cons (ev_var rfl) (ea_cons (ev_var rfl) (ea_cons (ev_var rfl) (ea_cons (ev_var rfl) ea_nil)))) (spv_papers hx'.rws hy'.rws ho pm y1.da y2.da g1.one g2.two))) (ev_reprB (ev_call (ea_cons (ev_var rfl) (ea_cons (ev_var rfl) (ea_cons (ev_var rfl) (ea_cons (ev_var rfl) ea_nil)))) (spv_fits hx' hy' ho pm y1.da y2.da g1 g2))) (rv_ne rfl))) (by rw [decide_eq_true rfl] <;> rfl)) (fun h => nomatch h) fun _ H'' e'' => ⟨e'.trans e'', _, _, rfl⟩
    rintro σ' H13 ⟨e13, v10, v11, rfl⟩
    have G8 := G7.ex e13
    have lms : ms.length ≤ 25 := by omega
    have mRow : ∀ mv ∈ ms, OkMv n mv := hok
    have mB : ∀ {H' : Hp} {sb' : Addr} {It n'} {zs' : List V} {te : TE} {g : Move → PyData} {σ' : L2.St} (G : Gs p sb' H Dt It n' H' zs') (hσ : σ'[5]? = some (some (.ref mp))) (hw : ∀ x, wipe ((wipe σ' [15]).set 15 (some x)) [15] = wipe σ' [15]), (∀ (v v1 v2 : V) (a : Addr) (mv : Move), mv ∈ ms → v = .ref a → H' a = some (.tup [v1, v2]) → Dx (Bn p sb' H') H' v1 (rd mv.1) → Dx (Bn p sb' H') H' v2 (oD mv.2) → Dx (Bn p sb' H') H' v (mvd mv) → EvN (Bn p sb' H') te ((wipe σ' [15]).set 15 (some v)) H' (g mv)) → EvN (Bn p sb' H') (tLc (iList K (tVar 5)) (gName 15) tYes te [15]) σ' H' (.list (ms.map g)) := by
      intro H' sb' It n' zs' te g σ' G hσ hw he
      obtain ⟨b, xs, eb, _, hb, hxs⟩ := (G.dt _ i5).occ.lst'
      cases eb
      refine en_lcL bn_ne (ev_var hσ) hb hxs (by rw [List.length_map, List.length_map]) (by rw [List.length_map]; omega) hw fun i v dd ee hd he2 hv => ?_
      rw [List.getElem?_map] at hd he2
      obtain ⟨mv, hmv, rfl⟩ := Option.map_eq_some_iff.mp hd
      rw [hmv] at he2
      cases he2
      obtain ⟨a', v1, v2, ev, h1, h2, h3⟩ := mv_parts hv
      exact he v v1 v2 a' mv (List.mem_of_getElem? hmv) ev h1 h2 h3 hv
    have ix0 : ∀ {σ' : L2.St} {H' : Hp} {a : Addr} {v1 v2 : V}, σ'[15]? = some (some (.ref a)) → H' a = some (.tup [v1, v2]) → Ev (tOp (rIx K) (tVar 15) (tC (.int 0))) σ' H' v1 := fun hσ ha => ev_ixS (i := 0) (ev_var hσ) ev_c (.inr ha) rfl
    have ix1 : ∀ {σ' : L2.St} {H' : Hp} {a : Addr} {v1 v2 : V}, σ'[15]? = some (some (.ref a)) → H' a = some (.tup [v1, v2]) → Ev (tOp (rIx K) (tVar 15) (tC (.int 1))) σ' H' v2 := fun hσ ha => ev_ixS (i := 1) (ev_var hσ) ev_c (.inr ha) rfl
    have wid : ∀ {mv : Move}, mv ∈ ms → mv.1.length ≤ 1000 ∧ (∀ o, mv.2 = some o → o.length ≤ 1000) ∧ 1 ≤ mv.1.length ∧ mv.1.length ≤ 5 := fun {mv} hm' => by
      have o := mRow mv hm'
      have a1 := o.w1
      have a5 := o.w5
      have ar := o.row.1
      exact ⟨by omega, fun q hq => by have := (o.beh q hq).1; omega, by omega, by omega⟩
    have dL : ∀ {g : Move → PyData}, (∀ mv ∈ ms, DomM (g mv)) → DomL (.list (ms.map g)) := fun {g} hg => domL_of (by rw [List.length_map]; omega) fun e he => by
      obtain ⟨mv, hmv, rfl⟩ := List.mem_map.mp he
      exact hg mv hmv
    have rowSmp : ∀ {r : Row}, r.length ≤ 1000 → Smp (rd r) := fun h => Smp.row _ h
    let g1 : Move → PyData := fun mv => .tuple [trow mv.1, oD mv.2]
    let g2 : Move → PyData := fun mv => .list [rd mv.1, oD mv.2]
    let g3 : Move → PyData := fun mv => .tuple [rd mv.1, rd (List.replicate mv.1.length 7)]
    let g4 : Move → PyData := fun mv => .tuple [rd mv.1, ot mv.2]
    have D1 : DomL (.list (ms.map g1)) := dL fun mv hm' => domM_two (trow_smp _ (wid hm').1) (oD_smp (wid hm').2.1)
    have D2 : DomL (.list (ms.map g2)) := dL fun mv hm' => domM_lst
    have D3 : DomL (.list (ms.map g3)) := dL fun mv hm' => domM_two (Smp.row _ (wid hm').1) ⟨Smp.row _ (by rw [List.length_replicate]; exact (wid hm').1), .inr ⟨_, rfl⟩⟩
    have D4 : DomL (.list (ms.map g4)) := dL fun mv hm' => domM_two (Smp.row _ (wid hm').1) (ot_smp (wid hm').2.1)
    have n1 : EvN (Bn p sb H13) (tLc (iList K (tVar 5)) (gName 15) tYes (tTup (tCons (tCall sp__law_turned [] E0 (tCons (tOp (rIx K) (tVar 15) (tC (.int 0))) tNil)) (tCons (tOp (rIx K) (tVar 15) (tC (.int 1))) tNil))) [15]) [some (.ref p), some x, some y, some (.ref sa), some (.ref q), some (.ref mp), some (.ref sb), some (.ref cb), v8, v9, v10, v11, none, none, none, none] H13 (.list (ms.map g1)) :=
      mB G8 rfl (fun _ => rfl) fun v u1 u2 a' mv hm' ev h1 h2 h3 _ => by
        subst ev
        exact en_tup (ens_cons (en_turned (ix0 rfl h1) h2.row (wid hm').1) (ens_cons (en_ev (ix1 rfl h1) h3) ens_nil)) len2
    have n2 : EvN (Bn p sb H13) (tLc (iList K (tVar 5)) (gName 15) tYes (tCB (rListS K) (tCons (tVar 15) tNil)) [15]) [some (.ref p), some x, some y, some (.ref sa), some (.ref q), some (.ref mp), some (.ref sb), some (.ref cb), v8, v9, v10, v11, none, none, none, none] H13 (.list (ms.map g2)) :=
      mB G8 rfl (fun _ => rfl) fun v u1 u2 a' mv hm' ev h1 h2 h3 hv => en_list (en_var rfl hv) rfl
    refine q_lstN (ens_cons n1 (ens_cons n2 ens_nil)) (show 2 ≤ 100000 by decide) fun tb vs H14 e14 ntb hvs => ?_
    have eN : Ex H14 (upd H14 tb (.lst vs)) := Ex.new ntb
    have e15 : Ex H13 (upd H14 tb (.lst vs)) := e14.trans eN
    have htb : upd H14 tb (.lst vs) tb = some (.lst vs) := upd_same
    have hvs' : DxAll (NB (Bn p sb H13) H13) (upd H14 tb (.lst vs)) vs [.list (ms.map g1), .list (ms.map g2)] := hvs.ex eN
    have hoc : ∀ a o, NB (Bn p sb H13) H13 a → upd H14 tb (.lst vs) a = some o → a ≠ tb → Sp2 p tb a := fun a o h _ n => ⟨(G8.nb a h).1, n⟩
    have hvs2 : DxAll (Sp2 p tb) (upd H14 tb (.lst vs)) vs [.list (ms.map g1), .list (ms.map g2)] := by
      have z := hvs.mv (S' := Sp2 p tb) (H' := upd H14 tb (.lst vs)) fun a o s ha => ⟨⟨(G8.nb a s).1, fun z => by rw [z, ntb] at ha; cases ha⟩, eN _ _ ha⟩
      exact z
    have ntbH : H tb = none := by
      have z := G8.eb
      exact z.back (fun z2 => G8.bx.some (z2 ▸ fresh_back e14 ntb)) (fresh_back e14 ntb)
    have ptb : p ≠ tb := hB.ne ntbH
    generalize hH15 : upd H14 tb (.lst vs) = H15 at *
    have S0 : Gs p tb H Dt DomL m' H15 vs := ⟨ntbH, ptb, G8.eb.trans (Ex.b e15), G8.bx.ex e15, htb, fun v hv => by
      obtain ⟨dd, hd, h⟩ := Paired.mem_l hvs2.p v hv
      refine ⟨dd, h, ?_⟩
      rcases List.mem_cons.mp hd with e | hd
      · rw [e]; exact D1
      · rw [List.mem_singleton.mp hd]; exact D2, fun z hz => (G8.dt z hz).mv fun a o s ha => ⟨⟨s.1, fun z2 => by
        have := e14 _ _ ha
        rw [z2, ntb] at this
        cases this⟩, e15 _ _ ha⟩⟩
    have lvs : vs.length = 2 := Paired.length hvs2.p
    have n3 : ∀ {H' : Hp} {zs' : List V}, Gs p tb H Dt DomL m' H' zs' → EvN (Bn p tb H') (tLc (iList K (tVar 5)) (gName 15) tYes (tTup (tCons (tOp (rIx K) (tVar 15) (tC (.int 0))) (tCons (tOp (rRepU K) (tTup (tCons (tC (.int 7)) tNil)) (tCB (rLenS K) (tCons (tOp (rIx K) (tVar 15) (tC (.int 0))) tNil))) tNil))) [15]) [some (.ref p), some x, some y, some (.ref sa), some (.ref q), some (.ref mp), some (.ref sb), some (.ref cb), v8, v9, v10, v11, some (.ref tb), none, none, none] H' (.list (ms.map g3)) := fun {H' zs'} G =>
      mB G rfl (fun _ => rfl) fun v u1 u2 a' mv hm' ev h1 h2 h3 _ => by
        subst ev
        obtain ⟨rb', eb', hrb'⟩ := h2.row
        have hlen : Ev (tCB (rLenS K) (tCons (tOp (rIx K) (tVar 15) (tC (.int 0))) tNil)) ((wipe [some (.ref p), some x, some y, some (.ref sa), some (.ref q), some (.ref mp), some (.ref sb), some (.ref cb), v8, v9, v10, v11, some (.ref tb), none, none, none] [15]).set 15 (some (.ref a'))) H' (.int (mv.1.length : Nat)) := by
          have i0 := ix0 (σ' := (wipe [some (.ref p), some x, some y, some (.ref sa), some (.ref q), some (.ref mp), some (.ref sb), some (.ref cb), v8, v9, v10, v11, some (.ref tb), none, none, none] [15]).set 15 (some (.ref a'))) rfl h1
          rw [eb'] at i0
          have z := ev_lenS (K := K) i0 (.inr hrb')
          rwa [List.length_map] at z
        exact en_tup (ens_cons (en_ev (ix0 rfl h1) h2) (ens_cons (en_rep hlen (wid hm').2.2.1 (wid hm').2.2.2) ens_nil)) len2
    have n4 : ∀ {H' : Hp} {zs' : List V}, Gs p tb H Dt DomL m' H' zs' → EvN (Bn p tb H') (tLc (iList K (tVar 5)) (gName 15) tYes (tTup (tCons (tOp (rIx K) (tVar 15) (tC (.int 0))) (tCons (tIf (tB (tIsN (tOp (rIx K) (tVar 15) (tC (.int 1))))) (tC .non) (tCall sp__law_turned [] E0 (tCons (tOp (rIx K) (tVar 15) (tC (.int 1))) tNil))) tNil))) [15]) [some (.ref p), some x, some y, some (.ref sa), some (.ref q), some (.ref mp), some (.ref sb), some (.ref cb), v8, v9, v10, v11, some (.ref tb), none, none, none] H' (.list (ms.map g4)) := fun {H' zs'} G =>
      mB G rfl (fun _ => rfl) fun v u1 u2 a' mv hm' ev h1 h2 h3 _ => by
        subst ev
        refine en_tup (ens_cons (en_ev (ix0 rfl h1) h2) (ens_cons ?_ ens_nil)) len2
        refine en_if (et_B (ev_isN (ix1 rfl h1))) (fun h => ?_) fun h => ?_
        · cases ho : mv.2 with
          | none => exact en_non
          | some o =>
            rw [ho] at h3
            obtain ⟨b', eb', _⟩ := Dx.row h3
            rw [eb'] at h
            cases h
        · cases ho : mv.2 with
          | none =>
            rw [ho] at h3
            cases h3
            cases h
          | some o =>
            rw [ho] at h3
            exact en_turned (ix1 rfl h1) (Dx.row h3) ((wid hm').2.1 o ho)
    refine q_appGs S0 (ev_var rfl) (n3 S0) D3 (by omega) fun w1 H16 S1 => ?_
    refine q_appGs S1 (ev_var rfl) (n4 S1) D4 (by rw [List.length_append, List.length_singleton]; omega) fun w2 H17 S2 => ?_
    have lst' : (vs ++ [w1] ++ [w2]).length ≤ 10 := by simp only [List.length_append, List.length_singleton]; omega
    generalize (vs ++ [w1] ++ [w2]) = tl at S2 lst'
    let Pw : Nat → L2.St → Hp → Prop := fun _ σ' H' => Ex H17 H' ∧ ∃ v10, σ' = [some (.ref p), some x, some y, some (.ref sa), some (.ref q), some (.ref mp), some (.ref sb), some (.ref cb), v8, v9, v10, v11, some (.ref tb), none, none, none]
    refine q_forLn (K := K) (a := tb) (xs := tl) (ev_var rfl) (sq_of S2.l) Pw (fun H' e' => ⟨e', _, rfl⟩) (fun i σ' H' _ h => sq_of (h.1 _ _ S2.l)) ?_ ?_
    · rintro i v σ' H' hi ⟨e', v10', rfl⟩
      obtain ⟨dd, hv, hD⟩ := (S2.ex e').it v (List.mem_of_getElem? hi)
      have S3 := S2.ex e'
      have hx' := Dx.lrw (S3.dt _ i1)
      have hy' := Dx.lrw (S3.dt _ i2)
      refine s_when (b := false) (et_is (et_test (ev_op (ev_reprB (ev_call (ea_cons (ev_var rfl) (ea_cons (ev_var rfl) (ea_cons (ev_var rfl) ea_nil))) (spv_leads hx'.rws hy'.rws ho pm hv.da hD.one))) (ev_reprB (ev_call (ea_cons (ev_var rfl) (ea_cons (ev_var rfl) (ea_cons (ev_var rfl) ea_nil))) (spv_law_leads hx' hy' ho pm hv.da hD))) (rv_ne rfl))) (by rw [decide_eq_true rfl] <;> rfl)) (fun h => nomatch h) fun _ H'' e'' => ⟨e'.trans e'', _, rfl⟩
    rintro σ' H18 ⟨e18, v10', rfl⟩
    have S3 := S2.ex e18
    exact s_ret ev_c fun H19 e19 => k H19 (S3.eb.trans (Ex.b e19)) ((S3.bx.ex e19).mono (by omega))
end
end Mv
set_option maxHeartbeats 1000000
/-! Two neighbours that change their places: what papers and moves fit. -/
namespace Mv
open PySem PySem.Spec PyProof.Rows L2 Evl
theorem max_by (f : Row → Nat) (P : Row → Bool) : ∀ S : List Row, (∀ q ∈ S, P q = false) ∨ ∃ q ∈ S, P q = true ∧ ∀ q' ∈ S, P q' = true → f q' ≤ f q
  | [] => .inl fun q h => absurd h (by simp)
  | s :: S => by
    rcases max_by f P S with h | ⟨q, hq, h1, h2⟩
    · cases hs : P s with
      | false =>
        refine .inl fun q hq => ?_
        rcases List.mem_cons.mp hq with e | hq
        · rw [e]; exact hs
        · exact h q hq
      | true =>
        refine .inr ⟨s, List.mem_cons_self, hs, fun q' hq' hp => ?_⟩
        rcases List.mem_cons.mp hq' with e | hq'
        · rw [e]; exact Nat.le_refl _
        · rw [h q' hq'] at hp
          cases hp
    · by_cases hs : P s = true ∧ f q < f s
      · refine .inr ⟨s, List.mem_cons_self, hs.1, fun q' hq' hp => ?_⟩
        rcases List.mem_cons.mp hq' with e | hq'
        · rw [e]; exact Nat.le_refl _
        · have := h2 q' hq' hp
          omega
      · refine .inr ⟨q, List.mem_cons_of_mem _ hq, h1, fun q' hq' hp => ?_⟩
        rcases List.mem_cons.mp hq' with e | hq'
        · rw [e] at hp ⊢
          exact Nat.le_of_not_lt fun z => hs ⟨hp, z⟩
        · exact h2 q' hq' hp
theorem lev_exists {Ls : List (List Row)} {rs : List Row} (hR : rs ∈ Ls) (nd : rs.Nodup) : ∀ i, i ≤ rs.length → ∃ lev ahd, LevOn Ls (rs.take i) lev ahd
  | 0, _ => ⟨fun _ => 0, fun _ => none, ⟨fun r h => absurd h (by simp), fun r h => absurd h (by simp)⟩⟩
  | i + 1, h => by
    obtain ⟨lev, ahd, L⟩ := lev_exists hR nd i (by omega)
    have hi : i < rs.length := by omega
    have hg := List.getElem?_eq_getElem hi
    have bk : ∀ q ∈ rs.take i, rs.idxOf q < rs.idxOf rs[i] := fun q hq => by
      obtain ⟨j, hj⟩ := List.mem_iff_getElem?.mp hq
      have hji : j < i := by
        have := (List.getElem?_eq_some_iff.mp hj).1
        rw [List.length_take] at this
        omega
      rw [List.getElem?_take_of_lt hji] at hj
      rw [idxOf_at nd hj, idxOf_at nd hg]
      exact hji
    have nr : rs[i] ∉ rs.take i := fun hq => Nat.lt_irrefl _ (bk _ hq)
    have irr : Ah Ls rs[i] rs[i] = false := by
      cases z : Ah Ls rs[i] rs[i] with
      | false => rfl
      | true => exact absurd (Ah.lt z hR) (Nat.lt_irrefl _)
    have back : ∀ q ∈ rs.take i, Ah Ls rs[i] q = false := fun q hq => by
      cases z : Ah Ls rs[i] q with
      | false => rfl
      | true => have := Ah.lt z hR; have := bk q hq; omega
    rw [take_next hg]
    rcases max_by lev (fun q => Ah Ls q rs[i]) (rs.take i) with h0 | ⟨q, hq, h1, h2⟩
    · exact ⟨_, _, L.snoc nr irr back ⟨fun q hq _ ha => (by rw [h0 q hq] at ha; cases ha), .inl ⟨rfl, rfl⟩⟩⟩
    · exact ⟨_, _, L.snoc nr irr back (c := lev q + 1) ⟨fun q' hq' _ ha => Nat.lt_succ_of_le (h2 q' hq' ha), .inr ⟨q, hq, h1, rfl, rfl⟩⟩⟩
theorem lev_all {Ls : List (List Row)} {rs : List Row} (hR : rs ∈ Ls) (nd : rs.Nodup) : ∃ lev ahd M, LevOn Ls rs lev ahd ∧ IsCount rs lev M := by
  obtain ⟨lev, ahd, L⟩ := lev_exists hR nd rs.length (Nat.le_refl _)
  rw [List.take_length] at L
  obtain ⟨M, hM⟩ := exists_count rs lev
  exact ⟨lev, ahd, M, L, hM⟩
def sing (A : List Row) : List (List Row) := A.map fun x => [x]
theorem sing_flat : ∀ A : List Row, (sing A).flatten = A
  | [] => rfl
  | a :: A => by
    show [a] ++ (sing A).flatten = _
    rw [sing_flat A] <;> rfl
theorem rise_one {L : List Row} {x : Row} : Rise L [x] := List.pairwise_singleton _ _
theorem part_one {rs qs : List Row} {x : Row} (h1 : x ∈ rs) (h2 : x ∈ qs) : [x] ≠ [] ∧ RisesC rs [x] ∧ RisesC qs [x].reverse :=
  ⟨by simp, ⟨fun c hc => by rw [List.mem_singleton.mp hc]; exact h1, rise_one⟩, ⟨fun c hc => (show c = x by simpa using hc) ▸ h2, rise_one⟩⟩
/-- each row a part -/
theorem fits_sing {rs : List Row} (nd : rs.Nodup) : FitsD rs rs (rl rs) (ll rd (sing rs)) :=
  fits_own (fun r h => h) (Rise.self nd) (Rise.self nd) (.refl _) (by unfold sing; rw [List.length_map]) (by rw [sing_flat]) fun L hL => by
    obtain ⟨x, hx, rfl⟩ := List.mem_map.mp hL
    exact part_one hx hx
theorem idx_mid {A B : List Row} {r : Row} (h : r ∉ A) : (A ++ r :: B).idxOf r = A.length := by
  rw [List.idxOf_append, if_neg h, List.idxOf_cons_self, Nat.zero_add]
section
variable {A B : List Row} {r s : Row}
theorem swp_nd (nd : (A ++ r :: s :: B).Nodup) : r ∉ A ∧ s ∉ A ∧ r ≠ s ∧ r ∉ B ∧ s ∉ B ∧ (A ++ s :: B).Nodup := by
  obtain ⟨h1, h2, h3⟩ := List.nodup_append.mp nd
  obtain ⟨h4, h5⟩ := List.nodup_cons.mp h2
  obtain ⟨h6, h7⟩ := List.nodup_cons.mp h5
  refine ⟨fun z => h3 r z r List.mem_cons_self rfl, fun z => h3 s z s (List.mem_cons_of_mem _ List.mem_cons_self) rfl, fun z => h4 (by rw [z]; exact List.mem_cons_self), fun z => h4 (List.mem_cons_of_mem _ z), h6, ?_⟩
  exact List.nodup_append.mpr ⟨h1, h5, fun a ha b hb => h3 a ha b (List.mem_cons_of_mem _ hb)⟩
theorem swp_perm : (A ++ s :: r :: B).Perm (A ++ r :: s :: B) := List.Perm.append_left _ (List.Perm.swap r s B)
theorem swp_idx (nd : (A ++ r :: s :: B).Nodup) : (A ++ r :: s :: B).idxOf r = A.length ∧ (A ++ r :: s :: B).idxOf s = A.length + 1 ∧ (A ++ s :: r :: B).idxOf s = A.length ∧ (A ++ s :: r :: B).idxOf r = A.length + 1 := by
  obtain ⟨h1, h2, h3, _, _, _⟩ := swp_nd nd
  have e1 : A ++ r :: s :: B = (A ++ [r]) ++ s :: B := by rw [List.append_assoc] <;> rfl
  have e2 : A ++ s :: r :: B = (A ++ [s]) ++ r :: B := by rw [List.append_assoc] <;> rfl
  refine ⟨idx_mid h1, ?_, idx_mid h2, ?_⟩
  · rw [e1, idx_mid (by simp [h2, Ne.symm h3])]; simp
  · rw [e2, idx_mid (by simp [h1, h3])]; simp
def both (A B : List Row) (r s : Row) : List (List Row) := sing A ++ [[r, s]] ++ sing B
theorem both_flat : (both A B r s).flatten = A ++ r :: s :: B := by
  unfold both
  rw [List.flatten_append, List.flatten_append, sing_flat, sing_flat, List.flatten_singleton, List.append_assoc] <;> rfl
theorem both_len : (both A B r s).length = A.length + 1 + B.length := by
  unfold both sing
  rw [List.length_append, List.length_append, List.length_map, List.length_map] <;> rfl
/-- the pair does not fall where nothing has changed -/
theorem not_fits (nd : (A ++ r :: s :: B).Nodup) {d : PyData} : ¬ FitsD (A ++ r :: s :: B) (A ++ r :: s :: B) d (ll rd (both A B r s)) := fun ⟨_, _, ds1, ds2, _, e, _, h, _⟩ => by
  obtain ⟨i1, i2, _, _⟩ := swp_idx nd
  cases e
  have m : lg rd [r, s] ∈ (both A B r s).map (lg rd) := List.mem_map.mpr ⟨[r, s], by unfold both; exact List.mem_append_left _ (List.mem_append_right _ List.mem_cons_self), rfl⟩
  obtain ⟨L, eL, _, _, h3⟩ := h _ m
  have eL : L = [r, s] := (map_rd_inj (Option.some.inj eL)).symm
  rw [eL] at h3
  have := (List.pairwise_cons.mp (show Rise _ [s, r] from h3.2)).1 r List.mem_cons_self
  omega
theorem both_ok (nd : (A ++ r :: s :: B).Nodup) : ∀ L ∈ both A B r s, L ≠ [] ∧ RisesC (A ++ r :: s :: B) L ∧ RisesC (A ++ s :: r :: B) L.reverse := by
  obtain ⟨i1, i2, i3, i4⟩ := swp_idx nd
  have m1 : ∀ {x : Row}, x ∈ A ∨ x = r ∨ x = s ∨ x ∈ B → x ∈ A ++ r :: s :: B := fun h => by
    simp only [List.mem_append, List.mem_cons]; exact h
  have m2 : ∀ {x : Row}, x ∈ A ∨ x = r ∨ x = s ∨ x ∈ B → x ∈ A ++ s :: r :: B := fun h => swp_perm.mem_iff.mpr (m1 h)
  intro L hL
  unfold both at hL
  rcases List.mem_append.mp hL with hL | hL
  · rcases List.mem_append.mp hL with hL | hL
    · obtain ⟨x, hx, rfl⟩ := List.mem_map.mp hL
      exact part_one (m1 (.inl hx)) (m2 (.inl hx))
    · rw [List.mem_singleton.mp hL]
      refine ⟨by simp, ⟨fun c hc => ?_, ?_⟩, ⟨fun c hc => ?_, ?_⟩⟩
      · rcases List.mem_cons.mp hc with e | hc
        · rw [e]; exact m1 (.inr (.inl rfl))
        · rw [List.mem_singleton.mp hc]; exact m1 (.inr (.inr (.inl rfl)))
      · exact List.pairwise_cons.mpr ⟨fun x hx => by rw [List.mem_singleton.mp hx]; omega, rise_one⟩
      · have hc : c ∈ [s, r] := hc
        rcases List.mem_cons.mp hc with e | hc
        · rw [e]; exact m2 (.inr (.inr (.inl rfl)))
        · rw [List.mem_singleton.mp hc]; exact m2 (.inr (.inl rfl))
      · show Rise _ [s, r]
        exact List.pairwise_cons.mpr ⟨fun x hx => by rw [List.mem_singleton.mp hx]; omega, rise_one⟩
  · obtain ⟨x, hx, rfl⟩ := List.mem_map.mp hL
    exact part_one (m1 (.inr (.inr (.inr hx)))) (m2 (.inr (.inr (.inr hx))))
theorem swp_chain (nd : (A ++ r :: s :: B).Nodup) : (∀ x ∈ A ++ s :: B, x ∈ A ++ r :: s :: B) ∧ Rise (A ++ r :: s :: B) (A ++ s :: B) ∧ Rise (A ++ s :: r :: B) (A ++ s :: B) := by
  have s1 : (A ++ s :: B).Sublist (A ++ r :: s :: B) := (List.Sublist.refl A).append (List.sublist_cons_self r _)
  have s2 : (A ++ s :: B).Sublist (A ++ s :: r :: B) := (List.Sublist.refl A).append ((List.sublist_cons_self r B).cons_cons s)
  exact ⟨fun x hx => s1.subset hx, (Rise.self nd).sub s1, (Rise.self (swp_perm.nodup_iff.mpr nd)).sub s2⟩
theorem fits_both (nd : (A ++ r :: s :: B).Nodup) : FitsD (A ++ r :: s :: B) (A ++ s :: r :: B) (rl (A ++ s :: B)) (ll rd (both A B r s)) := by
  obtain ⟨c1, c2, c3⟩ := swp_chain nd
  refine fits_own c1 c2 c3 swp_perm ?_ (by rw [both_flat]) (both_ok nd)
  rw [both_len, List.length_append, List.length_cons]
  omega
theorem swp_count (nd : (A ++ r :: s :: B).Nodup) {lev : Row → Nat} {ahd : Row → Option Row} {M : Nat} (L : LevOn [A ++ r :: s :: B, A ++ s :: r :: B] (A ++ r :: s :: B) lev ahd) (hM : IsCount (A ++ r :: s :: B) lev M) : M = A.length + 1 + B.length := by
  obtain ⟨c1, c2, c3⟩ := swp_chain nd
  have a := chain_len L hM c2 c3 c1
  obtain ⟨es, g1, g2, g3, g4⟩ := chain_most L hM
  have b := one_each (rs := A ++ r :: s :: B) (qs := A ++ s :: r :: B) (Ls := both A B r s) (fun M hM => ⟨(both_ok nd M hM).2.1.2, (both_ok nd M hM).2.2.2⟩) g1 g2 fun x hx => by rw [both_flat]; exact g3 x hx
  rw [both_len] at b
  rw [List.length_append, List.length_cons] at a
  omega
theorem swp_len : (A ++ r :: s :: B).length = A.length + 1 + B.length + 1 := by
  rw [List.length_append, List.length_cons, List.length_cons]; omega
theorem swp_cnt (nd : (A ++ r :: s :: B).Nodup) (n : Nat) : Cnt (A ++ r :: s :: B) (A ++ s :: r :: B) n ↔ n = 1 := by
  obtain ⟨lev, ahd, M, L, hM⟩ := lev_all (Ls := [A ++ r :: s :: B, A ++ s :: r :: B]) List.mem_cons_self nd
  rw [cnt_iff L hM, swp_count nd L hM, swp_len]
  omega
theorem drp_mid (h1 : r ∉ A) (h2 : r ∉ B) : drp (A ++ r :: B) r = A ++ B := by
  unfold drp
  have e : ∀ L : List Row, r ∉ L → (L.filter fun q => !decide (q = r)) = L := fun L hL => List.filter_eq_self.mpr fun q hq => by
    rw [decide_eq_false fun z => hL (by rw [← z]; exact hq)] <;> rfl
  rw [List.filter_append, List.filter_cons, e A h1, e B h2]
  simp
theorem swp_drp (nd : (A ++ r :: s :: B).Nodup) : drp (A ++ r :: s :: B) r = A ++ s :: B := by
  obtain ⟨h1, h2, h3, h4, h5, _⟩ := swp_nd nd
  exact drp_mid h1 (by simp [h3, h4])
/-- the move that does it -/
theorem swp_good (nd : (A ++ r :: s :: B).Nodup) : led (A ++ r :: s :: B) [(r, some s)] = some (A ++ s :: r :: B) := by
  obtain ⟨h1, h2, h3, h4, h5, h6⟩ := swp_nd nd
  show done (A ++ r :: s :: B) r (some s) = _
  rw [done_eq ⟨by simp, fun z => h3 (Option.some.inj z).symm, decide_eq_true (by simp)⟩, swp_drp nd]
  have e : at' (A ++ s :: B) (some s) = A.length + 1 := by
    show (A ++ s :: B).idxOf s + 1 = _
    rw [idx_mid h2]
  have e2 : A ++ s :: B = (A ++ [s]) ++ B := by rw [List.append_assoc] <;> rfl
  have e3 : (A ++ [s]).length = A.length + 1 := by rw [List.length_append] <;> rfl
  rw [e, e2, ← e3, List.take_left, List.drop_left, List.append_assoc] <;> rfl
/-- a move to where the row stands -/
theorem swp_idle (nd : (A ++ r :: s :: B).Nodup) : led (A ++ r :: s :: B) [(r, A.getLast?)] = some (A ++ r :: s :: B) := by
  obtain ⟨h1, h2, h3, h4, h5, h6⟩ := swp_nd nd
  show done (A ++ r :: s :: B) r A.getLast? = _
  have mA : ∀ z, A.getLast? = some z → z ∈ A := fun z hz => List.mem_of_getLast? hz
  have iO : inO (A ++ r :: s :: B) A.getLast? = true := by
    cases hz : A.getLast? with
    | none => rfl
    | some z => exact decide_eq_true (List.mem_append_left _ (mA z hz))
  rw [done_eq ⟨by simp, fun z => h1 (mA r z), iO⟩, swp_drp nd]
  have e : at' (A ++ s :: B) A.getLast? = A.length := by
    rcases List.eq_nil_or_concat A with z | ⟨A', z, e⟩
    · rw [z] <;> rfl
    · have e : A = A' ++ [z] := by rw [e, List.concat_eq_append]
      have nz : z ∉ A' := fun hz => by
        have : (A' ++ [z]).Nodup := by rw [← e]; exact (List.nodup_append.mp h6).1
        exact (List.nodup_append.mp this).2.2 z hz z List.mem_cons_self rfl
      rw [e, List.getLast?_concat]
      show ((A' ++ [z]) ++ s :: B).idxOf z + 1 = _
      rw [List.append_assoc]
      show (A' ++ z :: (s :: B)).idxOf z + 1 = _
      rw [idx_mid nz, List.length_append] <;> rfl
  rw [e, List.take_left, List.drop_left]
/-- only the other one will do -/
theorem swp_only (nd : (A ++ r :: s :: B).Nodup) {x : Row} (h : led (A ++ r :: s :: B) [(r, some x)] = some (A ++ s :: r :: B)) : x = s := by
  obtain ⟨h1, h2, h3, h4, h5, h6⟩ := swp_nd nd
  obtain ⟨_, _, _, i4⟩ := swp_idx nd
  have h : done (A ++ r :: s :: B) r (some x) = some (A ++ s :: r :: B) := h
  by_cases c : r ∈ A ++ r :: s :: B ∧ some x ≠ some r ∧ inO (A ++ r :: s :: B) (some x) = true
  · have iD := inO_drp c.2.2 c.2.1
    have al := at_le iD
    rw [done_eq c, swp_drp nd] at h
    rw [swp_drp nd] at iD al
    have hm : x ∈ A ++ s :: B := of_decide_eq_true iD
    have h := Option.some.inj h
    have nr : r ∉ (A ++ s :: B).take (at' (A ++ s :: B) (some x)) := fun z => by
      have := List.mem_of_mem_take z
      rcases List.mem_append.mp this with z | z
      · exact h1 z
      · rcases List.mem_cons.mp z with z | z
        · exact h3 z
        · exact h4 z
    have e1 := idx_mid (B := (A ++ s :: B).drop (at' (A ++ s :: B) (some x))) nr
    rw [h, i4, List.length_take, Nat.min_eq_left al] at e1
    have e1 : A.length + 1 = (A ++ s :: B).idxOf x + 1 := e1
    refine idxOf_inj hm (show s ∈ A ++ s :: B by simp) ?_
    rw [idx_mid h2]
    omega
  · unfold done at h
    rw [if_neg c] at h
    cases h
theorem swp_ne (nd : (A ++ r :: s :: B).Nodup) : A ++ r :: s :: B ≠ A ++ s :: r :: B := fun z => by
  obtain ⟨i1, _, _, i4⟩ := swp_idx nd
  rw [z, i4] at i1
  omega
theorem leads_one (nd : (A ++ r :: s :: B).Nodup) {d : PyData} {m : Move} (e : seqD d = some [mvd m]) : LeadsD (A ++ r :: s :: B) (A ++ s :: r :: B) d ↔ led (A ++ r :: s :: B) [m] = some (A ++ s :: r :: B) := by
  constructor
  · rintro ⟨ds, ms, e', h1, _, h3⟩
    rw [e] at e'
    cases e'
    have : ms = [m] := moves_fn h1 (.cons rfl .nil)
    rw [this] at h3
    exact h3
  · intro h
    exact ⟨_, [m], e, .cons rfl .nil, (swp_cnt nd 1).mpr rfl, h⟩
theorem leads_none (nd : (A ++ r :: s :: B).Nodup) {d : PyData} (e : seqD d = some []) : ¬ LeadsD (A ++ r :: s :: B) (A ++ s :: r :: B) d := fun ⟨ds, ms, e', _, h2, _⟩ => by
  rw [e] at e'
  cases e'
  have := (swp_cnt nd 0).mp h2
  omega
end
end Mv
set_option maxHeartbeats 1000000
/-! _law_long_right. -/
namespace Mv
open PySem PySem.Spec PyProof.Rows L2 Evl
def nn (H : Hp) (a : Addr) : Prop := H a ≠ none
theorem Da.nn {H : Hp} {v : V} {d : PyData} (h : Da H v d) : Dx (nn H) H v d := h.dx fun a o e z => by rw [z] at e; cases e
section
variable {K : PySem.W.Frag} {σ : L2.St} {H : Hp} {ta tb tc td te tl : TE} {x y z v : V} {d : PyData} {B : Addr → Prop} {P R : V → Hp → Prop}
theorem EvN.go {Q : VK} (h : EvN B te σ H d) (q : ∀ v H2, Ex H H2 → Dx (NB B H) H2 v d → Q v H2) : te σ H Q := h H (Ex.refl H) Q q
theorem en_da {i : Nat} (h : σ[i]? = some (some v)) (hd : Da H v d) : EvN (nn H) (tVar i) σ H d := en_var h hd.nn
/-- [e for k in range(n)] -/
theorem en_lcR {ta : TA} {j n : Nat} {vs : List Nat} {es : List PyData} (hB : ∀ a, B a → H a ≠ none) (h : EvA ta σ H [.int (n : Int)]) (hl : es.length = n) (hz : n ≤ 1000) (hw : ∀ x, wipe ((wipe σ vs).set j (some x)) vs = wipe σ vs)
    (he : ∀ (i : Nat) (e : PyData), i < n → es[i]? = some e → EvN B te ((wipe σ vs).set j (some (.int (i : Int)))) H e) : EvN B (tLc (iRng1 ta) (gName j) tYes te vs) σ H (.list es) := fun H0 e0 Q q =>
  h H0 e0 _ fun H1 e1 => ⟨(n : Int), rfl, by omega, by omega, fun Dl hD => by
    have dxi : ∀ n, DxAll B H ((List.range n).map fun i : Nat => V.int (i : Int)) ((List.range n).map fun i : Nat => PyData.int (i : Int)) := fun n => by
      refine .of (paired_of (by rw [List.length_map, List.length_map]) fun i x d hx hd => ?_)
      rw [List.getElem?_map] at hx hd
      obtain ⟨k, hk, rfl⟩ := Option.map_eq_some_iff.mp hx
      rw [hk] at hd
      cases hd
      exact .int _
    have lx : ((List.range n).map fun i : Nat => V.int (i : Int)).length = n := by rw [List.length_map, List.length_range]
    have wk : Walk (Itr 0 ((n : Nat) : Int).toNat) ((List.range n).map fun i : Nat => V.int (i : Int)).length (fun _ => True) (fun i H x H' => H' = H ∧ ((List.range n).map fun i : Nat => V.int (i : Int))[i]? = some x) := by
      have w0 := walk_range (lo := 0) (n := ((n : Nat) : Int).toNat)
      have zn : ((n : Nat) : Int).toNat = n := Int.toNat_natCast n
      rw [lx]
      refine ⟨fun i H' hi g => w0.goes i H' (by rw [zn]; exact hi) g, fun H' g => by have := w0.stops H' g; rwa [zn] at this, fun i H' x H'' hi g y => ?_⟩
      have z := w0.yields i H' x H'' (by rw [zn]; exact hi) g y
      refine ⟨z.1, ?_⟩
      rw [List.getElem?_map, List.getElem?_range hi]
      show some (V.int (i : Int)) = some x
      have z2 : V.int (0 + (i : Int)) = x := z.2.symm
      rw [← z2, Int.zero_add]
    refine en_lcI (xs := (List.range n).map fun i : Nat => V.int (i : Int)) (ds := (List.range n).map fun i : Nat => PyData.int (i : Int)) hB (dxi n) (by rw [List.length_map, List.length_range]; exact hl) (by rw [List.length_map, List.length_range]; exact hz) wk hw (fun i x d e hd he' hx => ?_) e0 e1 hD (fun H' _ => True.intro) q
    rw [List.getElem?_map] at hd
    obtain ⟨k, hk, rfl⟩ := Option.map_eq_some_iff.mp hd
    obtain ⟨hk1, hk2⟩ := List.getElem?_eq_some_iff.mp hk
    rw [List.length_range] at hk1
    rw [List.getElem_range] at hk2
    subst hk2
    cases hx
    exact he i e hk1 he'⟩
/-- over a new tuple -/
theorem el_lcTN {xs out : List V} {j : Nat} {vs : List Nat} (h : EvU tl σ H xs) (hz : xs.length ≤ 40000) (hl : xs.length = out.length) (hw : ∀ x, wipe ((wipe σ vs).set j (some x)) vs = wipe σ vs)
    (he : ∀ (i : Nat) (x y : V) H1, Ex H H1 → xs[i]? = some x → out[i]? = some y → Ev te ((wipe σ vs).set j (some x)) H1 y) : EvL (tLc (iTup K tl) (gName j) tYes te vs) σ H out := fun H0 e Q q =>
  h H0 e _ fun a H1 na e1 ha => ⟨a, rfl, ⟨xs, st_of ha⟩, fun Dl hD => by
    refine lc_tup (xs := xs) (Cw H1 (fun _ => true) (fun i => out.getD i .non) Dl) ⟨hD, Ex.new hD, upd_same⟩ (fun i H' _ p => st_of (p.2.1 _ _ ha)) (fun i x H' hi p => ⟨hw x, cw_turn p (by have := (List.getElem?_eq_some_iff.mp hi).1; omega) et_yes fun _ => ?_⟩) (fun H' p => ?_)
    · have hi2 : i < out.length := by rw [← hl]; exact (List.getElem?_eq_some_iff.mp hi).1
      refine he i x _ H1 (e.trans e1) hi ?_
      rw [List.getD_eq_getElem?_getD, List.getElem?_eq_getElem hi2] <;> rfl
    · have p3 := p.2.2
      rw [hl, given_all] at p3
      exact q Dl H' (fresh_back e1 p.1) (e1.trans p.2.1) p3⟩
theorem ev_call3N {sp : Sp} {E : XK} (ha : Ev ta σ H x) (hb : Ev tb σ H y) (hc : EvP tc σ H P) (hs : ∀ v H1, Ex H H1 → P v H1 → SpV sp [x, y, v] H1 z) : Ev (tCall sp [] E (tCons ta (tCons tb (tCons tc tNil)))) σ H z := fun H1 e Q q =>
  ha H1 e _ fun H2 e2 => hb H2 (e.trans e2) _ fun H3 e3 => hc H3 ((e.trans e2).trans e3) _ fun v H4 e4 hv => hs v H4 (((e.trans e2).trans e3).trans e4) hv H4 (Ex.refl _) Q (fun H5 e5 => q H5 ((e2.trans (e3.trans e4)).trans e5)) E
theorem ev_call4N {sp : Sp} {E : XK} (ha : Ev ta σ H x) (hb : Ev tb σ H y) (hc : EvP tc σ H P) (sP : ∀ {v H1 H2}, P v H1 → Ex H1 H2 → P v H2) (hd : EvP td σ H R) (hs : ∀ u v H1, Ex H H1 → P u H1 → R v H1 → SpV sp [x, y, u, v] H1 z) : Ev (tCall sp [] E (tCons ta (tCons tb (tCons tc (tCons td tNil))))) σ H z := fun H1 e Q q =>
  ha H1 e _ fun H2 e2 => hb H2 (e.trans e2) _ fun H3 e3 => hc H3 ((e.trans e2).trans e3) _ fun u H4 e4 hu => hd H4 (((e.trans e2).trans e3).trans e4) _ fun v H5 e5 hv =>
    hs u v H5 ((((e.trans e2).trans e3).trans e4).trans e5) (sP hu e5) hv H5 (Ex.refl _) Q (fun H6 e6 => q H6 ((e2.trans (e3.trans (e4.trans e5))).trans e6)) E
theorem en_mid {ds : List PyData} {k m : Nat} {t u : TE} (h : EvN B ta σ H (.list ds)) (hk : Ev t σ H (.int (k : Int))) (hm : Ev u σ H (.int (m : Int))) (h1 : k ≤ m) (h2 : m ≤ ds.length) : EvN B (tSl (rSlL K) ta (tPart t) (tPart u)) σ H (.list ((ds.drop k).take (m - k))) :=
  en_sl h (eo_some hk) (eo_some hm) (by rw [HT.sIx_nat, HT.sIx_nat, Nat.min_eq_left h2, Nat.min_eq_left (by omega)])
end
theorem both_data (A B : List Row) (r s : Row) : PyData.list ((((sing (A ++ r :: s :: B)).map (lg rd)).take A.length ++ [PyData.list ((((A ++ r :: s :: B).map rd).drop A.length).take 2)]) ++ ((sing (A ++ r :: s :: B)).map (lg rd)).drop (A.length + 2)) = ll rd (both A B r s) := by
  have e1 : (sing (A ++ r :: s :: B)).map (lg rd) = (sing A).map (lg rd) ++ (lg rd [r] :: lg rd [s] :: (sing B).map (lg rd)) := by
    unfold sing
    rw [List.map_append, List.map_append] <;> rfl
  have l1 : ((sing A).map (lg rd)).length = A.length := by unfold sing; rw [List.length_map, List.length_map]
  have e2 : (A ++ r :: s :: B).map rd = A.map rd ++ (rd r :: rd s :: B.map rd) := by rw [List.map_append] <;> rfl
  have l2 : (A.map rd).length = A.length := List.length_map _
  have t1 : ((sing A).map (lg rd) ++ (lg rd [r] :: lg rd [s] :: (sing B).map (lg rd))).take A.length = (sing A).map (lg rd) := by
    rw [← l1, List.take_left]
  have t2 : ((sing A).map (lg rd) ++ (lg rd [r] :: lg rd [s] :: (sing B).map (lg rd))).drop (A.length + 2) = (sing B).map (lg rd) := by
    rw [← List.drop_drop, ← l1, List.drop_left] <;> rfl
  have t3 : ((A.map rd ++ (rd r :: rd s :: B.map rd)).drop A.length).take 2 = [rd r, rd s] := by
    rw [← l2, List.drop_left] <;> rfl
  rw [e1, e2, t1, t2, t3]
  unfold ll both
  rw [List.map_append, List.map_append] <;> rfl
theorem cut_data (A B : List Row) (r s : Row) : (A ++ r :: s :: B).map rd = A.map rd ++ (rd r :: rd s :: B.map rd) ∧ (((A ++ r :: s :: B).map rd).take A.length) = A.map rd ∧ ((A ++ r :: s :: B).map rd).drop (A.length + 1) = rd s :: B.map rd ∧ ((A ++ r :: s :: B).map rd).drop (A.length + 2) = B.map rd := by
  have e2 : (A ++ r :: s :: B).map rd = A.map rd ++ (rd r :: rd s :: B.map rd) := by rw [List.map_append] <;> rfl
  have l2 : (A.map rd).length = A.length := List.length_map _
  refine ⟨e2, ?_, ?_, ?_⟩
  · rw [e2, ← l2, List.take_left]
  · rw [e2, ← List.drop_drop, ← l2, List.drop_left] <;> rfl
  · rw [e2, ← List.drop_drop, ← l2, List.drop_left] <;> rfl
/-- the rows (k, 7) -/
def krows (n : Nat) : List Row := (List.range n).map fun k : Nat => [(k : Int), 7]
theorem krows_ok {n : Nat} (h : n ≤ 60) : OkRows 2 (krows n) where
  w1 := by decide
  w5 := by decide
  few := by unfold krows; rw [List.length_map, List.length_range]; exact h
  row := fun r hr => by
    obtain ⟨k, hk, rfl⟩ := List.mem_map.mp hr
    have := List.mem_range.mp hk
    refine ⟨rfl, fun i hi => ?_⟩
    rcases List.mem_cons.mp hi with e | hi
    · rw [e]; omega
    · rw [List.mem_singleton.mp hi]; omega
  nd := by
    unfold krows List.Nodup
    rw [List.pairwise_map]
    refine List.Pairwise.imp ?_ (List.nodup_range (n := n))
    intro a b hab e
    injection e with e
    omega
end Mv
set_option maxHeartbeats 1000000
/-! _law_long_right walked. -/
namespace Mv
open PySem PySem.Spec PyProof.Rows L2 Evl
theorem take_two {σ : L2.St} {H : Hp} {p : Addr} {m : Nat} {E : XK} (hB : BoxAt H p m) (hm : m ≤ 100000) {Q : VK} (q : ∀ (n : Nat) (H2 : Hp), 2 ≤ n → n ≤ 60 → ExB p H H2 → BoxAt H2 p (m + 1) → Q (.int (n : Int)) H2) (h0 : σ[0]? = some (some (.ref p)) := by rfl) :
    tOp (rI0 fun i j => .int (i + j)) (tC (.int 2)) (tCall sp__law_take [] E (tCons (tVar 0) (tCons (tC (.int 59)) tNil))) σ H Q := by
  refine take_go (i := 0) h0 ev_c (by decide) (by decide) hB hm fun i0 H1 i0a i0b e1 hB1 => ⟨2, i0, rfl, rfl, ?_⟩
  have e : (2 + i0 : Int) = ((2 + i0).toNat : Nat) := by omega
  show Q (.int (2 + i0)) H1
  rw [e]
  exact q _ H1 (by omega) (by omega) e1 hB1
theorem q_go {te : TE} {t : TA} {g : TG} {tz : TS} {D : Ends} {σ : L2.St} {H : Hp} (h : te σ H (fun v H2 => t σ H2 fun vs H3 => (v :: vs).length ≤ sizeLine ∧ ∀ p, H3 p = none → g (.ref p) σ (upd H3 p (.tup (v :: vs))) (tz D))) : tSeq (tAsg (tTup (tCons te t)) g) tz D σ H := h
section
variable {K : PySem.W.Frag} {σ : L2.St} {H : Hp} {ta tb te : TE} {D : Ends} {tz : TS} {d e : PyData} {B : Addr → Prop} {x y : V}
theorem q_parN {i j : Nat} (ha : EvN B ta σ H d) (hb : EvN B tb σ H e) (k : ∀ v u H1, Ex H H1 → Da H1 v d → Da H1 u e → tz D ((σ.set i (some v)).set j (some u)) H1) : tSeq (tPar i j (tCons ta (tCons tb tNil))) tz D σ H :=
  ha H (Ex.refl H) _ fun v H1 e1 hv => hb H1 e1 _ fun u H2 e2 hu => ⟨v, u, rfl, k v u H2 (e1.trans e2) (hv.da.ex e2) hu.da⟩
theorem rv_neDa (hx : Da H x d) (hy : Da H y e) (sd : Smp d) (se : Smp e) : RV (rNeD K) x y H (.bl (!PyData.eqv d e)) := fun H1 a Q k =>
  ⟨d, e, (hx.ex a).dp sd.1, (hy.ex a).dp se.1, sd.2.1, se.2.1, k H1 (Ex.refl H1)⟩
/-- repr of a list of booleans -/
theorem ev_reprBs {p : Addr} {bs : List Bool} {s : Str} (h : Ev ta σ H (.ref p)) (hp : H p = some (.lst (bs.map V.bl))) (h1 : (PyData.list (bs.map PyData.bool)).showable = true) (h2 : (PyData.list (bs.map PyData.bool)).hasDict = false) (h3 : (PyData.list (bs.map PyData.bool)).depth ≤ 60) (h4 : (PyData.list (bs.map PyData.bool)).shown = s) (h5 : s.length ≤ 1000) : Ev (tCB (rRepr K) (tCons ta tNil)) σ H (.str s) := fun H1 e Q q =>
  h H1 e _ fun H2 e2 => ⟨p, .list (bs.map PyData.bool), rfl, .lst (sq_of ((e.trans e2) _ _ hp)) (dps bs), h1, h2, h3, by rw [h4]; exact Nat.le_trans h5 (Nat.le_of_lt (show 1000 < sizeLine by decide)), by rw [h4]; exact q H2 e2⟩
where
  dps {K : PySem.W.Frag} {H : Hp} : ∀ bs : List Bool, DpAll K H (bs.map V.bl) (bs.map PyData.bool)
    | [] => .nil
    | b :: bs => .cons (.bl b) (dps bs)
end
section
variable {P : Program} {w : World} {K : PySem.W.Frag} {mg : Str → Option Value} {base : Heap} {a : Nat → Addr} {d : Nat → FuncData} {tk : Nat → Tok}
def sp__law_long_right : Sp := fun vs H Q _ => ∃ (p : Addr) (m : Nat), vs = [.ref p] ∧ BoxAt H p m ∧ m ≤ 80000 ∧ ∀ H2, ExB p H H2 → BoxAt H2 p (m + 10) → Q (.bl true) H2
theorem ok__law_long_right (T : All K mg a d tk) : FnG P w K mg base CX0 8 (a 34) (d 34) ["box"] sp__law_long_right := by
  refine okG T.F__law_long_right.fn sc__law_long_right (fun vs H Q E h => ?_) (fun cdv A outer s H vs Q E hgd hr h => ?_)
  · obtain ⟨p, m, rfl, _⟩ := h
    rfl
  · obtain ⟨p, m, rfl, hB, hm, k⟩ := h
    have nd := sc__law_long_right.nd
    have hu64 := hr.units
    refine ⟨_, (pss_cons (ps_set (i := 1) nd rfl (Or.inl rfl) (pe_op op_add pe_int (pe_call (ok__law_take T) (hr.mono (by decide)) rfl T.F__law_take.m T.F__law_take.kp T.F__law_take.b .nil pass0 (pa_cons (pv 0) (pa_cons pe_int pa_nil)))))
 (pss_cons (ps_asg (pe_tup (pa_cons (pe_lc (own := [("k", 11)]) (g := (gName 11)) rfl nd (pi_range1 rfl T.n_range (pa_cons (pv 1) pa_nil)) (blkOk_by (N := N__law_long_right) (sc := defScope s__law_long_right) (by decide +kernel)) (fun _ _ _ _ _ => (pg_name (i := 11) nd rfl (Or.inl rfl))) (fun _ _ _ _ _ => pts_nil) (fun _ _ _ _ _ => (pe_tup (pa_cons (pv 11) (pa_cons pe_int pa_nil))))) (pa_cons (pe_call (ok__law_take T) (hr.mono (by decide)) rfl T.F__law_take.m T.F__law_take.kp T.F__law_take.b .nil pass0 (pa_cons (pv 0) (pa_cons (pe_op op_sub (pv 1) pe_int) pa_nil))) pa_nil))) (pg_tup rfl (pgs_cons (pg_name (i := 2) nd rfl (Or.inr rfl)) (pgs_cons (pg_name (i := 3) nd rfl (Or.inl rfl)) pgs_nil))) (hw := by rfl))
 (pss_cons (ps_setLc (i := 4) (own := [("row", 12)]) (g := (gName 12)) rfl nd rfl rfl (sw_true rfl rfl rfl (by decide +kernel)) (pi_list (pv 2)) (blkOk_by (N := N__law_long_right) (sc := defScope s__law_long_right) (by decide +kernel)) (fun _ _ _ _ _ => (pg_name (i := 12) nd rfl (Or.inl rfl))) (fun _ _ _ _ _ => pts_nil) (fun _ _ _ _ _ => (pe_lst (pa_cons (pv 12) pa_nil))))
 (pss_cons (ps_if (pt_cmpR op_isnot_bl (pe_call (ok_check_papers T) (hr.mono (by decide)) rfl T.F_check_papers.m T.F_check_papers.kp T.F_check_papers.b .nil pass0 (pa_cons (pv 2) (pa_cons (pv 2) (pa_cons (pv 2) (pa_cons (pv 4) pa_nil))))) pe_bl (nomark _))
 (pss_one (ps_ret pe_bl))
 pss_nil)
 (pss_cons (ps_set (i := 5) nd rfl (Or.inl rfl) (pe_op op_cat (pe_op op_cat (pe_slice sl_list (pv 4) po_none (po_some (pv 3))) (pe_lst (pa_cons (pe_slice sl_list (pv 2) (po_some (pv 3)) (po_some (pe_op op_add (pv 3) pe_int))) pa_nil))) (pe_slice sl_list (pv 4) (po_some (pe_op op_add (pv 3) pe_int)) po_none)))
 (pss_cons (ps_if (pt_cmpR op_isnot_bl (pe_call (ok_check_papers T) (hr.mono (by decide)) rfl T.F_check_papers.m T.F_check_papers.kp T.F_check_papers.b .nil pass0 (pa_cons (pv 2) (pa_cons (pv 2) (pa_cons (pe_op op_cat (pe_slice sl_list (pv 2) po_none (po_some (pv 3))) (pe_slice sl_list (pv 2) (po_some (pe_op op_add (pv 3) pe_int)) po_none)) (pa_cons (pv 5) pa_nil))))) pe_bl (nomark _))
 (pss_one (ps_ret pe_bl))
 pss_nil)
 (pss_cons (ps_set (i := 6) nd rfl (Or.inr rfl) (pe_op op_cat (pe_op op_cat (pe_slice sl_list (pv 2) po_none (po_some (pv 3))) (pe_lst (pa_cons (pe_ix ix_list (pv 2) (pe_op op_add (pv 3) pe_int) (fun _ _ => rfl)) (pa_cons (pe_ix ix_list (pv 2) (pv 3) (fun _ _ => rfl)) pa_nil)))) (pe_slice sl_list (pv 2) (po_some (pe_op op_add (pv 3) pe_int)) po_none)))
 (pss_cons (ps_if (pt_cmpR op_isnot_bl (pe_call (ok_check_papers T) (hr.mono (by decide)) rfl T.F_check_papers.m T.F_check_papers.kp T.F_check_papers.b .nil pass0 (pa_cons (pv 2) (pa_cons (pv 6) (pa_cons (pe_op op_cat (pe_slice sl_list (pv 2) po_none (po_some (pv 3))) (pe_slice sl_list (pv 2) (po_some (pe_op op_add (pv 3) pe_int)) po_none)) (pa_cons (pv 5) pa_nil))))) pe_bl (nomark _))
 (pss_one (ps_ret pe_bl))
 pss_nil)
 (pss_cons (ps_par (i := 7) (j := 8) rfl nd rfl rfl (by decide) rfl rfl (pa_cons (pe_tup (pa_cons (pe_ix ix_list (pv 2) (pv 3) (fun _ _ => rfl)) (pa_cons (pe_ix ix_list (pv 2) (pe_op op_add (pv 3) pe_int) (fun _ _ => rfl)) pa_nil))) (pa_cons (pe_tup (pa_cons (pe_ix ix_list (pv 2) (pv 3) (fun _ _ => rfl)) (pa_cons (pe_ifExp (pt_cmpR op_gt (pv 3) pe_int (nomark _)) (pe_ix ix_list (pv 2) (pe_op op_sub (pv 3) pe_int) (fun _ _ => rfl)) pe_non) pa_nil))) pa_nil)) (by rfl))
 (pss_cons (ps_set (i := 9) nd rfl (Or.inl rfl) (pe_tup (pa_cons (pe_ix ix_list (pv 2) (pv 3) (fun _ _ => rfl)) (pa_cons (pe_ifExp (pt_cmpR op_lt (pe_op op_add (pv 3) pe_int) (pv 1) (nomark _)) (pe_ix ix_list (pv 2) (pe_op op_add (pv 3) pe_int) (fun _ _ => rfl)) (pe_ix ix_list (pv 2) pe_int (fun _ _ => rfl))) pa_nil))))
 (pss_cons (ps_set (i := 10) nd rfl (Or.inl rfl) (pe_op op_cat (pe_lc (own := [("move", 13)]) (g := (gName 13)) rfl nd (pi_tup (pe_tup (pa_cons (pv 7) (pa_cons (pv 8) pa_nil)))) (blkOk_by (N := N__law_long_right) (sc := defScope s__law_long_right) (by decide +kernel)) (fun _ _ _ _ _ => (pg_name (i := 13) nd rfl (Or.inl rfl))) (fun _ _ _ _ _ => pts_nil) (fun _ _ _ _ _ => (pe_call (ok_check_moves T) (hr.mono (by decide)) rfl T.F_check_moves.m T.F_check_moves.kp T.F_check_moves.b .nil pass0 (pa_cons (pv 2) (pa_cons (pv 6) (pa_cons (pe_lst (pa_cons (pv 13) pa_nil)) pa_nil)))))) (pe_lst (pa_cons (pe_call (ok_check_moves T) (hr.mono (by decide)) rfl T.F_check_moves.m T.F_check_moves.kp T.F_check_moves.b .nil pass0 (pa_cons (pv 2) (pa_cons (pv 6) (pa_cons (pe_lst pa_nil) pa_nil)))) pa_nil))))
 (pss_cons (ps_if (PW.pt (pw_and (pt_cmpR (op_neD hu64) (pe_ix ix_seq (pv 9) pe_int (fun _ _ => rfl)) (pe_ix ix_seq (pv 9) pe_int (fun _ _ => rfl)) (nomark _)) (pw_and (pt_cmpR op_gt (pv 1) pe_int (nomark _)) (pw_and1 (pt_cmpR op_isnot_bl (pe_call (ok_check_moves T) (hr.mono (by decide)) rfl T.F_check_moves.m T.F_check_moves.kp T.F_check_moves.b .nil pass0 (pa_cons (pv 2) (pa_cons (pv 6) (pa_cons (pe_lst (pa_cons (pv 9) pa_nil)) pa_nil)))) pe_bl (nomark _))))))
 (pss_one (ps_ret pe_bl))
 pss_nil)
 (pss_one (ps_ret (pe_cmpR op_eq (pe_callB (call_repr hgd hr.units) (by rfl) T.n_repr PyProof.Rows.boot_repr (pa_cons (pv 10) pa_nil)) pe_str (nomark _)))))))))))))))), ?_⟩
    refine take_two hB (by omega) fun n H1 n2 n60 e1 hB1 => ?_
    have ok := krows_ok n60
    have lk : (krows n).length = n := by unfold krows; rw [List.length_map, List.length_range]
    refine q_go (EvN.go (B := nn H1) (d := rl (krows n)) (te := tLc (iRng1 (tCons (tVar 1) tNil)) (gName 11) tYes (tTup (tCons (tVar 11) (tCons (tC (.int 7)) tNil))) [11]) (σ := [some (.ref p), some (.int (n : Int)), none, none, none, none, none, none, none, none, none, none, none, none]) (en_lcR (n := n) (fun _ h => h) (ea_cons (ev_var rfl) ea_nil) (by rw [List.length_map, lk]) (by omega) (fun _ => rfl) fun i e hi he => ?_) fun rv H2 e2 hrv => ?_)
    · rw [List.getElem?_map] at he
      obtain ⟨r, hr', rfl⟩ := Option.map_eq_some_iff.mp he
      unfold krows at hr'
      rw [List.getElem?_map, List.getElem?_range hi] at hr'
      cases hr'
      exact en_tup (ens_cons (en_var (i := 11) rfl (.int _)) (ens_cons en_int ens_nil)) (show 2 ≤ 100000 by decide)
    have hB2 := hB1.ex e2
    refine take_go (i := 0) (σ := [some (.ref p), some (.int (n : Int)), none, none, none, none, none, none, none, none, none, none, none, none]) (tm := tOp (rI0 fun i j => .int (i - j)) (tVar 1) (tC (.int 1))) (m := (n : Int) - 1) rfl (ev_I0 (ev_var rfl) ev_c) (by omega) (by omega) hB2 (by omega) fun at_ H3 a0 a1 e3 hB3 => ⟨sz_of (show 2 ≤ 100000 by decide), fun t nt => ?_⟩
    have eT : Ex H3 (upd H3 t (.tup [rv, .int at_])) := Ex.new nt
    refine ⟨t, _, rfl, st_of upd_same, rfl, _, _, rfl, _, _, rfl, rfl, ?_⟩
    obtain ⟨k0, rfl, hk0⟩ : ∃ k0 : Nat, at_ = (k0 : Int) ∧ k0 + 1 < n := ⟨at_.toNat, by omega, by omega⟩
    obtain ⟨A, r, s, B, eR, lA⟩ : ∃ A r s B, krows n = A ++ r :: s :: B ∧ A.length = k0 := by
      have h1 : k0 < (krows n).length := by omega
      have h2 : k0 + 1 < (krows n).length := by omega
      refine ⟨(krows n).take k0, (krows n)[k0], (krows n)[k0 + 1], (krows n).drop (k0 + 2), ?_, by rw [List.length_take]; omega⟩
      rw [← List.drop_eq_getElem_cons h2, ← List.drop_eq_getElem_cons h1, List.take_append_drop]
    subst lA
    rw [eR] at ok lk hrv
    have ndR := ok.nd
    have lAB : A.length + 1 + B.length + 1 = n := by rw [← swp_len (r := r) (s := s), lk]
    have pmS : (A ++ s :: r :: B).Perm (A ++ r :: s :: B) := swp_perm
    have rw2 : LRw H2 rv (A ++ r :: s :: B) := Dx.lrw hrv
    have rw4 : LRw (upd H3 t (.tup [rv, .int (A.length : Int)])) rv (A ++ r :: s :: B) := LRw.ex (rw2.exB hB2 e3) eT
    have eB4 : ExB p H (upd H3 t (.tup [rv, .int (A.length : Int)])) := ((e1.trans (Ex.b e2)).trans e3).trans (Ex.b eT)
    have hB4 : BoxAt (upd H3 t (.tup [rv, .int (A.length : Int)])) p (m + 2) := hB3.ex eT
    clear hrv rw2
    generalize upd H3 t (.tup [rv, .int (A.length : Int)]) = H4 at *
    obtain ⟨c1, c2, c3, c4⟩ := cut_data A B r s
    have fin : ∀ {H' : Hp}, Ex H4 H' → Q (.bl true) H' := fun e' => k _ (eB4.trans (Ex.b e')) ((hB4.ex e').mono (by omega))
    have rlen : ∀ x ∈ A ++ r :: s :: B, x.length ≤ 1000 := fun x hx => ok.short hx
    have daR : ∀ {H' : Hp}, Ex H4 H' → Da H' rv (rl (A ++ r :: s :: B)) := fun e' => (LRw.dx (S := fun _ => True) (LRw.ex rw4 e') (fun _ _ _ => True.intro) fun _ _ => True.intro).da
    obtain ⟨rb', rs', erv, hrb', hrp'⟩ := id rw4
    subst erv
    have lrs : rs'.length = A.length + 1 + B.length + 1 := by rw [Paired.length hrp', swp_len]
    refine q_asgN (B := nn H4) (d := ll rd (sing (A ++ r :: s :: B))) (te := tLc (iList K (tVar 2)) (gName 12) tYes (tLst (tCons (tVar 12) tNil)) [12]) (en_lcL (fun _ h => h) (ev_var rfl) hrb' (DxAll.of (Paired.imp (fun _ _ h => h) (DaAll.dx (S := nn H4) (fun a o e z => by rw [z] at e; cases e) (rows_da hrp')).p)) (by unfold sing; rw [List.length_map, List.length_map, List.length_map]) (by rw [List.length_map, swp_len]; omega) (fun _ => rfl) fun i x d e hd he hx => ?_) fun pv H5 e5 hpv => ?_
    · unfold sing at he
      rw [List.map_map, List.getElem?_map] at he
      rw [List.getElem?_map] at hd
      obtain ⟨c, hc, rfl⟩ := Option.map_eq_some_iff.mp hd
      rw [hc] at he
      cases he
      exact en_lst (ens_cons (en_var rfl hx) ens_nil) (show 1 ≤ 100000 by decide)
    have daP := hpv.da
    have dS : DomS (rl (A ++ r :: s :: B)) := dom_lg (g := rd) (by rw [swp_len]; omega) fun x hx => Smp.row x (rlen x hx)
    have dP : DomP (ll rd (sing (A ++ r :: s :: B))) := dom_ll (by unfold sing; rw [List.length_map, swp_len]; omega) (by rw [sing_flat, swp_len]; omega) fun x hx => Smp.row x (rlen x (by rwa [sing_flat] at hx))
    have t1 := ev_call (E := E0) (σ := [some (.ref p), some (.int (n : Int)), some (.ref rb'), some (.int (A.length : Int)), some pv, none, none, none, none, none, none, none, none, none]) (H := H5) (ta := tCons (tVar 2) (tCons (tVar 2) (tCons (tVar 2) (tCons (tVar 4) tNil)))) (ea_cons (ev_var rfl) (ea_cons (ev_var rfl) (ea_cons (ev_var rfl) (ea_cons (ev_var rfl) ea_nil)))) (spv_papers (LRw.rws (LRw.ex rw4 e5)) (LRw.rws (LRw.ex rw4 e5)) ok (.refl _) (daR e5) daP dS.one dP.two)
    rw [rb_yes (fits_sing ndR)] at t1
    refine q_when (b := false) (et_is (et_test (ev_op t1 ev_c rv_isnot)) (by decide)) (fun h => nomatch h) fun _ H6 e6 => ?_
    have e46 := e5.trans e6
    have vR : ∀ {H' : Hp} {σ' : L2.St}, Ex H4 H' → σ'[2]? = some (some (.ref rb')) → EvN (nn H') (tVar 2) σ' H' (.list ((A ++ r :: s :: B).map rd)) := fun e' hσ => en_da hσ (daR e')
    have vA : ∀ {H' : Hp} {σ' : L2.St}, σ'[3]? = some (some (.int (A.length : Int))) → Ev (tVar 3) σ' H' (.int (A.length : Int)) := fun hσ => ev_var hσ
    have vA1 : ∀ {H' : Hp} {σ' : L2.St}, σ'[3]? = some (some (.int (A.length : Int))) → Ev (tOp (rI0 fun i j => .int (i + j)) (tVar 3) (tC (.int 1))) σ' H' (.int ((A.length + 1 : Nat) : Int)) := fun hσ => ev_is (ev_I0 (ev_var hσ) ev_c) (congrArg V.int (by omega))
    have vA2 : ∀ {H' : Hp} {σ' : L2.St}, σ'[3]? = some (some (.int (A.length : Int))) → Ev (tOp (rI0 fun i j => .int (i + j)) (tVar 3) (tC (.int 2))) σ' H' (.int ((A.length + 2 : Nat) : Int)) := fun hσ => ev_is (ev_I0 (ev_var hσ) ev_c) (congrArg V.int (by omega))
    have lmap : ((A ++ r :: s :: B).map rd).length = n := by rw [List.length_map, swp_len]; exact lAB
    refine q_asgN (B := nn H6) (d := ll rd (both A B r s)) ?_ fun bv H7 e7 hbv => ?_
    · rw [← both_data]
      refine en_cat (en_cat (en_to (k := A.length) (en_da (i := 4) rfl (daP.ex e6)) (vA rfl)) (en_lst (ens_cons ?_ ens_nil) (show 1 ≤ 100000 by decide)) (by rw [List.length_take]; show _ + 1 ≤ 100000; omega)) (en_from (k := A.length + 2) (en_da (i := 4) rfl (daP.ex e6)) (vA2 rfl)) ?_
      · have z := en_mid (K := K) (k := A.length) (m := A.length + 2) (vR (σ' := [some (.ref p), some (.int (n : Int)), some (.ref rb'), some (.int (A.length : Int)), some pv, none, none, none, none, none, none, none, none, none]) e46 rfl) (vA rfl) (vA2 rfl) (by omega) (by omega)
        have e : A.length + 2 - A.length = 2 := by omega
        rwa [e] at z
      · rw [List.length_append, List.length_take, List.length_drop, List.length_map]
        unfold sing
        rw [List.length_map, swp_len]
        show _ + 1 + _ ≤ 100000
        omega
    have daB := hbv.da
    have e47 := e46.trans e7
    have dB : DomP (ll rd (both A B r s)) := dom_ll (by rw [both_len]; omega) (by rw [both_flat, swp_len]; omega) fun x hx => Smp.row x (rlen x (by rwa [both_flat] at hx))
    have dC : DomS (rl (A ++ s :: B)) := dom_lg (g := rd) (by rw [List.length_append, List.length_cons]; omega) fun x hx => Smp.row x (rlen x ((swp_chain ndR).1 x hx))
    have cutE : ∀ {H' : Hp} {σ' : L2.St}, Ex H4 H' → σ'[2]? = some (some (.ref rb')) → σ'[3]? = some (some (.int (A.length : Int))) → EvP (tOp rCat (tSl (rSlL K) (tVar 2) tNoPart (tPart (tVar 3))) (tSl (rSlL K) (tVar 2) (tPart (tOp (rI0 fun i j => .int (i + j)) (tVar 3) (tC (.int 1)))) tNoPart)) σ' H' (fun v H2 => Da H2 v (rl (A ++ s :: B))) := by
      intro H' σ' e' h2 h3
      have z := en_cat (en_to (K := K) (k := A.length) (vR e' h2) (vA h3)) (en_from (K := K) (k := A.length + 1) (vR e' h2) (vA1 h3)) (by rw [List.length_take, List.length_drop]; omega)
      rw [c2, c3] at z
      have ee : A.map rd ++ (rd s :: B.map rd) = (A ++ s :: B).map rd := by rw [List.map_append] <;> rfl
      rw [ee] at z
      exact z.ep
    have t2 := ev_call4N (E := E0) (σ := [some (.ref p), some (.int (n : Int)), some (.ref rb'), some (.int (A.length : Int)), some pv, some bv, none, none, none, none, none, none, none, none]) (H := H7) (ta := tVar 2) (tb := tVar 2) (td := tVar 5) (z := .bl false) (ev_var rfl) (ev_var rfl) (cutE e47 rfl rfl) (fun h e => Da.ex e h) (Ev.p (ev_var rfl)) (fun u v H' e' hu hv => by
      subst hv
      have z := spv_papers (LRw.rws (LRw.ex rw4 (e47.trans e'))) (LRw.rws (LRw.ex rw4 (e47.trans e'))) ok (.refl _) hu (daB.ex e') dC.one dB.two
      rwa [rb_no (not_fits ndR)] at z)
    refine q_when (b := false) (et_is (et_test (ev_op t2 ev_c rv_isnot)) (by decide)) (fun h => nomatch h) fun _ H8 e8 => ?_
    have e48 := e47.trans e8
    refine q_asgN (B := nn H8) (d := rl (A ++ s :: r :: B)) ?_ fun sv H9 e9 hsv => ?_
    · have ixr : atI ((A ++ r :: s :: B).map rd) (A.length : Int) = some (rd r) := atI_nat (by rw [c1, List.getElem?_append_right (by rw [List.length_map]; exact Nat.le_refl _), List.length_map, Nat.sub_self] <;> rfl)
      have ixs : atI ((A ++ r :: s :: B).map rd) ((A.length + 1 : Nat) : Int) = some (rd s) := atI_nat (by rw [c1, List.getElem?_append_right (by rw [List.length_map]; omega), List.length_map, Nat.add_sub_cancel_left] <;> rfl)
      have z := en_cat (en_cat (en_to (K := K) (k := A.length) (vR (σ' := [some (.ref p), some (.int (n : Int)), some (.ref rb'), some (.int (A.length : Int)), some pv, some bv, none, none, none, none, none, none, none, none]) e48 rfl) (vA rfl)) (en_lst (ens_cons (en_ixL (K := K) (vR e48 rfl) (vA1 rfl) ixs) (ens_cons (en_ixL (K := K) (vR e48 rfl) (vA rfl) ixr) ens_nil)) (show 2 ≤ 100000 by decide)) (by rw [List.length_take]; show _ + 2 ≤ 100000; omega)) (en_from (K := K) (k := A.length + 2) (vR e48 rfl) (vA2 rfl)) (by rw [List.length_append, List.length_take, List.length_drop]; show _ + 2 + _ ≤ 100000; omega)
      rw [c2, c4] at z
      have ee : A.map rd ++ [rd s, rd r] ++ B.map rd = (A ++ s :: r :: B).map rd := by rw [List.append_assoc, List.map_append] <;> rfl
      rw [ee] at z
      exact z
    have sw9 : LRw H9 sv (A ++ s :: r :: B) := Dx.lrw hsv
    have e49 := e48.trans e9
    have oq := ok.perm pmS
    have t3 := ev_call4N (E := E0) (σ := [some (.ref p), some (.int (n : Int)), some (.ref rb'), some (.int (A.length : Int)), some pv, some bv, some sv, none, none, none, none, none, none, none]) (H := H9) (ta := tVar 2) (tb := tVar 6) (td := tVar 5) (z := .bl true) (ev_var rfl) (ev_var rfl) (cutE e49 rfl rfl) (fun h e => Da.ex e h) (Ev.p (ev_var rfl)) (fun u v H' e' hu hv => by
      subst hv
      have z := spv_papers (LRw.rws (LRw.ex rw4 (e49.trans e'))) (LRw.rws (LRw.ex sw9 e')) ok pmS hu (daB.ex (e8.trans (e9.trans e'))) dC.one dB.two
      rwa [rb_yes (fits_both ndR)] at z)
    refine q_when (b := false) (et_is (et_test (ev_op t3 ev_c rv_isnot)) (by decide)) (fun h => nomatch h) fun _ H10 e10 => ?_
    have e410 := e49.trans e10
    have atR : ∀ {i : Nat} {x : Row}, (A ++ r :: s :: B)[i]? = some x → atI ((A ++ r :: s :: B).map rd) (i : Int) = some (rd x) := fun h => atI_nat (by rw [List.getElem?_map, h] <;> rfl)
    have gr : (A ++ r :: s :: B)[A.length]? = some r := by rw [List.getElem?_append_right (Nat.le_refl _), Nat.sub_self] <;> rfl
    have gs : (A ++ r :: s :: B)[A.length + 1]? = some s := by rw [List.getElem?_append_right (by omega), Nat.add_sub_cancel_left] <;> rfl
    obtain ⟨n1, n2', n3, n4, n5, _⟩ := swp_nd ndR
    refine q_parN (B := nn H10) (d := mvd (r, some s)) (e := mvd (r, A.getLast?)) (en_tup (ens_cons (en_ixL (K := K) (vR e410 rfl) (vA rfl) (atR gr)) (ens_cons (en_ixL (K := K) (vR e410 rfl) (vA1 rfl) (atR gs)) ens_nil)) (show 2 ≤ 100000 by decide)) (en_tup (ens_cons (en_ixL (K := K) (vR e410 rfl) (vA rfl) (atR gr)) (ens_cons (en_if (b := decide ((0 : Int) < (A.length : Int))) (et_I0 (g := fun i j => decide (j < i)) (ev_var rfl) ev_c) (fun h => ?_) fun h => ?_) ens_nil)) (show 2 ≤ 100000 by decide)) fun gv iv H11 e11 hgv hiv => ?_
    · have h := of_decide_eq_true h
      obtain ⟨j, hj⟩ : ∃ j, A.length = j + 1 := ⟨A.length - 1, by omega⟩
      have hl : A.getLast? = A[j]? := by rw [List.getLast?_eq_getElem?, hj] <;> rfl
      have hjA : j < A.length := by omega
      rw [hl, List.getElem?_eq_getElem hjA]
      exact en_ixL (K := K) (i := (j : Int)) (vR e410 rfl) (ev_is (ev_I0 (g := fun i j => .int (i - j)) (ev_var rfl) ev_c) (congrArg V.int (by omega))) (atR (by rw [List.getElem?_append_left hjA, List.getElem?_eq_getElem hjA]))
    · have h := of_decide_eq_false h
      have : A = [] := List.length_eq_zero_iff.mp (by omega)
      rw [this]
      exact en_non
    have e411 := e410.trans e11
    obtain ⟨x, hx, hxE, hxs⟩ : ∃ x, x ∈ A ++ r :: s :: B ∧ EvN (nn H11) (tIf (tTest (tOp (rI0 fun i j => .bl (decide (i < j))) (tOp (rI0 fun i j => .int (i + j)) (tVar 3) (tC (.int 2))) (tVar 1))) (tOp (rIxL K) (tVar 2) (tOp (rI0 fun i j => .int (i + j)) (tVar 3) (tC (.int 2)))) (tOp (rIxL K) (tVar 2) (tC (.int 0)))) [some (.ref p), some (.int (n : Int)), some (.ref rb'), some (.int (A.length : Int)), some pv, some bv, some sv, some gv, some iv, none, none, none, none, none] H11 (rd x) ∧ (x ≠ r → 2 < n → x ≠ s) := by
      have tE : EvT (tTest (tOp (rI0 fun i j => .bl (decide (i < j))) (tOp (rI0 fun i j => .int (i + j)) (tVar 3) (tC (.int 2))) (tVar 1))) [some (.ref p), some (.int (n : Int)), some (.ref rb'), some (.int (A.length : Int)), some pv, some bv, some sv, some gv, some iv, none, none, none, none, none] H11 (decide (((A.length + 2 : Nat) : Int) < (n : Int))) := et_I0 (g := fun i j => decide (i < j)) (vA2 rfl) (ev_var rfl)
      cases B with
      | cons b B' =>
        refine ⟨b, by simp, en_if tE (fun _ => en_ixL (K := K) (vR e411 rfl) (vA2 rfl) (atR ?_)) fun h => ?_, fun _ _ z => n5 (by rw [← z]; exact List.mem_cons_self)⟩
        · rw [List.getElem?_append_right (by omega), Nat.add_sub_cancel_left] <;> rfl
        · have := of_decide_eq_false h
          rw [List.length_cons] at lAB
          omega
      | nil =>
        have hno : ∀ {α : Prop}, decide (((A.length + 2 : Nat) : Int) < (n : Int)) = true → α := fun h => by
          have := of_decide_eq_true h
          have l0 : ([] : List Row).length = 0 := rfl
          omega
        cases A with
        | nil => exact ⟨r, by simp, en_if tE (fun h => hno h) fun _ => en_ixL (K := K) (i := ((0 : Nat) : Int)) (vR e411 rfl) ev_c (atR rfl), fun h => absurd rfl h⟩
        | cons q0 A' => exact ⟨q0, by simp, en_if tE (fun h => hno h) fun _ => en_ixL (K := K) (i := ((0 : Nat) : Int)) (vR e411 rfl) ev_c (atR rfl), fun _ _ z => n2' (by rw [← z]; exact List.mem_cons_self)⟩
    refine q_asgN (B := nn H11) (d := mvd (r, some x)) (en_tup (ens_cons (en_ixL (K := K) (vR e411 rfl) (vA rfl) (atR gr)) (ens_cons hxE ens_nil)) (show 2 ≤ 100000 by decide)) fun fv H12 e12 hfv => ?_
    have e412 := e411.trans e12
    have dFv := hfv.da
    have one : ∀ {H' : Hp} {σ' : L2.St} {v : V} {mv : Move} {i : Nat}, Ex H12 H' → σ'[2]? = some (some (.ref rb')) → σ'[6]? = some (some sv) → σ'[i]? = some (some v) → Da H' v (mvd mv) → Ev (tCall sp_check_moves [] E0 (tCons (tVar 2) (tCons (tVar 6) (tCons (tLst (tCons (tVar i) tNil)) tNil)))) σ' H' (.bl (rb (led (A ++ r :: s :: B) [mv] = some (A ++ s :: r :: B)))) := by
      intro H' σ' v mv i e' h2 h6 hi hd
      refine ev_call3N (ev_var h2) (ev_var h6) (EvN.ep (en_lst (ens_cons (en_da hi hd) ens_nil) (show 1 ≤ 100000 by decide))) fun u H'' e'' hu => ?_
      have z := spv_leads (LRw.rws (LRw.ex rw4 (e412.trans (e'.trans e'')))) (LRw.rws (LRw.ex sw9 ((e10.trans (e11.trans e12)).trans (e'.trans e'')))) ok pmS hu fun ds e => by cases e; exact (show 1 ≤ 1000 by decide)
      have ee : rb (LeadsD (A ++ r :: s :: B) (A ++ s :: r :: B) (.list [mvd mv])) = rb (led (A ++ r :: s :: B) [mv] = some (A ++ s :: r :: B)) := rb_eq (by rw [rb_iff]; exact leads_one ndR rfl)
      rwa [ee] at z
    have emp : ∀ {H' : Hp} {σ' : L2.St}, Ex H12 H' → σ'[2]? = some (some (.ref rb')) → σ'[6]? = some (some sv) → Ev (tCall sp_check_moves [] E0 (tCons (tVar 2) (tCons (tVar 6) (tCons (tLst tNil) tNil)))) σ' H' (.bl false) := by
      intro H' σ' e' h2 h6
      refine ev_call3N (ev_var h2) (ev_var h6) (EvN.ep (B := nn H') (en_lst ens_nil (Nat.zero_le _))) fun u H'' e'' hu => ?_
      have z := spv_leads (LRw.rws (LRw.ex rw4 (e412.trans (e'.trans e'')))) (LRw.rws (LRw.ex sw9 ((e10.trans (e11.trans e12)).trans (e'.trans e'')))) ok pmS hu fun ds e => by cases e; exact Nat.zero_le _
      rwa [rb_no (leads_none ndR rfl)] at z
    have nidle : ¬ (led (A ++ r :: s :: B) [(r, A.getLast?)] = some (A ++ s :: r :: B)) := fun h => by
      rw [swp_idle ndR] at h
      exact swp_ne ndR (Option.some.inj h)
    have f1 : EvL (tLc (iTup K (tTup (tCons (tVar 7) (tCons (tVar 8) tNil)))) (gName 13) tYes (tCall sp_check_moves [] E0 (tCons (tVar 2) (tCons (tVar 6) (tCons (tLst (tCons (tVar 13) tNil)) tNil)))) [13]) [some (.ref p), some (.int (n : Int)), some (.ref rb'), some (.int (A.length : Int)), some pv, some bv, some sv, some gv, some iv, some fv, none, none, none, none] H12 [.bl true, .bl false] :=
      el_lcTN (xs := [gv, iv]) (eu_tup (ea_cons (ev_var rfl) (ea_cons (ev_var rfl) ea_nil)) (show 2 ≤ 100000 by decide)) (show 2 ≤ 40000 by decide) rfl (fun _ => rfl) fun i u y H' e' hu hy => by
        match i, hu, hy with
        | 0, hu, hy =>
          cases hu
          cases hy
          have z := one (i := 13) (mv := (r, some s)) (σ' := (wipe [some (.ref p), some (.int (n : Int)), some (.ref rb'), some (.int (A.length : Int)), some pv, some bv, some sv, some gv, some iv, some fv, none, none, none, none] [13]).set 13 (some gv)) e' rfl rfl rfl (hgv.ex (e12.trans e'))
          rwa [rb_yes (swp_good ndR)] at z
        | 1, hu, hy =>
          cases hu
          cases hy
          have z := one (i := 13) (mv := (r, A.getLast?)) (σ' := (wipe [some (.ref p), some (.int (n : Int)), some (.ref rb'), some (.int (A.length : Int)), some pv, some bv, some sv, some gv, some iv, some fv, none, none, none, none] [13]).set 13 (some iv)) e' rfl rfl rfl (hiv.ex (e12.trans e'))
          rwa [rb_no nidle] at z
        | i + 2, hu, hy => simp at hu
    refine q_asgL (el_catG (EvL.g f1) (EvL.g (el_lst (ea_cons (emp (Ex.refl _) rfl rfl) ea_nil) (show 1 ≤ 100000 by decide))) (show 3 ≤ 100000 by decide)) fun fb H13 nfb e13 hfb => ?_
    obtain ⟨fa, fxs, rfl, hfa, hfp⟩ := Da.tup' dFv
    cases hfp with
    | cons y1 t =>
    rename_i u1 _
    cases t with
    | cons y2 t =>
    rename_i u2 _
    cases t
    have tq : EvT (tAnd (tTest (tOp (rNeD K) (tOp (rIx K) (tVar 9) (tC (.int 0))) (tOp (rIx K) (tVar 9) (tC (.int 1))))) (tAnd (tTest (tOp (rI0 fun i j => .bl (decide (j < i))) (tVar 1) (tC (.int 2)))) (tTest (tOp (fun x y H Q => ∃ a b, x = .bl a ∧ y = .bl b ∧ Q (.bl (!decide (a = b))) H) (tCall sp_check_moves [] E0 (tCons (tVar 2) (tCons (tVar 6) (tCons (tLst (tCons (tVar 9) tNil)) tNil)))) (tC (.bl false)))))) [some (.ref p), some (.int (n : Int)), some (.ref rb'), some (.int (A.length : Int)), some pv, some bv, some sv, some gv, some iv, some (.ref fa), some (.ref fb), none, none, none] H13 ((!PyData.eqv (rd r) (rd x)) && (decide ((2 : Int) < (n : Int)) && !decide (rb (led (A ++ r :: s :: B) [(r, some x)] = some (A ++ s :: r :: B)) = false))) :=
      et_and (et_test (ev_op (ev_ixS (i := 0) (ev_var rfl) ev_c (.inr (e13 _ _ hfa)) rfl) (ev_ixS (i := 1) (ev_var rfl) ev_c (.inr (e13 _ _ hfa)) rfl) (rv_neDa (y1.ex e13) (y2.ex e13) (Smp.row r (rlen r (by simp))) (Smp.row x (rlen x hx))))) fun _ => et_and (et_I0 (g := fun i j => decide (j < i)) (ev_var rfl) ev_c) fun _ => et_test (ev_op (one (i := 9) (mv := (r, some x)) e13 rfl rfl rfl (dFv.ex e13)) ev_c rv_isnot)
    refine q_when (b := false) (et_is tq ?_) (fun h => nomatch h) fun _ H14 e14 => ?_
    · rw [eqv_row]
      by_cases h1 : r = x
      · rw [decide_eq_true h1] <;> rfl
      · by_cases h2 : (2 : Int) < (n : Int)
        · have h3 : ¬ (led (A ++ r :: s :: B) [(r, some x)] = some (A ++ s :: r :: B)) := fun h => hxs (fun z => h1 z.symm) (by omega) (swp_only ndR h)
          rw [rb_no h3, decide_eq_true rfl, Bool.not_true, Bool.and_false, Bool.and_false]
        · rw [decide_eq_false h2, Bool.false_and, Bool.and_false]
    have e414 := e412.trans (e13.trans e14)
    refine s_ret (ev_is (ev_op (ev_reprBs (K := K) (bs := [true, false, false]) (s := "[True, False, False]") (ev_var rfl) (e14 _ _ hfb) (by decide +kernel) (by decide +kernel) (by decide +kernel) (by decide +kernel) (by decide +kernel)) ev_c (rv_eq rfl)) ?_) fun H15 e15 => fin (e414.trans e15)
    rw [decide_eq_true rfl]
end
end Mv
set_option maxHeartbeats 1000000
/-! What _law_right carries from draw to draw. -/
namespace Mv
open PySem PySem.Spec PyProof.Rows L2 Evl
theorem paired_perm {α β : Type} {F : α → β → Prop} {xs zs : List α} (hp : zs.Perm xs) : ∀ {ys : List β}, Paired F xs ys → ∃ ws, ws.Perm ys ∧ Paired F zs ws := by
  induction hp with
  | nil => intro ys h; cases h; exact ⟨[], .refl _, .nil⟩
  | cons x _ ih =>
    intro ys h
    cases h with
    | cons h1 t =>
      obtain ⟨ws, h2, h3⟩ := ih t
      exact ⟨_ :: ws, h2.cons _, .cons h1 h3⟩
  | swap x y l =>
    intro ys h
    cases h with
    | cons h1 t =>
      cases t with
      | cons h2 t => exact ⟨_, List.Perm.swap _ _ _, .cons h2 (.cons h1 t)⟩
  | trans _ _ ih1 ih2 =>
    intro ys h
    obtain ⟨ws, h2, h3⟩ := ih2 h
    obtain ⟨us, h4, h5⟩ := ih1 h3
    exact ⟨us, h4.trans h2, h5⟩
theorem paired_sub {α β : Type} {F : α → β → Prop} {xs zs : List α} (hp : zs.Sublist xs) : ∀ {ys : List β}, Paired F xs ys → ∃ ws, ws.Sublist ys ∧ Paired F zs ws := by
  induction hp with
  | slnil => intro ys h; cases h; exact ⟨[], .slnil, .nil⟩
  | cons x _ ih =>
    intro ys h
    cases h with
    | cons h1 t =>
      obtain ⟨ws, h2, h3⟩ := ih t
      exact ⟨ws, h2.cons _, h3⟩
  | cons_cons x _ ih =>
    intro ys h
    cases h with
    | cons h1 t =>
      obtain ⟨ws, h2, h3⟩ := ih t
      exact ⟨_ :: ws, h2.cons_cons _, .cons h1 h3⟩
/-- the same of what the things stand for -/
def BentY {β : Type} (ys : List β) (yo : β) (ws : List β) : Prop := ∃ y us, (y ∈ ys ∨ y = yo) ∧ ws.Perm us ∧ us.Sublist (y :: ys)
theorem bent_y {β : Type} {F : V → β → Prop} {xs zs : List V} {ys : List β} {odd : V} {yo : β} (h : Bent xs odd zs) (hp : Paired F xs ys) (ho : F odd yo) : ∃ ws, Paired F zs ws ∧ BentY ys yo ws := by
  obtain ⟨v, us, hv, h1, h2⟩ := h
  obtain ⟨y, hy, hF⟩ : ∃ y, (y ∈ ys ∨ y = yo) ∧ F v y := by
    rcases hv with hv | hv
    · obtain ⟨y, hy, h⟩ := Paired.mem_l hp v hv
      exact ⟨y, .inl hy, h⟩
    · exact ⟨yo, .inr rfl, by rw [hv]; exact ho⟩
  obtain ⟨us', h3, h4⟩ := paired_sub h2 (Paired.cons hF hp)
  obtain ⟨ws, h5, h6⟩ := paired_perm h1 h4
  exact ⟨ws, h6, y, us', hy, h5, h3⟩
theorem BentY.mem {β : Type} {ys ws : List β} {yo : β} (h : BentY ys yo ws) {z : β} (hz : z ∈ ws) : z ∈ ys ∨ z = yo := by
  obtain ⟨y, us, hy, h1, h2⟩ := h
  rcases List.mem_cons.mp (h2.subset (h1.mem_iff.mp hz)) with e | hz
  · rw [e]; exact hy
  · exact .inl hz
theorem BentY.len {β : Type} {ys ws : List β} {yo : β} (h : BentY ys yo ws) : ws.length ≤ ys.length + 1 := by
  obtain ⟨y, us, hy, h1, h2⟩ := h
  rw [h1.length_eq]
  have := h2.length_le
  rwa [List.length_cons] at this
theorem sub_flat {α : Type} {us ys : List (List α)} (h : us.Sublist ys) : us.flatten.length ≤ ys.flatten.length := by
  induction h with
  | slnil => exact Nat.le_refl _
  | cons x _ ih =>
    rw [List.flatten_cons, List.length_append]
    omega
  | cons_cons x _ ih =>
    rw [List.flatten_cons, List.flatten_cons, List.length_append, List.length_append]
    omega
theorem BentY.flat {Ls Ms : List (List Row)} {yo : List Row} (h : BentY Ls yo Ms) (h1 : yo.length ≤ 1) : Ms.flatten.length ≤ 2 * Ls.flatten.length + 1 := by
  obtain ⟨y, us, hy, h2, h3⟩ := h
  have a := (List.Perm.flatten h2).length_eq
  have b := sub_flat h3
  rw [List.flatten_cons, List.length_append] at b
  have c : y.length ≤ Ls.flatten.length + 1 := by
    rcases hy with hy | hy
    · have := len_flat hy; omega
    · rw [hy]; omega
  omega
/-- a list of lists of rows; a list of moves -/
def LL (H : Hp) (v : V) (Ls : List (List Row)) : Prop := ∃ b vs, v = .ref b ∧ H b = some (.lst vs) ∧ Paired (LRw H) vs Ls
def MvL (H : Hp) (v : V) (ms : List Move) : Prop := ∃ b vs, v = .ref b ∧ H b = some (.lst vs) ∧ MvAll H vs ms
section
variable {H H' : Hp} {p : Addr} {n : Nat} {v : V} {Ls : List (List Row)} {ms : List Move}
theorem LL.ex (h : LL H v Ls) (e : Ex H H') : LL H' v Ls := let ⟨b, vs, h1, h2, h3⟩ := h; ⟨b, vs, h1, e _ _ h2, Paired.imp (fun _ _ h => LRw.ex h e) h3⟩
theorem MvL.ex (h : MvL H v ms) (e : Ex H H') : MvL H' v ms := let ⟨b, vs, h1, h2, h3⟩ := h; ⟨b, vs, h1, e _ _ h2, h3.ex e⟩
theorem box_ints {b : Addr} {vs : List V} (hB : BoxAt H p n) (h : H b = some (.lst vs)) (hr : ∀ u ∈ vs, ∃ q, u = .ref q) : b ≠ p := fun z => by
  obtain ⟨b0, b1, b2, h2, _⟩ := hB
  rw [z, h2] at h
  injection h with h
  injection h with h
  obtain ⟨q, e⟩ := hr (.int b0) (by rw [← h]; exact List.mem_cons_self)
  cases e
theorem LL.nb (h : LL H v Ls) (hB : BoxAt H p n) : ∀ b, v = .ref b → b ≠ p := fun b e => by
  obtain ⟨b', vs, e', h2, h3⟩ := h
  rw [e] at e'
  cases e'
  exact box_ints hB h2 fun u hu => let ⟨L, _, b, ys, e, _⟩ := Paired.mem_l h3 u hu; ⟨b, e⟩
theorem MvL.nb (h : MvL H v ms) (hB : BoxAt H p n) : ∀ b, v = .ref b → b ≠ p := fun b e => by
  obtain ⟨b', vs, e', h2, h3⟩ := h
  rw [e] at e'
  cases e'
  exact box_ints hB h2 fun u hu => let ⟨m, _, a, _, _, e, _⟩ := Paired.mem_l h3 u hu; ⟨a, e⟩
theorem LRw.nb {rs : List Row} (h : LRw H v rs) (hB : BoxAt H p n) : ∀ b, v = .ref b → b ≠ p := fun b e => by
  obtain ⟨b', vs, e', h2, h3⟩ := h
  rw [e] at e'
  cases e'
  exact rows_box hB h2 h3
theorem IsMv.exB {m : Move} (h : IsMv H v m.1 m.2) (hB : BoxAt H p n) (e : ExB p H H') : IsMv H' v m.1 m.2 := by
  obtain ⟨a, vr, vo, rfl, h1, h2, h3⟩ := h
  refine ⟨a, vr, vo, rfl, e _ _ (fun z => ?_) h1, h2.exB hB e, ?_⟩
  · obtain ⟨_, _, _, hb, _⟩ := hB
    rw [z, hb] at h1
    cases h1
  · cases ho : m.2 with
    | none => rw [ho] at h3; exact h3
    | some q => rw [ho] at h3; exact IsRow.exB h3 hB e
theorem LL.exB (h : LL H v Ls) (hB : BoxAt H p n) (e : ExB p H H') : LL H' v Ls := by
  obtain ⟨b, vs, rfl, h2, h3⟩ := id h
  exact ⟨b, vs, rfl, e _ _ (h.nb hB b rfl) h2, Paired.imp (fun _ _ z => LRw.exB z hB e) h3⟩
theorem MvL.exB (h : MvL H v ms) (hB : BoxAt H p n) (e : ExB p H H') : MvL H' v ms := by
  obtain ⟨b, vs, rfl, h2, h3⟩ := id h
  exact ⟨b, vs, rfl, e _ _ (h.nb hB b rfl) h2, Paired.imp (fun _ _ z => IsMv.exB z hB e) h3⟩
theorem LRw.da' {rs : List Row} (h : LRw H v rs) : Da H v (rl rs) := (LRw.dx (S := fun _ => True) h (fun _ _ _ => True.intro) fun _ _ => True.intro).da
theorem LL.da (h : LL H v Ls) : Da H v (ll rd Ls) := by
  obtain ⟨b, vs, rfl, h2, h3⟩ := h
  refine .lst h2 (.of (paired_of (by rw [List.length_map]; exact Paired.length h3) fun i u d hu hd => ?_))
  rw [List.getElem?_map] at hd
  obtain ⟨L, hL, rfl⟩ := Option.map_eq_some_iff.mp hd
  obtain ⟨L', hL', hw⟩ := Paired.at_l h3 i u hu
  rw [hL] at hL'
  cases hL'
  exact LRw.da' hw
theorem MvL.da (h : MvL H v ms) : Da H v (.list (ms.map mvd)) := by
  obtain ⟨b, vs, rfl, h2, h3⟩ := h
  exact .lst h2 (moves_dx (S := fun _ => True) (fun _ _ _ => True.intro) h3).da
end
/-! the text of the four -/
theorem row_wx {r : Row} (h : ∃ n, n ≤ 5 ∧ OkRow n r) : (rd r).weight ≤ 55 ∧ (rd r).showable = true ∧ (rd r).intsShort 13 = true := let ⟨_, h5, ho⟩ := h; row_w ho h5
theorem rows_wx : ∀ rs : List Row, (∀ r ∈ rs, ∃ n, n ≤ 5 ∧ OkRow n r) → PyData.weightAll (rs.map rd) ≤ 56 * rs.length ∧ PyData.showableAll (rs.map rd) = true ∧ PyData.intsShortAll 13 (rs.map rd) = true
  | [], _ => ⟨Nat.le_refl _, rfl, rfl⟩
  | r :: rs, h => by
    obtain ⟨a, b, c⟩ := rows_wx rs fun q hq => h q (List.mem_cons_of_mem _ hq)
    obtain ⟨x, y, z⟩ := row_wx (h r List.mem_cons_self)
    refine ⟨?_, ?_, ?_⟩
    · simp only [List.map_cons, PyData.weightAll, List.length_cons]
      omega
    · rw [List.map_cons, PyData.showableAll, b, y] <;> rfl
    · rw [List.map_cons, PyData.intsShortAll, c, z] <;> rfl
theorem lists_wx : ∀ Ls : List (List Row), (∀ L ∈ Ls, L.length ≤ 100 ∧ ∀ r ∈ L, ∃ n, n ≤ 5 ∧ OkRow n r) → PyData.weightAll (Ls.map (lg rd)) ≤ 6000 * Ls.length ∧ PyData.showableAll (Ls.map (lg rd)) = true ∧ PyData.intsShortAll 13 (Ls.map (lg rd)) = true ∧
    PyData.canLayAll0 (Ls.map (lg rd)) = true ∧ PyData.depthAll (Ls.map (lg rd)) ≤ 5
  | [], _ => ⟨Nat.le_refl _, rfl, rfl, rfl, by simp [PyData.depthAll]⟩
  | L :: Ls, h => by
    obtain ⟨a, b, c, d, e⟩ := lists_wx Ls fun q hq => h q (List.mem_cons_of_mem _ hq)
    obtain ⟨h1, h2⟩ := h L List.mem_cons_self
    obtain ⟨x, y, z⟩ := rows_wx L h2
    have dr := deep_rows L
    unfold lg at a b c d e ⊢
    refine ⟨?_, ?_, ?_, ?_, ?_⟩
    · simp only [List.map_cons, PyData.weightAll, PyData.weight, List.length_cons]
      omega
    · rw [List.map_cons, PyData.showableAll, b, PyData.showable, y] <;> rfl
    · rw [List.map_cons, PyData.intsShortAll, c, PyData.intsShort, z] <;> rfl
    · rw [List.map_cons, PyData.canLayAll0, d, PyData.canLay0, lay_rows] <;> rfl
    · simp only [List.map_cons, PyData.depthAll, PyData.depth]
      omega
theorem ev_cb1L {σ : L2.St} {H : Hp} {te : TE} {xs : List V} {z : V} {r : List V → Hp → VK → Prop} (h : EvL te σ H xs) (k : ∀ p H1, Ex H H1 → H1 p = some (.lst xs) → ∀ Q : VK, Q z H1 → r [.ref p] H1 Q) : Ev (tCB r (tCons te tNil)) σ H z := fun H1 e Q q =>
  h H1 e _ fun p H2 _ e2 hp => k p H2 (e.trans e2) hp Q (q H2 e2)
def keptD (rs qs cs : List Row) (Ls : List (List Row)) : PyData := .list [rl rs, rl qs, rl cs, ll rd Ls]
theorem ev_kept {K : PySem.W.Frag} {σ : L2.St} {H : Hp} {ta tb tc td : TE} {x y u v : V} {rs qs cs : List Row} {Ls : List (List Row)} (ha : Ev ta σ H x) (hb : Ev tb σ H y) (hc : Ev tc σ H u) (hd : Ev td σ H v) (hx : LRw H x rs) (hy : LRw H y qs) (hu : LRw H u cs) (hv : LL H v Ls)
    (o1 : ∀ r ∈ rs, ∃ n, n ≤ 5 ∧ OkRow n r) (o2 : ∀ r ∈ qs, ∃ n, n ≤ 5 ∧ OkRow n r) (o3 : ∀ r ∈ cs, ∃ n, n ≤ 5 ∧ OkRow n r) (o4 : ∀ L ∈ Ls, L.length ≤ 100 ∧ ∀ r ∈ L, ∃ n, n ≤ 5 ∧ OkRow n r) (l1 : rs.length ≤ 100) (l2 : qs.length ≤ 100) (l3 : cs.length ≤ 100) (l4 : Ls.length ≤ 100) :
    Ev (tCB (rRepr K) (tCons (tLst (tCons ta (tCons tb (tCons tc (tCons td tNil))))) tNil)) σ H (.str (keptD rs qs cs Ls).shown) :=
  ev_cb1L (el_lst (ea_cons ha (ea_cons hb (ea_cons hc (ea_cons hd ea_nil)))) (show 4 ≤ 100000 by decide)) fun p H2 e12 hp Q q => by
    obtain ⟨a1, b1, c1⟩ := rows_wx rs o1
    obtain ⟨a2, b2, c2⟩ := rows_wx qs o2
    obtain ⟨a3, b3, c3⟩ := rows_wx cs o3
    obtain ⟨a4, b4, c4, d4, e4⟩ := lists_wx Ls o4
    have cl : (keptD rs qs cs Ls).canLay0 = true := by
      unfold keptD rl ll
      simp only [PyData.canLay0, PyData.canLayAll0, lay_rows, d4]
      rfl
    have is : (keptD rs qs cs Ls).intsShort 13 = true := by
      unfold keptD rl ll
      simp only [PyData.intsShort, PyData.intsShortAll, c1, c2, c3, c4]
      rfl
    have d1 := deep_rows rs
    have d2 := deep_rows qs
    have d3 := deep_rows cs
    refine ⟨p, keptD rs qs cs Ls, rfl, .lst (sq_of hp) (.cons (LRw.dp (LRw.ex hx e12)) (.cons (LRw.dp (LRw.ex hy e12)) (.cons (LRw.dp (LRw.ex hu e12)) (.cons ?_ .nil)))), ?_, PyData.hasDict_of_canLay _ cl, ?_, ?_, q⟩
    · obtain ⟨b, vs, rfl, g1, g2⟩ := hv.ex e12
      refine .lst (sq_of g1) ?_
      have z := dp_lists (K := K) g2
      exact z
    · unfold keptD rl ll
      simp only [PyData.showable, PyData.showableAll, b1, b2, b3, b4]
      rfl
    · unfold keptD rl ll
      simp only [PyData.depth, PyData.depthAll]
      omega
    · refine PyData.shown_fits (B := 13) (by decide) (by decide) (PyData.leavesShort_of_canLay0 13 _ cl is) ?_
      unfold keptD rl ll
      simp only [PyData.weight, PyData.weightAll]
      have : (2 : Nat) ^ 20 = 1048576 := by decide
      omega
/-! things of other kinds -/
theorem dom_none {d : PyData} (h : seqD d = none) : DomS d ∧ DomP d ∧ DomL d := ⟨fun ds e => (by rw [h] at e; cases e), fun ds e => (by rw [h] at e; cases e), fun ds e => (by rw [h] at e; cases e)⟩
theorem smp_none : Smp .none := ⟨rfl, by decide +kernel, fun es e => by cases e⟩
theorem smp_int (i : Int) : Smp (.int i) := ⟨rfl, rfl, fun es e => by cases e⟩
theorem domM_row (r : Row) : DomM (rd r) := fun a b e => by
  unfold rd at e
  injection e with e
  match r, e with
  | [i, j], e =>
    injection e with e1 e2
    injection e2 with e2 _
    rw [← e1, ← e2]
    exact ⟨smp_int i, smp_int j, fun h => by cases h⟩
theorem thing_dom {r : Row} (h5 : r.length ≤ 5) : ∀ d ∈ thingsD r, DomS d ∧ DomP d ∧ DomL d := by
  have sr : Smp (rd r) := Smp.row r (by omega)
  have dr : DomS (rd r) := fun ds e => by
    cases e
    refine ⟨by rw [List.length_map]; omega, fun x hx => ?_⟩
    obtain ⟨i, _, rfl⟩ := List.mem_map.mp hx
    exact smp_int i
  have fr : (flatD [rd r]).length < 64 := by
    have : flatD [rd r] = r.map PyData.int := by
      show (r.map PyData.int) ++ [] = _
      rw [List.append_nil]
    rw [this, List.length_map]
    omega
  have one : ∀ {x : PyData} {ds : List PyData}, ds = [x] → ∀ e ∈ ds, e = x := fun h e he => by rw [h] at he; exact List.mem_singleton.mp he
  intro d hd
  unfold thingsD at hd
  simp only [List.mem_cons, List.not_mem_nil, or_false] at hd
  rcases hd with e | e | e | e | e | e | e | e | e | e
  · rw [e]; exact dom_none rfl
  · rw [e]; exact dom_none rfl
  · rw [e]; exact dom_none rfl
  · rw [e]; exact dom_none rfl
  · rw [e]
    refine ⟨fun ds h => ?_, fun ds h => ?_, fun ds h => ?_⟩
    · cases h; exact ⟨by decide, fun x hx => by rw [one rfl x hx]; exact smp_none⟩
    · cases h; exact ⟨by decide, by decide, fun x hx => by rw [one rfl x hx]; exact (dom_none rfl).1⟩
    · cases h; exact ⟨by decide, fun x hx => by rw [one rfl x hx]; exact fun a b e => by cases e⟩
  · rw [e]
    refine ⟨fun ds h => ?_, fun ds h => ?_, fun ds h => ?_⟩
    · cases h; exact ⟨(show 1 ≤ 1000 by decide), fun x hx => by rw [one rfl x hx]; exact sr⟩
    · cases h; exact ⟨(show 1 ≤ 1000 by decide), fr, fun x hx => by rw [one rfl x hx]; exact dr⟩
    · cases h; exact ⟨(show 1 ≤ 1000 by decide), fun x hx => by rw [one rfl x hx]; exact domM_row r⟩
  · rw [e]
    refine ⟨fun ds h => ?_, fun ds h => ?_, fun ds h => ?_⟩
    · cases h; exact ⟨(show 1 ≤ 1000 by decide), fun x hx => by rw [one rfl x hx]; exact sr⟩
    · cases h; exact ⟨(show 1 ≤ 1000 by decide), fr, fun x hx => by rw [one rfl x hx]; exact dr⟩
    · cases h; exact ⟨(show 1 ≤ 1000 by decide), fun x hx => by rw [one rfl x hx]; exact domM_row r⟩
  · rw [e]
    have ss : Smp (.list []) := ⟨rfl, by decide +kernel, fun es e => by cases e; decide⟩
    have ds0 : DomS (.list []) := fun ds e => by cases e; exact ⟨by decide, fun x hx => absurd hx (by simp)⟩
    refine ⟨fun ds h => ?_, fun ds h => ?_, fun ds h => ?_⟩
    · cases h; exact ⟨by decide, fun x hx => by rw [one rfl x hx]; exact ss⟩
    · cases h; exact ⟨by decide, by decide, fun x hx => by rw [one rfl x hx]; exact ds0⟩
    · cases h; exact ⟨by decide, fun x hx => by rw [one rfl x hx]; exact domM_lst⟩
  · rw [e]; exact dom_none rfl
  · rw [e]; exact dom_none rfl
end Mv
set_option maxHeartbeats 1000000
/-! _law_right. -/
namespace Mv
open PySem PySem.Spec PyProof.Rows L2 Evl
/-- what comes out, from this heap on -/
def EvB (te : TE) (σ : L2.St) (H : Hp) (R : V → Hp → Prop) : Prop := ∀ Q : VK, (∀ v H2, R v H2 → Q v H2) → te σ H Q
section
variable {K : PySem.W.Frag} {σ : L2.St} {H : Hp} {ta tb tc to te tl : TE} {x y v : V} {D : Ends} {tz tu : TS} {R P S O : V → Hp → Prop} {p : Addr} {n i : Nat} {E : XK}
theorem q_asgB (h : EvB te σ H R) (k : ∀ v H2, R v H2 → tz D (σ.set i (some v)) H2) : tSeq (tAsg te (gName i)) tz D σ H := h _ k
theorem s_asgB (h : EvB te σ H R) (k : ∀ v H2, R v H2 → D.nx (σ.set i (some v)) H2) : tAsg te (gName i) D σ H := h _ k
theorem eb_ev (h : Ev te σ H v) (hR : ∀ H1, Ex H H1 → R v H1) : EvB te σ H R := fun Q q => h H (Ex.refl H) Q fun H1 e => q v H1 (hR H1 e)
theorem eb_mono {S : V → Hp → Prop} (h : EvB te σ H S) (f : ∀ v H2, S v H2 → R v H2) : EvB te σ H R := fun Q q => h Q fun v H2 hs => q v H2 (f v H2 hs)
/-- A if _law_take(box, 2) == 0 else B -/
theorem eb_pick (h0 : σ[0]? = some (some (.ref p))) (hB : BoxAt H p n) (hn : n ≤ 90000) (ha : ∀ H1, ExB p H H1 → BoxAt H1 p (n + 1) → EvB ta σ H1 R) (hb : ∀ H1, ExB p H H1 → BoxAt H1 p (n + 1) → EvB tb σ H1 R) :
    EvB (tIf (tTest (tOp rEq (tCall sp__law_take [] E (tCons (tVar 0) (tCons (tC (.int 2)) tNil))) (tC (.int 0)))) ta tb) σ H R := fun Q q =>
  take_go (i := 0) h0 ev_c (by decide) (by decide) hB (by omega) fun j H1 j0 j1 e1 hB1 => ⟨rfl, _, rfl, by
    cases hi : decide (V.int j = V.int 0) with
    | true => exact iteT (ha H1 e1 hB1 Q q)
    | false => exact iteF (hb H1 e1 hB1 Q q)⟩
theorem eb_bent {xb : Addr} {xs : List V} (h0 : σ[0]? = some (some (.ref p))) (hb : Ev tb σ H (.ref xb)) (hx : H xb = some (.lst xs)) (nx : xb ≠ p) (l : xs.length ≤ 100) (hB : BoxAt H p n) (hn : n ≤ 90000) (ho : EvP to σ H O)
    (hR : ∀ odd q zs H1 H2, Ex H H1 → O odd H1 → H1 q = none → H2 q = some (.lst zs) → Bent xs odd zs → ExB p H1 H2 → BoxAt H2 p (n + 10) → R (.ref q) H2) : EvB (tCall sp__law_bent [] E (tCons (tVar 0) (tCons tb (tCons to tNil)))) σ H R := fun Q q =>
  ⟨.ref p, h0, hb H (Ex.refl H) _ fun H1 e1 => ho H1 e1 _ fun odd H2 e2 hO => ⟨p, xb, odd, xs, n, rfl, (e1.trans e2) _ _ hx, nx, l, hB.ex (e1.trans e2), hn, fun a zs H3 na ha hz e3 hB3 => q _ H3 (hR odd a zs H2 H3 (e1.trans e2) hO na ha hz e3 hB3)⟩⟩
theorem q_par3P {i j l : Nat} (ha : EvP ta σ H P) (sP : Sta P) (hb : EvP tb σ H R) (sR : Sta R) (hc : EvP tc σ H S) (k : ∀ u v w H1, Ex H H1 → P u H1 → R v H1 → S w H1 → tz D (((σ.set i (some u)).set j (some v)).set l (some w)) H1) : tSeq (tPar3 i j l (tCons ta (tCons tb (tCons tc tNil)))) tz D σ H :=
  ha H (Ex.refl _) _ fun u H1 e1 hu => hb H1 e1 _ fun v H2 e2 hv => hc H2 (e1.trans e2) _ fun w H3 e3 hw => ⟨u, v, w, rfl, k u v w H3 (e1.trans (e2.trans e3)) (sP _ _ _ (sP _ _ _ hu e2) e3) (sR _ _ _ hv e3) hw⟩
theorem q_asg1 (h : te σ H (fun v H2 => tz D (σ.set i (some v)) H2)) : tSeq (tAsg te (gName i)) tz D σ H := h
/-- a for over a list that a call gives -/
theorem q_forPL {ds : List PyData} {j : Nat} (h : EvP tl σ H (fun v H2 => Da H2 v (.list ds))) (Pv : Hp → Nat → L2.St → Hp → Prop) (h0 : ∀ H1, Ex H H1 → Pv H1 0 σ H1) (ex : ∀ B i σ' H', Pv B i σ' H' → Ex B H')
    (hs : ∀ (B : Hp) (i : Nat) (v : V) (d : PyData) σ' H', Ex H B → ds[i]? = some d → Da H' v d → Pv B i σ' H' → tu { D with nx := Pv B (i + 1), ct := Pv B (i + 1), bk := tz D } (σ'.set j (some v)) H') (hd : ∀ B σ' H', Ex H B → Pv B ds.length σ' H' → tz D σ' H') : tSeq (tFor (iList K tl) (gName j) tu) tz D σ H :=
  h H (Ex.refl H) _ fun v H1 e1 hv => by
    obtain ⟨a, xs, rfl, ha, hp⟩ := hv.lst'
    have hl : xs.length = ds.length := Paired.length hp.p
    refine ⟨a, rfl, ⟨xs, sq_of ha⟩, for_list (D := { D with nx := tz D }) (g := gName j) (tb := tu) (Pv H1) (h0 H1 e1) (fun i σ' H' _ hP => sq_of (ex _ _ _ _ hP _ _ ha)) (fun i x σ' H' hx hP => ?_) fun σ' H' hP => hd H1 σ' H' e1 (by rw [← hl]; exact hP)⟩
    obtain ⟨d, hd', hxd⟩ := Paired.at_l hp.p i x hx
    exact hs H1 i x d σ' H' e1 hd' (hxd.ex (ex _ _ _ _ hP)) hP
theorem spp_plan48 {rs qs : List Row} {n M : Nat} (hx : Rws H x rs) (hy : Rws H y qs) (ho : OkRows n rs) (pm : qs.Perm rs) : SpP sp_plan_moves [x, y] H (fun v H2 => ∃ ms, MvL H2 v ms ∧ (∀ m ∈ ms, OkMv n m) ∧ ms.length ≤ rs.length) := fun H1 e Q q _ =>
  ⟨x, y, rs, qs, n, rfl, hx.ex e, hy.ex e, ho, pm, fun p H2 np e2 ⟨ys, ms, lev, ahd, M, h1, h2, h3, h4, h5, h6, h7, h8⟩ => q _ H2 e2 ⟨ms, ⟨p, ys, rfl, h1, h2⟩, h3, by omega⟩⟩
end
section
variable {K : PySem.W.Frag} {σ : L2.St} {H : Hp} {ta tb tc te : TE} {D : Ends} {i : Nat}
theorem q_lst1B {Q : VK} {R : V → Hp → Prop} (h : EvB te σ H R) (k : ∀ v H1, R v H1 → ∀ p, H1 p = none → Q (.ref p) (upd H1 p (.lst [v]))) : tLst (tCons te tNil) σ H Q := h _ fun v H1 hr => ⟨sz_of (show 1 ≤ 100000 by decide), k v H1 hr⟩
theorem EvL.go {Q : VK} {xs : List V} (h : EvL te σ H xs) (q : ∀ p H1, H p = none → Ex H H1 → H1 p = some (.lst xs) → Q (.ref p) H1) : te σ H Q := h H (Ex.refl H) Q q
/-- name = x + [y] + z: x is made first -/
theorem q_sum3 {xs : List V} (h : EvL ta σ H xs) (k : ∀ p H1, H p = none → Ex H H1 → H1 p = some (.lst xs) → tLst (tCons tb tNil) σ H1 (fun y H2 => rCat (.ref p) y H2 (fun z H3 => tc σ H3 (fun u H4 => rCat z u H4 (fun v H5 => D.nx (σ.set i (some v)) H5))))) : tAsg (tOp rCat (tOp rCat ta (tLst (tCons tb tNil))) tc) (gName i) D σ H := h H (Ex.refl H) _ k
theorem el_to {a : Addr} {xs : List V} {k : Nat} (h : Ev ta σ H (.ref a)) (hk : Ev tb σ H (.int (k : Int))) (ha : H a = some (.lst xs)) (hl : k ≤ xs.length) : EvL (tSl (rSlL K) ta tNoPart (tPart tb)) σ H (xs.take k) := by
  have z := el_sl (K := K) h eo_none (eo_some hk) (sq_of ha)
  rwa [cutV_to _ _ hl] at z
theorem el_from {a : Addr} {xs : List V} {k : Nat} (h : Ev ta σ H (.ref a)) (hk : Ev tb σ H (.int (k : Int))) (ha : H a = some (.lst xs)) (hl : k ≤ xs.length) : EvL (tSl (rSlL K) ta (tPart tb) tNoPart) σ H (xs.drop k) := by
  have z := el_sl (K := K) h (eo_some hk) eo_none (sq_of ha)
  rwa [cutV_from _ _ hl] at z
end
/-- what stays the same while draws are made -/
structure Dat (x y ov sv pv mv : V) (rs qs : List Row) (ro : Row) (ds : List Row) (Ls : List (List Row)) (ms : List Move) (H : Hp) : Prop where
  x : LRw H x rs
  y : LRw H y qs
  o : IsRow H ov ro
  s : LRw H sv ds
  p : LL H pv Ls
  m : MvL H mv ms
section
variable {x y ov sv pv mv : V} {rs qs : List Row} {ro : Row} {ds : List Row} {Ls : List (List Row)} {ms : List Move} {H H' : Hp} {p : Addr} {n : Nat}
theorem Dat.ex (h : Dat x y ov sv pv mv rs qs ro ds Ls ms H) (e : Ex H H') : Dat x y ov sv pv mv rs qs ro ds Ls ms H' := ⟨LRw.ex h.x e, LRw.ex h.y e, h.o.ex e, LRw.ex h.s e, h.p.ex e, h.m.ex e⟩
theorem Dat.exB (h : Dat x y ov sv pv mv rs qs ro ds Ls ms H) (hB : BoxAt H p n) (e : ExB p H H') : Dat x y ov sv pv mv rs qs ro ds Ls ms H' := ⟨h.x.exB hB e, h.y.exB hB e, h.o.exB hB e, h.s.exB hB e, h.p.exB hB e, h.m.exB hB e⟩
end
end Mv
set_option maxHeartbeats 1000000
/-! _law_right walked. -/
namespace Mv
open PySem PySem.Spec PyProof.Rows L2 Evl
theorem rv_isbl {a b : Bool} {H : Hp} : RV (fun x y H Q => ∃ a b, x = V.bl a ∧ y = .bl b ∧ Q (.bl (decide (a = b))) H) (.bl a) (.bl b) H (.bl (decide (a = b))) := fun H1 _ Q q => ⟨a, b, rfl, rfl, q H1 (Ex.refl _)⟩
section
variable {P : Program} {w : World} {K : PySem.W.Frag} {mg : Str → Option Value} {base : Heap} {a : Nat → Addr} {d : Nat → FuncData} {tk : Nat → Tok}
def sp_right48 : Sp := fun vs H Q _ => ∃ (p : Addr) (x y : V) (rs qs : List Row) (n m : Nat), vs = [.ref p, x, y] ∧ LRw H x rs ∧ LRw H y qs ∧ OkRows n rs ∧ qs.Perm rs ∧ rs.length ≤ 25 ∧ BoxAt H p m ∧ m ≤ 70000 ∧ ∀ H2, ExB p H H2 → BoxAt H2 p (m + 1000) → Q (.bl true) H2
theorem ok__law_right (T : All K mg a d tk) : FnG P w K mg base CX0 10 (a 36) (d 36) ["box", "first", "second"] sp_right48 := by
  refine okG T.F__law_right.fn sc__law_right (fun vs H Q E h => ?_) (fun cdv A outer s H vs Q E hgd hr h => ?_)
  · obtain ⟨p, x, y, rs, qs, n, m, rfl, _⟩ := h
    rfl
  · obtain ⟨p, x, y, rs, qs, n, m, rfl, hx, hy, ho, pm, h25, hB, hm, k⟩ := h
    have nd := sc__law_right.nd
    have hu0 := hr.units0
    have hu64 := hr.units
    have oq := ho.perm pm
    have lq : qs.length = rs.length := pm.length_eq
    refine ⟨_, (pss_cons (ps_set (i := 3) nd rfl (Or.inl rfl) (pe_ix ix_list (pe_op op_cat (pv 1) (pe_lst (pa_cons (pe_tup (pa_cons pe_int pa_nil)) pa_nil))) (pe_call (ok__law_take T) (hr.mono (by decide)) rfl T.F__law_take.m T.F__law_take.kp T.F__law_take.b .nil pass0 (pa_cons (pv 0) (pa_cons (pe_op op_add (pe_callB call_len_seq (by rfl) T.n_len PySem.boot_len (pa_cons (pv 1) pa_nil)) pe_int) pa_nil))) (fun _ _ => rfl)))
 (pss_cons (ps_par3 (i := 4) (j := 5) (l := 6) rfl nd rfl rfl rfl (by decide) (by decide) (by decide) rfl rfl rfl (pa_cons (pe_call (ok_stays T) (hr.mono (by decide)) rfl T.F_stays.m T.F_stays.kp T.F_stays.b .nil pass0 (pa_cons (pv 1) (pa_cons (pv 2) pa_nil))) (pa_cons (pe_call (ok_falls T) (hr.mono (by decide)) rfl T.F_falls.m T.F_falls.kp T.F_falls.b .nil pass0 (pa_cons (pv 1) (pa_cons (pv 2) pa_nil))) (pa_cons (pe_call (ok_plan_moves T) (hr.mono (by decide)) rfl T.F_plan_moves.m T.F_plan_moves.kp T.F_plan_moves.b .nil pass0 (pa_cons (pv 1) (pa_cons (pv 2) pa_nil))) pa_nil))) (by rfl))
 (pss_cons (ps_if (pt_not (pt_val (pe_call (ok__law_own_right T) (hr.mono (by decide)) rfl T.F__law_own_right.m T.F__law_own_right.kp T.F__law_own_right.b .nil pass0 (pa_cons (pv 0) (pa_cons (pv 1) (pa_cons (pv 2) (pa_cons (pv 4) pa_nil)))))))
 (pss_one (ps_ret pe_bl))
 pss_nil)
 (pss_cons (ps_for PassesOwn.never rfl (pi_range1 rfl T.n_range (pa_cons pe_int pa_nil)) (pg_name (i := 7) nd rfl (Or.inl rfl))
 (pss_cons (ps_set (i := 8) nd rfl (Or.inl rfl) (pe_ifExp (pt_cmpR op_eq (pe_call (ok__law_take T) (hr.mono (by decide)) rfl T.F__law_take.m T.F__law_take.kp T.F__law_take.b .nil pass0 (pa_cons (pv 0) (pa_cons pe_int pa_nil))) pe_int (nomark _)) (pe_call (ok__law_bent T) (hr.mono (by decide)) rfl T.F__law_bent.m T.F__law_bent.kp T.F__law_bent.b .nil pass0 (pa_cons (pv 0) (pa_cons (pv 4) (pa_cons (pv 3) pa_nil)))) (pv 4)))
 (pss_cons (ps_set (i := 9) nd rfl (Or.inl rfl) (pe_ifExp (pt_cmpR op_eq (pe_call (ok__law_take T) (hr.mono (by decide)) rfl T.F__law_take.m T.F__law_take.kp T.F__law_take.b .nil pass0 (pa_cons (pv 0) (pa_cons pe_int pa_nil))) pe_int (nomark _)) (pe_call (ok__law_bent T) (hr.mono (by decide)) rfl T.F__law_bent.m T.F__law_bent.kp T.F__law_bent.b .nil pass0 (pa_cons (pv 0) (pa_cons (pv 5) (pa_cons (pe_lst (pa_cons (pv 3) pa_nil)) pa_nil)))) (pv 5)))
 (pss_cut (ps_if (PW.pt (pw_and (pt_cmpR (op_neNil hu0) (pv 9) (pe_lst pa_nil) (nomark _)) (pw_and1 (pt_cmpR op_eq (pe_call (ok__law_take T) (hr.mono (by decide)) rfl T.F__law_take.m T.F__law_take.kp T.F__law_take.b .nil pass0 (pa_cons (pv 0) (pa_cons pe_int pa_nil))) pe_int (nomark _)))))
 (pss_cons (ps_set (i := 10) nd rfl (Or.inl rfl) (pe_call (ok__law_take T) (hr.mono (by decide)) rfl T.F__law_take.m T.F__law_take.kp T.F__law_take.b .nil pass0 (pa_cons (pv 0) (pa_cons (pe_callB call_len_seq (by rfl) T.n_len PySem.boot_len (pa_cons (pv 9) pa_nil)) pa_nil))))
 (pss_one (ps_set (i := 9) nd rfl (Or.inl rfl) (pe_op op_cat (pe_op op_cat (pe_slice sl_list (pv 9) po_none (po_some (pv 10))) (pe_lst (pa_cons (pe_call (ok__law_bent T) (hr.mono (by decide)) rfl T.F__law_bent.m T.F__law_bent.kp T.F__law_bent.b .nil pass0 (pa_cons (pv 0) (pa_cons (pe_ix ix_list (pv 9) (pv 10) (fun _ _ => rfl)) (pa_cons (pv 3) pa_nil)))) pa_nil))) (pe_slice sl_list (pv 9) (po_some (pe_op op_add (pv 10) pe_int)) po_none)))))
 pss_nil)
 (pss_cons (ps_set (i := 11) nd rfl (Or.inl rfl) (pe_callB (call_repr hgd hr.units) (by rfl) T.n_repr PyProof.Rows.boot_repr (pa_cons (pe_lst (pa_cons (pv 1) (pa_cons (pv 2) (pa_cons (pv 8) (pa_cons (pv 9) pa_nil))))) pa_nil)))
 (pss_cons (ps_if (pt_cmpR op_ne (pe_callB call_repr_bool (by rfl) T.n_repr PyProof.Rows.boot_repr (pa_cons (pe_call (ok_check_papers T) (hr.mono (by decide)) rfl T.F_check_papers.m T.F_check_papers.kp T.F_check_papers.b .nil pass0 (pa_cons (pv 1) (pa_cons (pv 2) (pa_cons (pv 8) (pa_cons (pv 9) pa_nil))))) pa_nil)) (pe_callB call_repr_bool (by rfl) T.n_repr PyProof.Rows.boot_repr (pa_cons (pe_call (ok__law_fits T) (hr.mono (by decide)) rfl T.F__law_fits.m T.F__law_fits.kp T.F__law_fits.b .nil pass0 (pa_cons (pv 1) (pa_cons (pv 2) (pa_cons (pv 8) (pa_cons (pv 9) pa_nil))))) pa_nil)) (nomark _))
 (pss_one (ps_ret pe_bl))
 pss_nil)
 (pss_cons (ps_set (i := 12) nd rfl (Or.inl rfl) (pe_call (ok__law_bent T) (hr.mono (by decide)) rfl T.F__law_bent.m T.F__law_bent.kp T.F__law_bent.b .nil pass0 (pa_cons (pv 0) (pa_cons (pv 6) (pa_cons (pe_tup (pa_cons (pv 3) (pa_cons (pe_ifExp (pt_cmpR (op_neNil hu0) (pv 1) (pe_lst pa_nil) (nomark _)) (pe_ix ix_list (pv 1) pe_int (fun _ _ => rfl)) pe_non) pa_nil))) pa_nil)))))
 (pss_cons (ps_if (pt_cmpR op_ne (pe_callB call_repr_bool (by rfl) T.n_repr PyProof.Rows.boot_repr (pa_cons (pe_call (ok_check_moves T) (hr.mono (by decide)) rfl T.F_check_moves.m T.F_check_moves.kp T.F_check_moves.b .nil pass0 (pa_cons (pv 1) (pa_cons (pv 2) (pa_cons (pv 12) pa_nil)))) pa_nil)) (pe_callB call_repr_bool (by rfl) T.n_repr PyProof.Rows.boot_repr (pa_cons (pe_call (ok__law_leads T) (hr.mono (by decide)) rfl T.F__law_leads.m T.F__law_leads.kp T.F__law_leads.b .nil pass0 (pa_cons (pv 1) (pa_cons (pv 2) (pa_cons (pv 12) pa_nil)))) pa_nil)) (nomark _))
 (pss_one (ps_ret pe_bl))
 pss_nil)
 (pss_one (ps_if (pt_cmpR op_ne (pe_callB (call_repr hgd hr.units) (by rfl) T.n_repr PyProof.Rows.boot_repr (pa_cons (pe_lst (pa_cons (pv 1) (pa_cons (pv 2) (pa_cons (pv 8) (pa_cons (pv 9) pa_nil))))) pa_nil)) (pv 11) (nomark _))
 (pss_one (ps_ret pe_bl))
 pss_nil))))))))))
 (pss_cons (ps_for PassesOwn.never rfl (pi_list (pe_call (ok__law_things T) (hr.mono (by decide)) rfl T.F__law_things.m T.F__law_things.kp T.F__law_things.b .nil pass0 (pa_cons (pv 3) pa_nil))) (pg_name (i := 13) nd rfl (Or.inl rfl))
 (pss_cons (ps_if (pt_cmpR op_ne (pe_callB call_repr_bool (by rfl) T.n_repr PyProof.Rows.boot_repr (pa_cons (pe_call (ok_check_papers T) (hr.mono (by decide)) rfl T.F_check_papers.m T.F_check_papers.kp T.F_check_papers.b .nil pass0 (pa_cons (pv 1) (pa_cons (pv 2) (pa_cons (pv 13) (pa_cons (pv 5) pa_nil))))) pa_nil)) (pe_callB call_repr_bool (by rfl) T.n_repr PyProof.Rows.boot_repr (pa_cons (pe_call (ok__law_fits T) (hr.mono (by decide)) rfl T.F__law_fits.m T.F__law_fits.kp T.F__law_fits.b .nil pass0 (pa_cons (pv 1) (pa_cons (pv 2) (pa_cons (pv 13) (pa_cons (pv 5) pa_nil))))) pa_nil)) (nomark _))
 (pss_one (ps_ret pe_bl))
 pss_nil)
 (pss_cons (ps_if (pt_cmpR op_ne (pe_callB call_repr_bool (by rfl) T.n_repr PyProof.Rows.boot_repr (pa_cons (pe_call (ok_check_papers T) (hr.mono (by decide)) rfl T.F_check_papers.m T.F_check_papers.kp T.F_check_papers.b .nil pass0 (pa_cons (pv 1) (pa_cons (pv 2) (pa_cons (pv 4) (pa_cons (pv 13) pa_nil))))) pa_nil)) (pe_callB call_repr_bool (by rfl) T.n_repr PyProof.Rows.boot_repr (pa_cons (pe_call (ok__law_fits T) (hr.mono (by decide)) rfl T.F__law_fits.m T.F__law_fits.kp T.F__law_fits.b .nil pass0 (pa_cons (pv 1) (pa_cons (pv 2) (pa_cons (pv 4) (pa_cons (pv 13) pa_nil))))) pa_nil)) (nomark _))
 (pss_one (ps_ret pe_bl))
 pss_nil)
 (pss_one (ps_if (pt_cmpR op_ne (pe_callB call_repr_bool (by rfl) T.n_repr PyProof.Rows.boot_repr (pa_cons (pe_call (ok_check_moves T) (hr.mono (by decide)) rfl T.F_check_moves.m T.F_check_moves.kp T.F_check_moves.b .nil pass0 (pa_cons (pv 1) (pa_cons (pv 2) (pa_cons (pv 13) pa_nil)))) pa_nil)) (pe_callB call_repr_bool (by rfl) T.n_repr PyProof.Rows.boot_repr (pa_cons (pe_call (ok__law_leads T) (hr.mono (by decide)) rfl T.F__law_leads.m T.F__law_leads.kp T.F__law_leads.b .nil pass0 (pa_cons (pv 1) (pa_cons (pv 2) (pa_cons (pv 13) pa_nil)))) pa_nil)) (nomark _))
 (pss_one (ps_ret pe_bl))
 pss_nil)))))
 (pss_one (ps_ret (pe_cmpR op_is_bl (pe_callK0 (ok_check_papers T) (hr.mono (by decide)) rfl T.F_check_papers.m T.F_check_papers.kp T.K_check_papers pass0 (pk_cons (pv 5) (pk_cons (pv 4) (pk_cons (pv 2) (pk_cons (pv 1) pk_nil))))) pe_bl (nomark _))))))))), ?_⟩
    refine q_asg1 (EvN.go (B := nn H) (d := rl (rs ++ [[0]])) (te := tOp rCat (tVar 1) (tLst (tCons (tTup (tCons (tC (.int 0)) tNil)) tNil))) (σ := [some (.ref p), some x, some y, none, none, none, none, none, none, none, none, none, none, none]) ?_ fun av H1 e1 hav => ?_)
    · have z := en_cat (en_da (σ := [some (.ref p), some x, some y, none, none, none, none, none, none, none, none, none, none, none]) (i := 1) rfl (LRw.da' hx)) (en_lst (ens_cons (en_tup (ens_cons (en_int (B := nn H) (i := 0)) ens_nil) (show 1 ≤ 100000 by decide)) ens_nil) (show 1 ≤ 100000 by decide)) (by rw [List.length_map]; show _ + 1 ≤ 100000; omega)
      have e : rs.map rd ++ [PyData.tuple [.int 0]] = (rs ++ [[0]]).map rd := by rw [List.map_append] <;> rfl
      rw [e] at z
      exact z
    have la : LRw H1 av (rs ++ [[0]]) := Dx.lrw hav
    have hx1 := LRw.ex hx e1
    obtain ⟨xb, xs, rfl, hxb, hxp⟩ := id hx1
    have lxs : xs.length = rs.length := Paired.length hxp
    refine take_go (i := 0) (σ := [some (.ref p), some (.ref xb), some y, none, none, none, none, none, none, none, none, none, none, none]) (tm := tOp (rI0 fun i j => .int (i + j)) (tCB (rLenS K) (tCons (tVar 1) tNil)) (tC (.int 1))) (m := (xs.length : Int) + 1) rfl (ev_I0 (ev_lenS (ev_var rfl) (.inl hxb)) ev_c) (by omega) (by omega) (hB.ex e1) (by omega) fun i H2 i0 i1 e2 hB2 => ?_
    obtain ⟨iN, rfl⟩ : ∃ iN : Nat, i = (iN : Int) := ⟨i.toNat, by omega⟩
    have la2 := la.exB (hB.ex e1) e2
    obtain ⟨ab, as, rfl, hab, hap⟩ := id la2
    have las : as.length = rs.length + 1 := by rw [Paired.length hap, List.length_append] <;> rfl
    have hiN : iN < as.length := by omega
    obtain ⟨ro, hro, hov⟩ := Paired.at_l hap iN _ (List.getElem?_eq_getElem hiN)
    refine ⟨ab, as, (iN : Int), as[iN], rfl, rfl, sq_of hab, atI_nat (List.getElem?_eq_getElem hiN), ?_⟩
    generalize as[iN] = ov at hov
    have hroM : ro ∈ rs ∨ ro = [0] := by
      rcases List.mem_append.mp (List.mem_of_getElem? hro) with h | h
      · exact .inl h
      · exact .inr (List.mem_singleton.mp h)
    have okX : ∀ r, (r ∈ rs ∨ r = ro) → ∃ n, n ≤ 5 ∧ OkRow n r := fun r h => by
      have h0 : OkRow 1 [0] := ⟨rfl, fun i hi => by rw [List.mem_singleton.mp hi]; decide⟩
      rcases h with h | h
      · exact ⟨n, ho.w5, ho.row r h⟩
      · rcases hroM with h' | h'
        · rw [h]; exact ⟨n, ho.w5, ho.row ro h'⟩
        · rw [h, h']; exact ⟨1, by decide, h0⟩
    have okR : ∀ r ∈ rs, ∃ n, n ≤ 5 ∧ OkRow n r := fun r h => okX r (.inl h)
    have okQ : ∀ r ∈ qs, ∃ n, n ≤ 5 ∧ OkRow n r := fun r h => okR r (pm.mem_iff.mp h)
    have short : ∀ r, (r ∈ rs ∨ r = ro) → r.length ≤ 1000 := fun r h => by
      obtain ⟨n', h5, h1⟩ := okX r h
      have := h1.1
      omega
    have ro5 : ro.length ≤ 5 := by
      obtain ⟨n', h5, h1⟩ := okX ro (.inr rfl)
      have := h1.1
      omega
    have eB2 : ExB p H H2 := (Ex.b e1).trans e2
    have hx2 := hx.exB hB eB2
    have hy2 := hy.exB hB eB2
    obtain ⟨lev, ahd, M, hL, hM⟩ := lev_all (Ls := [rs, qs]) List.mem_cons_self ho.nd
    have hSt := Stays.of hL hM
    clear la la2 hav
    refine q_par3P (P := StayV rs qs M H2) (R := FallV rs qs M H2) (S := fun v H' => ∃ ms, MvL H' v ms ∧ (∀ m ∈ ms, OkMv n m) ∧ ms.length ≤ rs.length) (ep_call (ea_cons (ev_var rfl) (ea_cons (ev_var rfl) ea_nil)) (spp_stays hx2.rws hy2.rws ho pm hSt)) (fun _ _ _ h e => h.ex e) (ep_call (ea_cons (ev_var rfl) (ea_cons (ev_var rfl) ea_nil)) (spp_falls hx2.rws hy2.rws ho pm hSt)) (fun _ _ _ h e => h.ex e) (ep_call (ea_cons (ev_var rfl) (ea_cons (ev_var rfl) ea_nil)) (spp_plan48 (M := M) hx2.rws hy2.rws ho pm)) fun sv pv mv H3 e3 hS hF hMv => ?_
    obtain ⟨sb, ds, rfl, _, hs3, hdr, r1, r2, lds⟩ := hS
    obtain ⟨pb, bs, Ls, rfl, _, hpb, _, hLs, hFo, lLs⟩ := hF
    obtain ⟨ms, hm3, hok, lms⟩ := hMv
    have D3 : Dat (.ref xb) y ov (.ref sb) (.ref pb) mv rs qs ro ds Ls ms H3 := ⟨LRw.ex hx2 e3, LRw.ex hy2 e3, hov.ex e3, hs3, ⟨pb, _, rfl, hpb, hLs⟩, hm3⟩
    have hB3 := hB2.ex e3
    have eB3 : ExB p H H3 := eB2.trans (Ex.b e3)
    have lds' : ds.length ≤ rs.length := sub_len r1.nodup hdr
    have lLd : Ls.length = ds.length := by rw [lLs, lds]
    have flL : Ls.flatten.length = rs.length := hFo.pm.length_eq
    have inL : ∀ r ∈ Ls.flatten, r ∈ rs := fun r hr => hFo.pm.mem_iff.mp hr
    have mvS : ∀ mv ∈ ms, mv.1.length ≤ 1000 ∧ ∀ o, mv.2 = some o → o.length ≤ 1000 := fun mv hm' => by
      have o := hok mv hm'
      have a5 := o.w5
      have ar := o.row.1
      exact ⟨by omega, fun q hq => by have := (o.beh q hq).1; omega⟩
    refine ⟨_, rfl, _, rfl, _, rfl, _, rfl, p, _, _, _, rs, qs, ds, n, m + 1, rfl, D3.x, D3.y, D3.s, ho, pm, h25, hdr, r1, r2, by rw [lds]; exact hSt, hB3, by omega, fun H4 e4 hB4 => ⟨true, rfl, iteF ?_⟩⟩
    have D4 := D3.exB hB3 e4
    have eB4 := eB3.trans e4
    let Lv : Nat → L2.St → Hp → Prop := fun j σ' H' => ExB p H H' ∧ BoxAt H' p (m + 11 + 100 * j) ∧ Dat (.ref xb) y ov (.ref sb) (.ref pb) mv rs qs ro ds Ls ms H' ∧ ∃ v7 v8 v9 v10 v11 v12, σ' = [some (.ref p), some (.ref xb), some y, some ov, some (.ref sb), some (.ref pb), some mv, v7, v8, v9, v10, v11, v12, none]
    refine q_forR1 (n := 4) (σ := [some (.ref p), some (.ref xb), some y, some ov, some (.ref sb), some (.ref pb), some mv, none, none, none, none, none, none, none]) (ea_cons ev_c ea_nil) ⟨by decide, by decide⟩ Lv (fun H5 e5 => ⟨eB4.trans (Ex.b e5), (hB4.ex e5).mono (by omega), D4.ex e5, _, _, _, _, _, _, rfl⟩) ?_ ?_
    · rintro j σ' H5 hj ⟨eB5, hB5, D5, v7, v8, v9, v10, v11, v12, rfl⟩
      have hj4 : j < 4 := by omega
      refine q_asgB (R := fun v H' => ExB p H5 H' ∧ BoxAt H' p (m + 22 + 100 * j) ∧ ∃ cs, LRw H' v cs ∧ (∀ c ∈ cs, c ∈ rs ∨ c = ro) ∧ cs.length ≤ 26) (eb_pick rfl hB5 (by omega) (fun H6 e6 hB6 => ?_) fun H6 e6 hB6 => ?_) fun sm H6 ⟨e6, hB6, cs, hcs, hcM, lcs⟩ => ?_
      · have D6 := D5.exB hB5 e6
        obtain ⟨b, zs, eb, hb, hbp⟩ := id D6.s
        cases eb
        refine eb_bent (O := fun v H' => IsRow H' v ro) rfl (ev_var rfl) hb (D6.s.nb hB6 _ rfl) (by rw [Paired.length hbp]; omega) hB6 (by omega) (ep_of (ev_var rfl) fun H7 e7 => D6.o.ex e7) fun odd q zs' H7 H8 e7 hO nq hq hz e8 hB8 => ?_
        have hB7 := hB6.ex e7
        obtain ⟨ws, h1, h2⟩ := bent_y hz (Paired.imp (fun _ _ h => (h.ex e7).exB hB7 e8) hbp) (hO.exB hB7 e8)
        refine ⟨e6.trans ((Ex.b e7).trans e8), hB8.mono (by omega), ws, ⟨q, zs', rfl, hq, h1⟩, fun c hc => ?_, ?_⟩
        · rcases h2.mem hc with h | h
          · exact .inl (hdr c h)
          · exact .inr h
        · have := h2.len
          omega
      · have D6 := D5.exB hB5 e6
        exact eb_ev (ev_var rfl) fun H7 e7 => ⟨e6.trans (Ex.b e7), (hB6.ex e7).mono (by omega), ds, LRw.ex D6.s e7, fun c hc => .inl (hdr c hc), by omega⟩
      have D6 := D5.exB hB5 e6
      refine q_asgB (R := fun v H' => ExB p H6 H' ∧ BoxAt H' p (m + 33 + 100 * j) ∧ ∃ Ms, LL H' v Ms ∧ (∀ c ∈ Ms.flatten, c ∈ rs ∨ c = ro) ∧ Ms.length ≤ 26 ∧ Ms.flatten.length ≤ 51) (eb_pick rfl hB6 (by omega) (fun H7 e7 hB7 => ?_) fun H7 e7 hB7 => ?_) fun mo H7 ⟨e7, hB7, Ms, hMs, hMM, lMs, fMs⟩ => ?_
      · have D7 := D6.exB hB6 e7
        obtain ⟨b, zs, eb, hb, hbp⟩ := id D7.p
        cases eb
        refine eb_bent (O := fun v H' => LRw H' v [ro]) rfl (ev_var rfl) hb (D7.p.nb hB7 _ rfl) (by rw [Paired.length hbp]; omega) hB7 (by omega) (fun H8 e8 Q' q' => ⟨ov, rfl, sz_of (show 1 ≤ 100000 by decide), fun l nl => q' _ _ (Ex.new nl) ⟨l, [ov], rfl, upd_same, .cons (D7.o.ex (e8.trans (Ex.new nl))) .nil⟩⟩) fun odd q zs' H8 H9 e8 hO nq hq hz e9 hB9 => ?_
        have hB8 := hB7.ex e8
        obtain ⟨ws, h1, h2⟩ := bent_y hz (Paired.imp (fun _ _ h => (LRw.ex h e8).exB hB8 e9) hbp) (hO.exB hB8 e9)
        refine ⟨e7.trans ((Ex.b e8).trans e9), hB9.mono (by omega), ws, ⟨q, zs', rfl, hq, h1⟩, fun c hc => ?_, ?_, ?_⟩
        · obtain ⟨L, hL', hc⟩ := List.mem_flatten.mp hc
          rcases h2.mem hL' with h | h
          · exact .inl (inL c (List.mem_flatten.mpr ⟨L, h, hc⟩))
          · rw [h] at hc
            exact .inr (List.mem_singleton.mp hc)
        · have := h2.len
          omega
        · have := h2.flat (Nat.le_refl 1)
          omega
      · have D7 := D6.exB hB6 e7
        exact eb_ev (ev_var rfl) fun H8 e8 => ⟨e7.trans (Ex.b e8), (hB7.ex e8).mono (by omega), Ls, D7.p.ex e8, fun c hc => .inl (inL c hc), by omega, by omega⟩
      have D7 := D6.exB hB6 e7
      have hcs7 := hcs.exB hB6 e7
      refine q_cut (M := fun σ' H' => ExB p H7 H' ∧ BoxAt H' p (m + 47 + 100 * j) ∧ ∃ (mo' : V) (Ms' : List (List Row)) (v10' : Option V), σ' = [some (.ref p), some (.ref xb), some y, some ov, some (.ref sb), some (.ref pb), some mv, some (.int (j : Int)), some sm, some mo', v10', v11, v12, none] ∧ LL H' mo' Ms' ∧ (∀ c ∈ Ms'.flatten, c ∈ rs ∨ c = ro) ∧ Ms'.length ≤ 26 ∧ Ms'.flatten.length ≤ 52) ?_ ?_
      · obtain ⟨mb, mvs, rfl, hmb, hmp⟩ := id hMs
        have lmv : mvs.length = Ms.length := Paired.length hmp
        have stay : ∀ {H' : Hp} {v10' : Option V}, ExB p H7 H' → BoxAt H' p (m + 47 + 100 * j) → ExB p H7 H' ∧ BoxAt H' p (m + 47 + 100 * j) ∧ ∃ (mo' : V) (Ms' : List (List Row)) (v10'' : Option V), [some (V.ref p), some (.ref xb), some y, some ov, some (.ref sb), some (.ref pb), some mv, some (.int (j : Int)), some sm, some (.ref mb), v10', v11, v12, none] = [some (.ref p), some (.ref xb), some y, some ov, some (.ref sb), some (.ref pb), some mv, some (.int (j : Int)), some sm, some mo', v10'', v11, v12, none] ∧ LL H' mo' Ms' ∧ (∀ c ∈ Ms'.flatten, c ∈ rs ∨ c = ro) ∧ Ms'.length ≤ 26 ∧ Ms'.flatten.length ≤ 52 := fun e hB' => ⟨e, hB', .ref mb, Ms, _, rfl, hMs.exB hB7 e, hMM, lMs, by omega⟩
        refine (et_test (ev_neNil (K := K) (ta := tVar 9) (σ := [some (.ref p), some (.ref xb), some y, some ov, some (.ref sb), some (.ref pb), some mv, some (.int (j : Int)), some sm, some (.ref mb), v10, v11, v12, none]) (H := H7) (ev_var rfl) (sq_of hmb))) H7 (Ex.refl _) _ fun H8 e8 => ?_
        cases hne : (!mvs.isEmpty) with
        | false => exact iteF (iteF (stay (Ex.b e8) ((hB7.ex e8).mono (by omega))))
        | true =>
        have pos : 0 < mvs.length := by
          cases mvs with
          | nil => cases hne
          | cons _ _ => exact Nat.succ_pos _
        refine iteT (take_go (i := 0) rfl ev_c (by decide) (by decide) (hB7.ex e8) (by omega) fun i H9 i0 i1 e9 hB9 => ⟨rfl, _, rfl, ?_⟩)
        have e79 : ExB p H7 H9 := (Ex.b e8).trans e9
        cases hi0 : decide (V.int i = V.int 0) with
        | false => exact iteF (stay e79 (hB9.mono (by omega)))
        | true =>
        have hmb9 := e79 _ _ (hMs.nb hB7 _ rfl) hmb
        refine iteT ?_
        refine take_go (i := 0) (σ := [some (.ref p), some (.ref xb), some y, some ov, some (.ref sb), some (.ref pb), some mv, some (.int (j : Int)), some sm, some (.ref mb), v10, v11, v12, none]) (tm := tCB (rLenS K) (tCons (tVar 9) tNil)) rfl (ev_lenS (ev_var rfl) (.inl hmb9)) (by omega) (by omega) hB9 (by omega) fun k0 H10 k1 k2 e10 hB10 => ?_
        obtain ⟨kN, rfl, hkN⟩ : ∃ kN : Nat, k0 = (kN : Int) ∧ kN < mvs.length := ⟨k0.toNat, by omega, by omega⟩
        have e710 := e79.trans e10
        have hMs10 := hMs.exB hB7 e710
        obtain ⟨mb', mvs', emb, hmb10, hmp10⟩ := id hMs10
        cases emb
        have em : mvs' = mvs := by
          have z := e710 _ _ (hMs.nb hB7 _ rfl) hmb
          rw [hmb10] at z
          cases z
          rfl
        subst em
        have hkM : kN < Ms.length := by omega
        have gK := List.getElem?_eq_getElem hkN
        obtain ⟨L0, hL0, hw0⟩ := Paired.at_l hmp10 kN _ gK
        have eL0 : Ms[kN] = L0 := by
          rw [List.getElem?_eq_getElem hkM] at hL0
          exact Option.some.inj hL0
        obtain ⟨lb, lvs, elb, hlb, hlp⟩ := id hw0
        have mL0 : L0 ∈ Ms := List.mem_of_getElem? hL0
        have lL0 := len_flat mL0
        have D10 := D7.exB hB7 e710
        refine q_sum3 (el_to (K := K) (k := kN) (ta := tVar 9) (tb := tVar 10) (σ := [some (.ref p), some (.ref xb), some y, some ov, some (.ref sb), some (.ref pb), some mv, some (.int (j : Int)), some sm, some (.ref mb), some (.int (kN : Int)), v11, v12, none]) (H := H10) (ev_var rfl) (ev_var rfl) hmb10 (by omega)) fun t1 H11 nt1 e11 ht1 => ?_
        have hB11 := hB10.ex e11
        have pt1 : t1 ≠ p := fun z => hB10.some (z ▸ nt1)
        have atK : atI mvs' (kN : Int) = some (.ref lb) := atI_nat (by rw [gK, elb])
        have llv : lvs.length = L0.length := Paired.length hlp
        refine q_lst1B (R := fun v H' => ExB p H11 H' ∧ BoxAt H' p (m + 47 + 100 * j) ∧ ∃ ws, LRw H' v ws ∧ (∀ c ∈ ws, c ∈ rs ∨ c = ro) ∧ ws.length ≤ L0.length + 1) (eb_bent (O := fun v H' => IsRow H' v ro) rfl (ev_ixL (i := (kN : Int)) (ev_var rfl) (ev_var rfl) (sq_of (e11 _ _ hmb10)) atK) (e11 _ _ hlb) (hw0.nb hB10 _ elb) (by omega) hB11 (by omega) (ep_of (ev_var rfl) fun H12 e12 => D10.o.ex (e11.trans e12)) fun odd q zs' H12 H13 e12 hO nq hq hz e13 hB13 => ?_) fun wv H12 ⟨e12, hB12, ws, hws, hwM, lws⟩ t2 nt2 => ?_
        · have hB12 := hB11.ex e12
          obtain ⟨ws, h1, h2⟩ := bent_y hz (Paired.imp (fun _ _ h => (h.ex (e11.trans e12)).exB hB12 e13) hlp) (hO.exB hB12 e13)
          refine ⟨(Ex.b e12).trans e13, hB13.mono (by omega), ws, ⟨q, zs', rfl, hq, h1⟩, fun c hc => ?_, ?_⟩
          · rcases h2.mem hc with h | h
            · exact hMM c (List.mem_flatten.mpr ⟨L0, mL0, h⟩)
            · exact .inr h
          · have := h2.len
            omega
        have ht1' := e12 _ _ pt1 ht1
        have eN2 : Ex H12 (upd H12 t2 (.lst [wv])) := Ex.new nt2
        refine ⟨t1, t2, mvs'.take kN, [wv], rfl, rfl, eN2 _ _ ht1', upd_same, sz_of (by rw [List.length_take]; show _ + 1 ≤ 100000; omega), fun t3 nt3 => ?_⟩
        have eN3 : Ex (upd H12 t2 (.lst [wv])) (upd (upd H12 t2 (.lst [wv])) t3 (.lst (mvs'.take kN ++ [wv]))) := Ex.new nt3
        have ht3 : upd (upd H12 t2 (.lst [wv])) t3 (.lst (mvs'.take kN ++ [wv])) t3 = some (.lst (mvs'.take kN ++ [wv])) := upd_same
        have e1213 := eN2.trans eN3
        have hmb12 : H12 mb = some (.lst mvs') := e12 _ _ (hMs10.nb hB10 _ rfl) (e11 _ _ hmb10)
        have eB12 : ExB p H7 H12 := (e710.trans (Ex.b e11)).trans e12
        generalize upd (upd H12 t2 (.lst [wv])) t3 (.lst (mvs'.take kN ++ [wv])) = H13 at *
        refine EvL.go (el_from (K := K) (k := kN + 1) (ta := tVar 9) (tb := tOp (rI0 fun i j => .int (i + j)) (tVar 10) (tC (.int 1))) (σ := [some (.ref p), some (.ref xb), some y, some ov, some (.ref sb), some (.ref pb), some mv, some (.int (j : Int)), some sm, some (.ref mb), some (.int (kN : Int)), v11, v12, none]) (H := H13) (ev_var rfl) (ev_is (ev_I0 (ev_var rfl) ev_c) (congrArg V.int (by omega))) (e1213 _ _ hmb12) (by omega)) fun t4 H14 nt4 e14 ht4 => ?_
        refine ⟨t3, t4, _, _, rfl, rfl, e14 _ _ ht3, ht4, sz_of (by rw [List.length_append, List.length_take, List.length_drop]; show _ + 1 + _ ≤ 100000; omega), fun t5 nt5 => ?_⟩
        have eN5 := Ex.new (o := .lst (mvs'.take kN ++ [wv] ++ mvs'.drop (kN + 1))) nt5
        have e125 := e1213.trans (e14.trans eN5)
        have eB125 : ExB p H10 (upd H14 t5 (.lst (mvs'.take kN ++ [wv] ++ mvs'.drop (kN + 1)))) := ((Ex.b e11).trans e12).trans (Ex.b e125)
        have hmpF : Paired (LRw (upd H14 t5 (.lst (mvs'.take kN ++ [wv] ++ mvs'.drop (kN + 1))))) mvs' Ms := Paired.imp (fun _ _ h => LRw.exB h hB10 eB125) hmp10
        have spl : Ms.take kN ++ [L0] ++ Ms.drop (kN + 1) = Ms := by
          rw [← eL0, List.append_assoc, List.singleton_append, ← List.drop_eq_getElem_cons hkM, List.take_append_drop]
        have spf := congrArg List.flatten spl
        rw [List.flatten_append, List.flatten_append, List.flatten_singleton] at spf
        have spfl := congrArg List.length spf
        rw [List.length_append, List.length_append] at spfl
        refine ⟨eB12.trans (Ex.b e125), (hB12.ex e125).mono (by omega), .ref t5, Ms.take kN ++ [ws] ++ Ms.drop (kN + 1), _, rfl, ⟨t5, _, rfl, upd_same, Paired.append (Paired.append (Paired.take _ hmpF) (.cons (LRw.ex hws e125) .nil)) (Paired.drop _ hmpF)⟩, fun c hc => ?_, ?_, ?_⟩
        · rw [List.flatten_append, List.flatten_append, List.flatten_singleton] at hc
          rcases List.mem_append.mp hc with hc | hc
          · rcases List.mem_append.mp hc with hc | hc
            · exact hMM c (by rw [← spf]; exact List.mem_append_left _ (List.mem_append_left _ hc))
            · exact hwM c hc
          · exact hMM c (by rw [← spf]; exact List.mem_append_right _ hc)
        · rw [List.length_append, List.length_append, List.length_take, List.length_drop, List.length_singleton]
          omega
        · rw [List.flatten_append, List.flatten_append, List.flatten_singleton, List.length_append, List.length_append]
          omega
      · rintro σ' H8 ⟨e8, hB8, mo', Ms', v10', rfl, hMs', hMM', lMs', fMs'⟩
        have D8 := D7.exB hB7 e8
        have hcs8 := hcs7.exB hB7 e8
        have xR : ∀ c ∈ cs, ∃ n, n ≤ 5 ∧ OkRow n c := fun c hc => okX c (hcM c hc)
        have xL : ∀ L ∈ Ms', L.length ≤ 100 ∧ ∀ r ∈ L, ∃ n, n ≤ 5 ∧ OkRow n r := fun L hL => ⟨by have := len_flat hL; omega, fun r hr => okX r (hMM' r (List.mem_flatten.mpr ⟨L, hL, hr⟩))⟩
        have dC : DomS (rl cs) := dom_lg (g := rd) (by omega) fun r hr => Smp.row r (short r (hcM r hr))
        have dM : DomP (ll rd Ms') := dom_ll (by omega) (by omega) fun r hr => Smp.row r (short r (hMM' r hr))
        have kp : ∀ {H' : Hp} {v11' v12' : Option V}, Ex H8 H' → Ev (tCB (rRepr K) (tCons (tLst (tCons (tVar 1) (tCons (tVar 2) (tCons (tVar 8) (tCons (tVar 9) tNil))))) tNil)) [some (.ref p), some (.ref xb), some y, some ov, some (.ref sb), some (.ref pb), some mv, some (.int (j : Int)), some sm, some mo', v10', v11', v12', none] H' (.str (keptD rs qs cs Ms').shown) := fun e' =>
          ev_kept (ev_var rfl) (ev_var rfl) (ev_var rfl) (ev_var rfl) (LRw.ex D8.x e') (LRw.ex D8.y e') (LRw.ex hcs8 e') (hMs'.ex e') okR okQ xR xL (by omega) (by omega) (by omega) (by omega)
        refine q_asg (kp (Ex.refl _)) fun H9 e9 => ?_
        have D9 := D8.ex e9
        have hcs9 := LRw.ex hcs8 e9
        have hMs9 := hMs'.ex e9
        refine q_when (b := false) (et_is (et_test (ev_op (ev_reprB (ev_call (ea_cons (ev_var rfl) (ea_cons (ev_var rfl) (ea_cons (ev_var rfl) (ea_cons (ev_var rfl) ea_nil)))) (spv_papers D9.x.rws D9.y.rws ho pm (LRw.da' hcs9) hMs9.da dC.one dM.two))) (ev_reprB (ev_call (ea_cons (ev_var rfl) (ea_cons (ev_var rfl) (ea_cons (ev_var rfl) (ea_cons (ev_var rfl) ea_nil)))) (spv_fits D9.x D9.y ho pm (LRw.da' hcs9) hMs9.da dC dM))) (rv_ne rfl))) (by rw [decide_eq_true rfl] <;> rfl)) (fun h => nomatch h) fun _ H10 e10 => ?_
        have e810 := e9.trans e10
        have hB10 := hB8.ex e810
        have D10 := D8.ex e810
        obtain ⟨zb, zvs, ezb, hzb, hzp⟩ := id D10.m
        subst ezb
        obtain ⟨xb', xs', exb, hxb10, hxp10⟩ := id D10.x
        cases exb
        refine q_asgB (R := fun v H' => ExB p H10 H' ∧ BoxAt H' p (m + 60 + 100 * j) ∧ ∃ ms', MvL H' v ms' ∧ (∀ c ∈ ms', c.1.length ≤ 1000 ∧ ∀ o, c.2 = some o → o.length ≤ 1000) ∧ ms'.length ≤ 26) (eb_bent (O := fun v H' => ∃ oo : Option Row, IsMv H' v ro oo ∧ ∀ o, oo = some o → o ∈ rs) rfl (ev_var rfl) hzb (D10.m.nb hB10 _ rfl) (by rw [Paired.length hzp]; omega) hB10 (by omega) (fun H11 e11 Q' q' => ?_) fun odd q zs' H11 H12 e11 ⟨oo, hO, hoo⟩ nq hq hz e12 hB12 => ?_) fun stv H11 ⟨e11, hB11, ms', hms', hmS, lms'⟩ => ?_
        · have okF : ∃ (fv : V) (oo : Option Row), AhV H10 fv oo ∧ (∀ o, oo = some o → o ∈ rs) ∧ Ev (tIf (tTest (tOp (rNilEq K true) (tVar 1) (tLst tNil))) (tOp (rIxL K) (tVar 1) (tC (.int 0))) (tC .non)) [some (.ref p), some (.ref xb), some y, some ov, some (.ref sb), some (.ref pb), some (.ref zb), some (.int (j : Int)), some sm, some mo', v10', some (.str (keptD rs qs cs Ms').shown), v12, none] H10 fv := by
            cases hrs : rs with
            | nil =>
              have : xs' = [] := List.length_eq_zero_iff.mp (by rw [Paired.length hxp10, hrs] <;> rfl)
              rw [this] at hxb10
              exact ⟨.non, none, rfl, fun o h => (by cases h), ev_if (b := false) (et_test (ev_neNil (ev_var rfl) (sq_of hxb10))) (fun h => nomatch h) fun _ => ev_c⟩
            | cons r0 rs0 =>
              rw [hrs] at hxp10
              cases hxp10 with
              | cons h1 t =>
                exact ⟨_, some r0, h1, fun o h => by cases h; exact List.mem_cons_self, ev_if (b := true) (et_test (ev_neNil (ev_var rfl) (sq_of hxb10))) (fun _ => ev_ixL (i := ((0 : Nat) : Int)) (ev_var rfl) ev_c (sq_of hxb10) (atI_nat rfl)) fun h => nomatch h⟩
          obtain ⟨fv, oo, hfv, hfm, hE⟩ := okF
          exact (eu_tup (ea_cons (ev_var rfl) (ea_cons hE ea_nil)) (show 2 ≤ 100000 by decide)) H11 e11 _ fun t H12 nt e12 ht => q' _ H12 e12 ⟨oo, ⟨t, _, _, rfl, ht, D10.o.ex (e11.trans e12), hfv.ex (e11.trans e12)⟩, hfm⟩
        · have hB11 := hB10.ex e11
          obtain ⟨ws, h1, h2⟩ := bent_y (F := fun v (mm : Move) => IsMv H12 v mm.1 mm.2) (yo := (ro, oo)) hz (Paired.imp (fun _ _ h => IsMv.exB (h.ex e11) hB11 e12) hzp) (IsMv.exB (m := (ro, oo)) hO hB11 e12)
          refine ⟨(Ex.b e11).trans e12, hB12.mono (by omega), ws, ⟨q, zs', rfl, hq, h1⟩, fun c hc => ?_, ?_⟩
          · rcases h2.mem hc with h | h
            · exact mvS c h
            · rw [h]
              exact ⟨(show ro.length ≤ 1000 by omega), fun o h => short o (.inl (hoo o h))⟩
          · have := h2.len
            omega
        have D11 := D10.exB hB10 e11
        have dL : DomL (.list (ms'.map mvd)) := domL_of (by rw [List.length_map]; omega) fun e he => by
          obtain ⟨mm, hmm, rfl⟩ := List.mem_map.mp he
          exact domM_two (Smp.row _ (hmS mm hmm).1) (oD_smp (hmS mm hmm).2)
        refine q_when (b := false) (et_is (et_test (ev_op (ev_reprB (ev_call (ea_cons (ev_var rfl) (ea_cons (ev_var rfl) (ea_cons (ev_var rfl) ea_nil))) (spv_leads D11.x.rws D11.y.rws ho pm hms'.da dL.one))) (ev_reprB (ev_call (ea_cons (ev_var rfl) (ea_cons (ev_var rfl) (ea_cons (ev_var rfl) ea_nil))) (spv_law_leads D11.x D11.y ho pm hms'.da dL))) (rv_ne rfl))) (by rw [decide_eq_true rfl] <;> rfl)) (fun h => nomatch h) fun _ H12 e12 => ?_
        have e1012 : ExB p H10 H12 := e11.trans (Ex.b e12)
        have D12 := D11.ex e12
        have hcs12 := (LRw.ex hcs8 e810).exB hB10 e1012
        have hMs12 := (hMs'.ex e810).exB hB10 e1012
        have kp2 := ev_kept (K := K) (ta := tVar 1) (tb := tVar 2) (tc := tVar 8) (td := tVar 9) (σ := [some (.ref p), some (.ref xb), some y, some ov, some (.ref sb), some (.ref pb), some (.ref zb), some (.int (j : Int)), some sm, some mo', v10', some (.str (keptD rs qs cs Ms').shown), some stv, none]) (ev_var rfl) (ev_var rfl) (ev_var rfl) (ev_var rfl) D12.x D12.y hcs12 hMs12 okR okQ xR xL (by omega) (by omega) (by omega) (by omega)
        refine s_when (b := false) (et_is (et_test (ev_op kp2 (ev_var rfl) (rv_ne rfl))) (by rw [decide_eq_true rfl] <;> rfl)) (fun h => nomatch h) fun _ H13 e13 => ?_
        have eB513 : ExB p H5 H13 := (((e6.trans e7).trans e8).trans (Ex.b e810)).trans (e1012.trans (Ex.b e13))
        exact ⟨eB5.trans eB513, ((hB11.ex e12).ex e13).mono (by omega), D12.ex e13, _, _, _, _, _, _, rfl⟩
    · rintro σ' H5 ⟨eB5, hB5, D5, v7, v8, v9, v10, v11, v12, rfl⟩
      have dS : DomS (rl ds) := dom_lg (g := rd) (by omega) fun r hr => Smp.row r (short r (.inl (hdr r hr)))
      have dP : DomP (ll rd Ls) := dom_ll (by omega) (by omega) fun r hr => Smp.row r (short r (.inl (inL r hr)))
      let Pw : Hp → Nat → L2.St → Hp → Prop := fun B _ σ' H' => Ex B H' ∧ Ex H5 H' ∧ ∃ v13, σ' = [some (.ref p), some (.ref xb), some y, some ov, some (.ref sb), some (.ref pb), some mv, v7, v8, v9, v10, v11, v12, v13]
      refine q_forPL (K := K) (ds := thingsD ro) (ep_call (P := fun v H2 => Da H2 v (.list (thingsD ro))) (ea_cons (ev_var rfl) ea_nil) fun H6 e6 Q' q' E' => ⟨ov, ro, rfl, D5.o.ex e6, q'⟩) Pw (fun H6 e6 => ⟨Ex.refl _, e6, _, rfl⟩) (fun B i σ' H' h => h.1) ?_ ?_
      · rintro B i tv d σ' H6 eB hd hda ⟨e6, e56, v13, rfl⟩
        obtain ⟨t1, t2, t3⟩ := thing_dom ro5 d (List.mem_of_getElem? hd)
        have D6 := D5.ex e56
        refine q_when (b := false) (et_is (et_test (ev_op (ev_reprB (ev_call (ea_cons (ev_var rfl) (ea_cons (ev_var rfl) (ea_cons (ev_var rfl) (ea_cons (ev_var rfl) ea_nil)))) (spv_papers D6.x.rws D6.y.rws ho pm hda D6.p.da t1.one dP.two))) (ev_reprB (ev_call (ea_cons (ev_var rfl) (ea_cons (ev_var rfl) (ea_cons (ev_var rfl) (ea_cons (ev_var rfl) ea_nil)))) (spv_fits D6.x D6.y ho pm hda D6.p.da t1 dP))) (rv_ne rfl))) (by rw [decide_eq_true rfl] <;> rfl)) (fun h => nomatch h) fun _ H7 e7 => ?_
        have D7 := D6.ex e7
        have hda7 := hda.ex e7
        refine q_when (b := false) (et_is (et_test (ev_op (ev_reprB (ev_call (ea_cons (ev_var rfl) (ea_cons (ev_var rfl) (ea_cons (ev_var rfl) (ea_cons (ev_var rfl) ea_nil)))) (spv_papers D7.x.rws D7.y.rws ho pm (LRw.da' D7.s) hda7 dS.one t2.two))) (ev_reprB (ev_call (ea_cons (ev_var rfl) (ea_cons (ev_var rfl) (ea_cons (ev_var rfl) (ea_cons (ev_var rfl) ea_nil)))) (spv_fits D7.x D7.y ho pm (LRw.da' D7.s) hda7 dS t2))) (rv_ne rfl))) (by rw [decide_eq_true rfl] <;> rfl)) (fun h => nomatch h) fun _ H8 e8 => ?_
        have D8 := D7.ex e8
        have hda8 := hda7.ex e8
        refine s_when (b := false) (et_is (et_test (ev_op (ev_reprB (ev_call (ea_cons (ev_var rfl) (ea_cons (ev_var rfl) (ea_cons (ev_var rfl) ea_nil))) (spv_leads D8.x.rws D8.y.rws ho pm hda8 t3.one))) (ev_reprB (ev_call (ea_cons (ev_var rfl) (ea_cons (ev_var rfl) (ea_cons (ev_var rfl) ea_nil))) (spv_law_leads D8.x D8.y ho pm hda8 t3))) (rv_ne rfl))) (by rw [decide_eq_true rfl] <;> rfl)) (fun h => nomatch h) fun _ H9 e9 => ?_
        have e69 := e7.trans (e8.trans e9)
        exact ⟨e6.trans e69, e56.trans e69, _, rfl⟩
      · rintro B σ' H6 eB ⟨e6, e56, v13, rfl⟩
        have D6 := D5.ex e56
        have fit : FitsD rs qs (rl ds) (ll rd Ls) := fits_own hdr r1 r2 pm lLd hFo.pm fun L hL' => ⟨hFo.ne L hL', ⟨fun c hc => hFo.mem hL' hc, hFo.up L hL'⟩, ⟨fun c hc => pm.mem_iff.mpr (hFo.mem hL' (List.mem_reverse.mp hc)), hFo.dn L hL'⟩⟩
        have t1 := ev_callN (sp := sp_check_papers) (E := E0) (m := 4) (gV := fun _ zs => zs.reverse) (tk := tCons (tVar 5) (tCons (tVar 4) (tCons (tVar 2) (tCons (tVar 1) tNil)))) (σ := [some (.ref p), some (.ref xb), some y, some ov, some (.ref sb), some (.ref pb), some mv, v7, v8, v9, v10, v11, v12, v13]) (H := H6) (zs := [.ref pb, .ref sb, y, .ref xb]) (ea_cons (ev_var rfl) (ea_cons (ev_var rfl) (ea_cons (ev_var rfl) (ea_cons (ev_var rfl) ea_nil)))) (show SpV sp_check_papers [.ref xb, y, .ref sb, .ref pb] H6 _ from spv_papers D6.x.rws D6.y.rws ho pm (LRw.da' D6.s) D6.p.da dS.one dP.two) rfl
        rw [rb_yes fit] at t1
        refine s_ret (ev_is (ev_op t1 ev_c rv_isbl) (by rw [decide_eq_true rfl])) fun H7 e7 => k H7 (eB5.trans (Ex.b (e56.trans e7))) ((hB5.ex (e56.trans e7)).mono ?_)
        have : (4 : Int).toNat = 4 := rfl
        omega
end
end Mv
set_option maxHeartbeats 1000000
/-! law. -/
namespace Mv
open PySem PySem.Spec PyProof.Rows L2 Evl
theorem ev_min2 {σ : L2.St} {H : Hp} {ta tb : TE} {i j : Int} (ha : Ev ta σ H (.int i)) (hb : Ev tb σ H (.int j)) : Ev (tCB (fun xs H Q => ∃ i j, xs = [V.int i, .int j] ∧ Q (.int (if j < i then j else i)) H) (tCons ta (tCons tb tNil))) σ H (.int (if j < i then j else i)) := fun H1 e Q q =>
  ha H1 e _ fun H2 e2 => hb H2 (e.trans e2) _ fun H3 e3 => ⟨i, j, rfl, q H3 (e2.trans e3)⟩
theorem ex_ofB {p : Addr} {H H' : Hp} (e : ExB p H H') (h : H p = none) : Ex H H' := fun a o ha => e a o (fun z => by rw [z, h] at ha; cases ha) ha
section
variable {P : Program} {w : World} {K : PySem.W.Frag} {mg : Str → Option Value} {base : Heap} {a : Nat → Addr} {d : Nat → FuncData} {tk : Nat → Tok}
def sp_law (K : PySem.W.Frag) : Sp := fun vs H Q _ => ∃ (p : Addr) (ns : List Int), vs = [.ref p] ∧ SqL K H p (ns.map V.int) ∧ ns.length ≤ 63 ∧ ∀ H', Q (.bl true) H'
theorem ok_law (T : All K mg a d tk) : FnG P w K mg base CX0 13 (a 37) (d 37) ["script"] (sp_law K) := by
  refine okG T.F_law.fn sc_law (fun vs H Q E h => ?_) (fun cdv A outer s H vs Q E hgd hr h => ?_)
  · obtain ⟨p, ns, rfl, _⟩ := h
    rfl
  · obtain ⟨sc, ns, rfl, hs, h63, k⟩ := h
    have nd := sc_law.nd
    refine ⟨_, (pss_cons (ps_for PassesOwn.never rfl (pi_range1 rfl T.n_range (pa_cons (pe_callB (call_max2 rfl) (by rfl) T.n_max PyProof.Rows.boot_max (pa_cons pe_int (pa_cons (pe_callB (call_min2 rfl) (by rfl) T.n_min PyProof.Rows.boot_min (pa_cons pe_int (pa_cons (pe_callB call_len_seq (by rfl) T.n_len PySem.boot_len (pa_cons (pv 0) pa_nil)) pa_nil))) pa_nil))) pa_nil)) (pg_name (i := 1) nd rfl (Or.inl rfl))
 (pss_cons (ps_set (i := 2) nd rfl (Or.inl rfl) (pe_call (ok__law_box T) (hr.mono (by decide)) rfl T.F__law_box.m T.F__law_box.kp T.F__law_box.b .nil pass0 (pa_cons (pe_call (ok__law_cell T) (hr.mono (by decide)) rfl T.F__law_cell.m T.F__law_cell.kp T.F__law_cell.b .nil pass0 (pa_cons (pv 0) (pa_cons (pv 1) pa_nil))) pa_nil)))
 (pss_cons (ps_if (pt_not (pt_val (pe_callG (ok__law_long_right T) hgd (hr.mono (by decide)) rfl T.F__law_long_right.m T.F__law_long_right.kp T.F__law_long_right.b .nil pass0 (pa_cons (pv 2) pa_nil))))
 (pss_one (ps_ret pe_bl))
 pss_nil)
 (pss_cons (ps_set (i := 3) nd rfl (Or.inl rfl) (pe_call (ok__law_rows T) (hr.mono (by decide)) rfl T.F__law_rows.m T.F__law_rows.kp T.F__law_rows.b .nil pass0 (pa_cons (pv 2) (pa_cons (pe_call (ok__law_take T) (hr.mono (by decide)) rfl T.F__law_take.m T.F__law_take.kp T.F__law_take.b .nil pass0 (pa_cons (pv 2) (pa_cons (pe_ix ix_list (pe_lst (pa_cons pe_int (pa_cons pe_int (pa_cons pe_int (pa_cons pe_int pa_nil))))) (pe_call (ok__law_take T) (hr.mono (by decide)) rfl T.F__law_take.m T.F__law_take.kp T.F__law_take.b .nil pass0 (pa_cons (pv 2) (pa_cons pe_int pa_nil))) (fun _ _ => rfl)) pa_nil))) pa_nil))))
 (pss_one (ps_for PassesOwn.never rfl (pi_range1 rfl T.n_range (pa_cons pe_int pa_nil)) (pg_name (i := 4) nd rfl (Or.inl rfl))
 (pss_one (ps_if (pt_not (pt_val (pe_callG (ok__law_right T) hgd (hr.mono (by decide)) rfl T.F__law_right.m T.F__law_right.kp T.F__law_right.b .nil pass0 (pa_cons (pv 2) (pa_cons (pv 3) (pa_cons (pe_call (ok__law_other T) (hr.mono (by decide)) rfl T.F__law_other.m T.F__law_other.kp T.F__law_other.b .nil pass0 (pa_cons (pv 2) (pa_cons (pv 3) pa_nil))) pa_nil))))))
 (pss_one (ps_ret pe_bl))
 pss_nil))))))))
 (pss_one (ps_ret pe_bl))), ?_⟩
    let Ov : Nat → L2.St → Hp → Prop := fun _ σ' H' => Ex H H' ∧ ∃ v1 v2 v3 v4, σ' = [some (.ref sc), v1, v2, v3, v4]
    have nn : ∀ l : Nat, 0 ≤ (if (if (l : Int) < 5 then (l : Int) else 5) > 2 then (if (l : Int) < 5 then (l : Int) else 5) else (2 : Int)) ∧ (if (if (l : Int) < 5 then (l : Int) else 5) > 2 then (if (l : Int) < 5 then (l : Int) else 5) else (2 : Int)) ≤ 5 := fun l => by
      split <;> split <;> omega
    have n1 := nn (ns.map V.int).length
    refine q_forR1 (ea_cons (ev_max2 ev_c (ev_min2 ev_c (ev_len (ev_var rfl) hs))) ea_nil) ⟨n1.1, by omega⟩ Ov (fun H1 e1 => ⟨e1, _, _, _, _, rfl⟩) ?_ fun σ' H' ⟨_, v1, v2, v3, v4, hσ⟩ => ?_
    · rintro i σ' H1 hi ⟨e1, v1, v2, v3, v4, rfl⟩
      have hi5 : i ≤ 100 := by omega
      refine ⟨_, rfl, _, rfl, sc, ns, i, rfl, ex_l e1 hs, hi5, fun c H2 e2 => ⟨c, rfl, fun p H3 np e3 hB => ?_⟩⟩
      have np1 : H1 p = none := fresh_back e2 np
      have e13 := e2.trans e3
      refine ⟨_, rfl, p, 0, rfl, hB, by decide, fun H4 e4 hB4 => ⟨true, rfl, iteF ?_⟩⟩
      have eB4 : ExB p H1 H4 := (Ex.b e13).trans e4
      refine ⟨_, rfl, _, rfl, sz_of (show 4 ≤ 100000 by decide), fun tl htl => ?_⟩
      have btl : p ≠ tl := hB4.ne htl
      refine ⟨_, rfl, p, 4, _, rfl, by decide, by decide, hB4.upd btl, by decide, fun i0 H5 i0a i0b e5 hB5 => ?_⟩
      have htl5 : H5 tl = some (.lst [V.int 9, .int 9, .int 9, .int 25]) := e5 _ _ (Ne.symm btl) upd_same
      obtain ⟨top, htop, t1, t2⟩ : ∃ top : Int, atI [V.int 9, .int 9, .int 9, .int 25] i0 = some (.int top) ∧ 1 ≤ top ∧ top ≤ 25 := by
        have : i0 = 0 ∨ i0 = 1 ∨ i0 = 2 ∨ i0 = 3 := by omega
        rcases this with z | z | z | z
        · subst z; exact ⟨9, rfl, by decide, by decide⟩
        · subst z; exact ⟨9, rfl, by decide, by decide⟩
        · subst z; exact ⟨9, rfl, by decide, by decide⟩
        · subst z; exact ⟨25, rfl, by decide, by decide⟩
      refine ⟨tl, _, i0, _, rfl, rfl, sq_of htl5, htop, ?_⟩
      refine ⟨p, top, _, rfl, t1, by omega, hB5, by decide, fun i1 H6 i1a i1b e6 hB6 => ?_⟩
      have eB6 : ExB p H1 H6 := (eB4.trans (Ex.b (Ex.new htl))).trans (e5.trans e6)
      obtain ⟨m, rfl, hm24⟩ : ∃ m : Nat, i1 = (m : Int) ∧ m ≤ 24 := ⟨i1.toNat, by omega, by omega⟩
      refine ⟨p, m, _, rfl, by omega, hB6, by decide, fun vr rs wd H7 hrs hok lrs e7 hB7 => ?_⟩
      have eB7 : ExB p H1 H7 := eB6.trans e7
      let Lv : Nat → L2.St → Hp → Prop := fun j σ' H' => ExB p H1 H' ∧ BoxAt H' p (2000 + 1500 * j) ∧ LRw H' vr rs ∧ ∃ (v4 : Option V), σ' = [some (.ref sc), some (.int (i : Int)), some (.ref p), some vr, v4]
      refine s_forR1 (n := 3) (σ := [some (.ref sc), some (.int (i : Int)), some (.ref p), some vr, v4]) (ea_cons ev_c ea_nil) ⟨by decide, by decide⟩ Lv (fun H8 e8 => ⟨eB7.trans (Ex.b e8), (hB7.ex e8).mono (by omega), LRw.ex hrs e8, _, rfl⟩) ?_ ?_
      · rintro j σ' H9 hj ⟨e9, hB9, hr9, w4, rfl⟩
        have hj3 : j < 3 := by have : (3 : Int).toNat = 3 := rfl; omega
        refine ⟨_, rfl, _, rfl, _, rfl, _, rfl, p, vr, rs, _, rfl, hr9, hok.few, hB9, by omega, fun v5 qs H10 hv5 pm e10 hB10 => ?_⟩
        have hr10 := LRw.exB hr9 hB9 e10
        refine ⟨p, _, _, rs, qs, wd, _, rfl, hr10, hv5, hok, pm, ?_, hB10, by omega, fun H11 e11 hB11 => ⟨true, rfl, iteF ?_⟩⟩
        · omega
        · exact ⟨e9.trans (e10.trans e11), hB11.mono (by omega), hr10.exB hB10 e11, _, rfl⟩
      · rintro σ' H9 ⟨e9, hB9, hr9, w4, rfl⟩
        exact ⟨e1.trans (ex_ofB e9 np1), _, _, _, _, rfl⟩
    · subst hσ
      exact s_ret ev_c fun H2 e2 => k H2
end
end Mv
namespace Mv
open PySem PySem.Spec PyProof.Rows L2 Evl
/-! ### what the top has written -/
def FE (K : PySem.W.Frag) (mg : Str → Option Value) (x : Str) (st : Stmt) (ps : List Str) : Prop := ∃ f fd, FD K mg x st f fd ps
theorem fe_mk {K : PySem.W.Frag} {h : Heap} {mg : Str → Option Value} {x : Str} {st : Stmt} {ps : List Str} (X : K.In h) (G : h.Ns mainGlobals mg) {f : Addr} {oc : Value} {od an : Option Addr} {osl : Array (Option Value)} {kV doc pm cdv ct : Value}
    (hn : PySem.W.nsIn K mainGlobals x = some (some (.ref f))) (l : K.lookup f = some ⟨oc, od, .func (PySem.W.fnOf x x (defArgs st) (defBody st) (defScope st) .none kV doc pm an cdv ct), osl⟩) (c : PySem.W.codeIn K cdv x = true) (k : PySem.W.keepIn K (.ref f) = true)
    (b : ∀ (kV doc pm : Value) (an : Option Addr) (cdv ct : Value) (us : List Value), us.length = ps.length → bindArgs (PySem.W.fnOf x x (defArgs st) (defBody st) (defScope st) .none kV doc pm an cdv ct) ⟨us, []⟩ = pure (ps.zip us)) : FE K mg x st ps :=
  ⟨f, _, fun_mk (st := st) l c k, PySem.W.mg_of X G hn, k, (fun_mk (st := st) l c k).binds b⟩
theorem all_mk {K : PySem.W.Frag} {h : Heap} {mg : Str → Option Value} (X : K.In h) (G : h.Ns mainGlobals mg) (h0 : FE K mg "is_integer" s_is_integer ["value", "low", "high"]) (h1 : FE K mg "is_list" s_is_list ["value"]) (h2 : FE K mg "is_row" s_is_row ["value", "width"]) (h3 : FE K mg "is_any_row" s_is_any_row ["value"]) (h4 : FE K mg "are_rows" s_are_rows ["value"]) (h5 : FE K mg "need_rows" s_need_rows ["value"]) (h6 : FE K mg "need_pair" s_need_pair ["one", "other"]) (h7 : FE K mg "places_of" s_places_of ["rows"]) (h8 : FE K mg "piles_of" s_piles_of ["one", "other"]) (h9 : FE K mg "longest_of" s_longest_of ["one", "other"]) (h10 : FE K mg "stays" s_stays ["one", "other"]) (h11 : FE K mg "falls" s_falls ["one", "other"]) (h12 : FE K mg "rises_in" s_rises_in ["rows", "place_of"]) (h13 : FE K mg "check_papers" s_check_papers ["one", "other", "staying", "lists"]) (h14 : FE K mg "plan_moves" s_plan_moves ["one", "other"]) (h15 : FE K mg "is_move" s_is_move ["value"]) (h16 : FE K mg "are_moves" s_are_moves ["value"]) (h17 : FE K mg "moved" s_moved ["rows", "move"]) (h18 : FE K mg "check_moves" s_check_moves ["one", "other", "moves"]) (h19 : FE K mg "_law_cell" s__law_cell ["script", "k"]) (h20 : FE K mg "_law_box" s__law_box ["cell"]) (h21 : FE K mg "_law_take" s__law_take ["box", "many"]) (h22 : FE K mg "_law_mixed" s__law_mixed ["box", "things"]) (h23 : FE K mg "_law_rows" s__law_rows ["box", "many"]) (h24 : FE K mg "_law_other" s__law_other ["box", "rows"]) (h25 : FE K mg "_law_longest" s__law_longest ["first", "second"]) (h26 : FE K mg "_law_rising" s__law_rising ["rows", "order"]) (h27 : FE K mg "_law_fits" s__law_fits ["first", "second", "still", "parts"]) (h28 : FE K mg "_law_done" s__law_done ["rows", "move"]) (h29 : FE K mg "_law_leads" s__law_leads ["first", "second", "moves"]) (h30 : FE K mg "_law_bent" s__law_bent ["box", "things", "odd"]) (h31 : FE K mg "_law_parts" s__law_parts ["first", "second"]) (h32 : FE K mg "_law_turned" s__law_turned ["row"]) (h33 : FE K mg "_law_own_right" s__law_own_right ["box", "first", "second", "still"]) (h34 : FE K mg "_law_long_right" s__law_long_right ["box"]) (h35 : FE K mg "_law_things" s__law_things ["rows"]) (h36 : FE K mg "_law_right" s__law_right ["box", "first", "second"]) (h37 : FE K mg "law" s_law ["script"]) (z_bool : PySem.W.nsIn K mainGlobals "bool" = some none) (z_int : PySem.W.nsIn K mainGlobals "int" = some none) (z_list : PySem.W.nsIn K mainGlobals "list" = some none) (z_tuple : PySem.W.nsIn K mainGlobals "tuple" = some none) (z_dict : PySem.W.nsIn K mainGlobals "dict" = some none) (z_set : PySem.W.nsIn K mainGlobals "set" = some none) (z_len : PySem.W.nsIn K mainGlobals "len" = some none) (z_isinstance : PySem.W.nsIn K mainGlobals "isinstance" = some none) (z_all : PySem.W.nsIn K mainGlobals "all" = some none) (z_sorted : PySem.W.nsIn K mainGlobals "sorted" = some none) (z_enumerate : PySem.W.nsIn K mainGlobals "enumerate" = some none) (z_zip : PySem.W.nsIn K mainGlobals "zip" = some none) (z_max : PySem.W.nsIn K mainGlobals "max" = some none) (z_min : PySem.W.nsIn K mainGlobals "min" = some none) (z_range : PySem.W.nsIn K mainGlobals "range" = some none) (z_sum : PySem.W.nsIn K mainGlobals "sum" = some none) (z_repr : PySem.W.nsIn K mainGlobals "repr" = some none) {t0 : Tok} (c_MOST_VALUE : PySem.W.nsIn K mainGlobals "MOST_VALUE" = some (some (.int 999 t0))) {t1 : Tok} (c_MOST_ROWS : PySem.W.nsIn K mainGlobals "MOST_ROWS" = some (some (.int 60 t1))) {t2 : Tok} (c_MOST_MOVES : PySem.W.nsIn K mainGlobals "MOST_MOVES" = some (some (.int 300 t2))) {t3 : Tok} (c_WIDEST : PySem.W.nsIn K mainGlobals "WIDEST" = some (some (.int 5 t3))) : ∃ (a : Nat → Addr) (d : Nat → FuncData) (tk : Nat → Tok), All K mg a d tk := by
  obtain ⟨f0, d0, g0⟩ := h0
  obtain ⟨f1, d1, g1⟩ := h1
  obtain ⟨f2, d2, g2⟩ := h2
  obtain ⟨f3, d3, g3⟩ := h3
  obtain ⟨f4, d4, g4⟩ := h4
  obtain ⟨f5, d5, g5⟩ := h5
  obtain ⟨f6, d6, g6⟩ := h6
  obtain ⟨f7, d7, g7⟩ := h7
  obtain ⟨f8, d8, g8⟩ := h8
  obtain ⟨f9, d9, g9⟩ := h9
  obtain ⟨f10, d10, g10⟩ := h10
  obtain ⟨f11, d11, g11⟩ := h11
  obtain ⟨f12, d12, g12⟩ := h12
  obtain ⟨f13, d13, g13⟩ := h13
  obtain ⟨f14, d14, g14⟩ := h14
  obtain ⟨f15, d15, g15⟩ := h15
  obtain ⟨f16, d16, g16⟩ := h16
  obtain ⟨f17, d17, g17⟩ := h17
  obtain ⟨f18, d18, g18⟩ := h18
  obtain ⟨f19, d19, g19⟩ := h19
  obtain ⟨f20, d20, g20⟩ := h20
  obtain ⟨f21, d21, g21⟩ := h21
  obtain ⟨f22, d22, g22⟩ := h22
  obtain ⟨f23, d23, g23⟩ := h23
  obtain ⟨f24, d24, g24⟩ := h24
  obtain ⟨f25, d25, g25⟩ := h25
  obtain ⟨f26, d26, g26⟩ := h26
  obtain ⟨f27, d27, g27⟩ := h27
  obtain ⟨f28, d28, g28⟩ := h28
  obtain ⟨f29, d29, g29⟩ := h29
  obtain ⟨f30, d30, g30⟩ := h30
  obtain ⟨f31, d31, g31⟩ := h31
  obtain ⟨f32, d32, g32⟩ := h32
  obtain ⟨f33, d33, g33⟩ := h33
  obtain ⟨f34, d34, g34⟩ := h34
  obtain ⟨f35, d35, g35⟩ := h35
  obtain ⟨f36, d36, g36⟩ := h36
  obtain ⟨f37, d37, g37⟩ := h37
  refine ⟨fun i => match i with | 0 => f0 | 1 => f1 | 2 => f2 | 3 => f3 | 4 => f4 | 5 => f5 | 6 => f6 | 7 => f7 | 8 => f8 | 9 => f9 | 10 => f10 | 11 => f11 | 12 => f12 | 13 => f13 | 14 => f14 | 15 => f15 | 16 => f16 | 17 => f17 | 18 => f18 | 19 => f19 | 20 => f20 | 21 => f21 | 22 => f22 | 23 => f23 | 24 => f24 | 25 => f25 | 26 => f26 | 27 => f27 | 28 => f28 | 29 => f29 | 30 => f30 | 31 => f31 | 32 => f32 | 33 => f33 | 34 => f34 | 35 => f35 | 36 => f36 | 37 => f37 | _ => f0, fun i => match i with | 0 => d0 | 1 => d1 | 2 => d2 | 3 => d3 | 4 => d4 | 5 => d5 | 6 => d6 | 7 => d7 | 8 => d8 | 9 => d9 | 10 => d10 | 11 => d11 | 12 => d12 | 13 => d13 | 14 => d14 | 15 => d15 | 16 => d16 | 17 => d17 | 18 => d18 | 19 => d19 | 20 => d20 | 21 => d21 | 22 => d22 | 23 => d23 | 24 => d24 | 25 => d25 | 26 => d26 | 27 => d27 | 28 => d28 | 29 => d29 | 30 => d30 | 31 => d31 | 32 => d32 | 33 => d33 | 34 => d34 | 35 => d35 | 36 => d36 | 37 => d37 | _ => d0, fun i => match i with | 0 => t0 | 1 => t1 | 2 => t2 | 3 => t3 | _ => t0, ?_⟩
  exact {
    n_bool := PySem.W.mg_none_of X G z_bool
    n_int := PySem.W.mg_none_of X G z_int
    n_list := PySem.W.mg_none_of X G z_list
    n_tuple := PySem.W.mg_none_of X G z_tuple
    n_dict := PySem.W.mg_none_of X G z_dict
    n_set := PySem.W.mg_none_of X G z_set
    n_len := PySem.W.mg_none_of X G z_len
    n_isinstance := PySem.W.mg_none_of X G z_isinstance
    n_all := PySem.W.mg_none_of X G z_all
    n_sorted := PySem.W.mg_none_of X G z_sorted
    n_enumerate := PySem.W.mg_none_of X G z_enumerate
    n_zip := PySem.W.mg_none_of X G z_zip
    n_max := PySem.W.mg_none_of X G z_max
    n_min := PySem.W.mg_none_of X G z_min
    n_range := PySem.W.mg_none_of X G z_range
    n_sum := PySem.W.mg_none_of X G z_sum
    n_repr := PySem.W.mg_none_of X G z_repr
    c_MOST_VALUE := PySem.W.mg_of X G c_MOST_VALUE
    c_MOST_ROWS := PySem.W.mg_of X G c_MOST_ROWS
    c_MOST_MOVES := PySem.W.mg_of X G c_MOST_MOVES
    c_WIDEST := PySem.W.mg_of X G c_WIDEST
    K_check_papers := ⟨fun s us ws X l1 l2 => by
      obtain ⟨oc, od, kV, doc, pm, an, cdv, ct, osl, h1, _, _⟩ := g13.fn.ex
      match us, l1 with
      | [], _ => match ws, l2 with
        | [w0, w1, w2, w3], _ =>
          show BindsTo s d13 _ _
          rw [h1]
          exact .of_eq rfl, fun r1 r2 => vals_rev r2⟩
    F_is_integer := g0
    F_is_list := g1
    F_is_row := g2
    F_is_any_row := g3
    F_are_rows := g4
    F_need_rows := g5
    F_need_pair := g6
    F_places_of := g7
    F_piles_of := g8
    F_longest_of := g9
    F_stays := g10
    F_falls := g11
    F_rises_in := g12
    F_check_papers := g13
    F_plan_moves := g14
    F_is_move := g15
    F_are_moves := g16
    F_moved := g17
    F_check_moves := g18
    F__law_cell := g19
    F__law_box := g20
    F__law_take := g21
    F__law_mixed := g22
    F__law_rows := g23
    F__law_other := g24
    F__law_longest := g25
    F__law_rising := g26
    F__law_fits := g27
    F__law_done := g28
    F__law_leads := g29
    F__law_bent := g30
    F__law_parts := g31
    F__law_turned := g32
    F__law_own_right := g33
    F__law_long_right := g34
    F__law_things := g35
    F__law_right := g36
    F_law := g37
  }
theorem walk {l : PySem.W.OpenLaw} {q : Program} {loose : List Str} {XP : (Str → Option Value) → Heap → Prop} {YP : World → Heap → Prop} {d : DefRec} {K : Params → PySem.W.Frag} (hn : l.most = some 63) (hdf : d.params.defaults = []) (hd : d.name = "law")
    (hY : ∀ (w : World) (h : Heap), YP w h → (K w.params).In h)
    (F : ∀ (w : World) (mg : Str → Option Value) (h : Heap), (K w.params).In h → h.Ns mainGlobals mg → ∃ (a : Nat → Addr) (d : Nat → FuncData) (tk : Nat → Tok), All (K w.params) mg a d tk) :
    PySem.W.WalkO q loose XP YP l.row.toRowW d [] (fun f vs => PySem.call f vs) := by
  refine walk_ofG (n := 63) (k := 13) (x := "script") (CX := fun _ => CX0) (sp := fun w => sp_law (K w.params)) hn (by decide) hdf ⟨rfl, by decide, by decide⟩ hY (fun w mg fa h KX G hmg => ?_) (fun _ _ a ns hl _ hS => ⟨a, ns, rfl, hS, hl, fun _ => rfl⟩) fun _ _ _ _ _ z => z
  obtain ⟨a, d', tk, T⟩ := F w mg h KX G
  rw [hd] at hmg
  have e := hmg.symm.trans T.F_law.m
  cases e
  refine ⟨d' 37, fun s u => ?_, fun base _ _ => ok_law T⟩
  obtain ⟨oc, od, kV, doc, pm, an, cdv, ct, osl, h1, _, _⟩ := T.F_law.fn.ex
  rw [h1]
  exact .of_eq rfl
end Mv
set_option maxHeartbeats 200000
open PySem PySem.W PyProof.Rows in
set_option maxRecDepth 100000 in
set_option maxHeartbeats 0 in
theorem PySem.Challenge.cw_orderwide_k48_papers_and_plans_forged_holds : PySem.Challenge.rw_orderwide_k48_papers_and_plans_forged.Holds := by
  w_on; o_law; k_head; (case hw => w_witness2)
  k_fill
  refine Mv.walk (l := PySem.Challenge.rw_orderwide_k48_papers_and_plans_forged) rfl rfl rfl (fun w h Y => PySem.W.kIn_of Y) ?F
  case F =>
    intro w mg h KX G
    refine' Mv.all_mk KX G ?h0 ?h1 ?h2 ?h3 ?h4 ?h5 ?h6 ?h7 ?h8 ?h9 ?h10 ?h11 ?h12 ?h13 ?h14 ?h15 ?h16 ?h17 ?h18 ?h19 ?h20 ?h21 ?h22 ?h23 ?h24 ?h25 ?h26 ?h27 ?h28 ?h29 ?h30 ?h31 ?h32 ?h33 ?h34 ?h35 ?h36 ?h37 ?z0 ?z1 ?z2 ?z3 ?z4 ?z5 ?z6 ?z7 ?z8 ?z9 ?z10 ?z11 ?z12 ?z13 ?z14 ?z15 ?z16 ?c0 ?c1 ?c2 ?c3
    case h0 =>
      refine' Mv.fe_mk KX G ?a ?l ?c ?k ?b
      (case a => k_is)
      (case l => k_is)
      (case c => k_is)
      (case k => k_is)
      (case b => exact fun _ _ _ _ _ _ us hl => match us, hl with | [_, _, _], _ => rfl)
    case h1 =>
      refine' Mv.fe_mk KX G ?a ?l ?c ?k ?b
      (case a => k_is)
      (case l => k_is)
      (case c => k_is)
      (case k => k_is)
      (case b => exact fun _ _ _ _ _ _ us hl => match us, hl with | [_], _ => rfl)
    case h2 =>
      refine' Mv.fe_mk KX G ?a ?l ?c ?k ?b
      (case a => k_is)
      (case l => k_is)
      (case c => k_is)
      (case k => k_is)
      (case b => exact fun _ _ _ _ _ _ us hl => match us, hl with | [_, _], _ => rfl)
    case h3 =>
      refine' Mv.fe_mk KX G ?a ?l ?c ?k ?b
      (case a => k_is)
      (case l => k_is)
      (case c => k_is)
      (case k => k_is)
      (case b => exact fun _ _ _ _ _ _ us hl => match us, hl with | [_], _ => rfl)
    case h4 =>
      refine' Mv.fe_mk KX G ?a ?l ?c ?k ?b
      (case a => k_is)
      (case l => k_is)
      (case c => k_is)
      (case k => k_is)
      (case b => exact fun _ _ _ _ _ _ us hl => match us, hl with | [_], _ => rfl)
    case h5 =>
      refine' Mv.fe_mk KX G ?a ?l ?c ?k ?b
      (case a => k_is)
      (case l => k_is)
      (case c => k_is)
      (case k => k_is)
      (case b => exact fun _ _ _ _ _ _ us hl => match us, hl with | [_], _ => rfl)
    case h6 =>
      refine' Mv.fe_mk KX G ?a ?l ?c ?k ?b
      (case a => k_is)
      (case l => k_is)
      (case c => k_is)
      (case k => k_is)
      (case b => exact fun _ _ _ _ _ _ us hl => match us, hl with | [_, _], _ => rfl)
    case h7 =>
      refine' Mv.fe_mk KX G ?a ?l ?c ?k ?b
      (case a => k_is)
      (case l => k_is)
      (case c => k_is)
      (case k => k_is)
      (case b => exact fun _ _ _ _ _ _ us hl => match us, hl with | [_], _ => rfl)
    case h8 =>
      refine' Mv.fe_mk KX G ?a ?l ?c ?k ?b
      (case a => k_is)
      (case l => k_is)
      (case c => k_is)
      (case k => k_is)
      (case b => exact fun _ _ _ _ _ _ us hl => match us, hl with | [_, _], _ => rfl)
    case h9 =>
      refine' Mv.fe_mk KX G ?a ?l ?c ?k ?b
      (case a => k_is)
      (case l => k_is)
      (case c => k_is)
      (case k => k_is)
      (case b => exact fun _ _ _ _ _ _ us hl => match us, hl with | [_, _], _ => rfl)
    case h10 =>
      refine' Mv.fe_mk KX G ?a ?l ?c ?k ?b
      (case a => k_is)
      (case l => k_is)
      (case c => k_is)
      (case k => k_is)
      (case b => exact fun _ _ _ _ _ _ us hl => match us, hl with | [_, _], _ => rfl)
    case h11 =>
      refine' Mv.fe_mk KX G ?a ?l ?c ?k ?b
      (case a => k_is)
      (case l => k_is)
      (case c => k_is)
      (case k => k_is)
      (case b => exact fun _ _ _ _ _ _ us hl => match us, hl with | [_, _], _ => rfl)
    case h12 =>
      refine' Mv.fe_mk KX G ?a ?l ?c ?k ?b
      (case a => k_is)
      (case l => k_is)
      (case c => k_is)
      (case k => k_is)
      (case b => exact fun _ _ _ _ _ _ us hl => match us, hl with | [_, _], _ => rfl)
    case h13 =>
      refine' Mv.fe_mk KX G ?a ?l ?c ?k ?b
      (case a => k_is)
      (case l => k_is)
      (case c => k_is)
      (case k => k_is)
      (case b => exact fun _ _ _ _ _ _ us hl => match us, hl with | [_, _, _, _], _ => rfl)
    case h14 =>
      refine' Mv.fe_mk KX G ?a ?l ?c ?k ?b
      (case a => k_is)
      (case l => k_is)
      (case c => k_is)
      (case k => k_is)
      (case b => exact fun _ _ _ _ _ _ us hl => match us, hl with | [_, _], _ => rfl)
    case h15 =>
      refine' Mv.fe_mk KX G ?a ?l ?c ?k ?b
      (case a => k_is)
      (case l => k_is)
      (case c => k_is)
      (case k => k_is)
      (case b => exact fun _ _ _ _ _ _ us hl => match us, hl with | [_], _ => rfl)
    case h16 =>
      refine' Mv.fe_mk KX G ?a ?l ?c ?k ?b
      (case a => k_is)
      (case l => k_is)
      (case c => k_is)
      (case k => k_is)
      (case b => exact fun _ _ _ _ _ _ us hl => match us, hl with | [_], _ => rfl)
    case h17 =>
      refine' Mv.fe_mk KX G ?a ?l ?c ?k ?b
      (case a => k_is)
      (case l => k_is)
      (case c => k_is)
      (case k => k_is)
      (case b => exact fun _ _ _ _ _ _ us hl => match us, hl with | [_, _], _ => rfl)
    case h18 =>
      refine' Mv.fe_mk KX G ?a ?l ?c ?k ?b
      (case a => k_is)
      (case l => k_is)
      (case c => k_is)
      (case k => k_is)
      (case b => exact fun _ _ _ _ _ _ us hl => match us, hl with | [_, _, _], _ => rfl)
    case h19 =>
      refine' Mv.fe_mk KX G ?a ?l ?c ?k ?b
      (case a => k_is)
      (case l => k_is)
      (case c => k_is)
      (case k => k_is)
      (case b => exact fun _ _ _ _ _ _ us hl => match us, hl with | [_, _], _ => rfl)
    case h20 =>
      refine' Mv.fe_mk KX G ?a ?l ?c ?k ?b
      (case a => k_is)
      (case l => k_is)
      (case c => k_is)
      (case k => k_is)
      (case b => exact fun _ _ _ _ _ _ us hl => match us, hl with | [_], _ => rfl)
    case h21 =>
      refine' Mv.fe_mk KX G ?a ?l ?c ?k ?b
      (case a => k_is)
      (case l => k_is)
      (case c => k_is)
      (case k => k_is)
      (case b => exact fun _ _ _ _ _ _ us hl => match us, hl with | [_, _], _ => rfl)
    case h22 =>
      refine' Mv.fe_mk KX G ?a ?l ?c ?k ?b
      (case a => k_is)
      (case l => k_is)
      (case c => k_is)
      (case k => k_is)
      (case b => exact fun _ _ _ _ _ _ us hl => match us, hl with | [_, _], _ => rfl)
    case h23 =>
      refine' Mv.fe_mk KX G ?a ?l ?c ?k ?b
      (case a => k_is)
      (case l => k_is)
      (case c => k_is)
      (case k => k_is)
      (case b => exact fun _ _ _ _ _ _ us hl => match us, hl with | [_, _], _ => rfl)
    case h24 =>
      refine' Mv.fe_mk KX G ?a ?l ?c ?k ?b
      (case a => k_is)
      (case l => k_is)
      (case c => k_is)
      (case k => k_is)
      (case b => exact fun _ _ _ _ _ _ us hl => match us, hl with | [_, _], _ => rfl)
    case h25 =>
      refine' Mv.fe_mk KX G ?a ?l ?c ?k ?b
      (case a => k_is)
      (case l => k_is)
      (case c => k_is)
      (case k => k_is)
      (case b => exact fun _ _ _ _ _ _ us hl => match us, hl with | [_, _], _ => rfl)
    case h26 =>
      refine' Mv.fe_mk KX G ?a ?l ?c ?k ?b
      (case a => k_is)
      (case l => k_is)
      (case c => k_is)
      (case k => k_is)
      (case b => exact fun _ _ _ _ _ _ us hl => match us, hl with | [_, _], _ => rfl)
    case h27 =>
      refine' Mv.fe_mk KX G ?a ?l ?c ?k ?b
      (case a => k_is)
      (case l => k_is)
      (case c => k_is)
      (case k => k_is)
      (case b => exact fun _ _ _ _ _ _ us hl => match us, hl with | [_, _, _, _], _ => rfl)
    case h28 =>
      refine' Mv.fe_mk KX G ?a ?l ?c ?k ?b
      (case a => k_is)
      (case l => k_is)
      (case c => k_is)
      (case k => k_is)
      (case b => exact fun _ _ _ _ _ _ us hl => match us, hl with | [_, _], _ => rfl)
    case h29 =>
      refine' Mv.fe_mk KX G ?a ?l ?c ?k ?b
      (case a => k_is)
      (case l => k_is)
      (case c => k_is)
      (case k => k_is)
      (case b => exact fun _ _ _ _ _ _ us hl => match us, hl with | [_, _, _], _ => rfl)
    case h30 =>
      refine' Mv.fe_mk KX G ?a ?l ?c ?k ?b
      (case a => k_is)
      (case l => k_is)
      (case c => k_is)
      (case k => k_is)
      (case b => exact fun _ _ _ _ _ _ us hl => match us, hl with | [_, _, _], _ => rfl)
    case h31 =>
      refine' Mv.fe_mk KX G ?a ?l ?c ?k ?b
      (case a => k_is)
      (case l => k_is)
      (case c => k_is)
      (case k => k_is)
      (case b => exact fun _ _ _ _ _ _ us hl => match us, hl with | [_, _], _ => rfl)
    case h32 =>
      refine' Mv.fe_mk KX G ?a ?l ?c ?k ?b
      (case a => k_is)
      (case l => k_is)
      (case c => k_is)
      (case k => k_is)
      (case b => exact fun _ _ _ _ _ _ us hl => match us, hl with | [_], _ => rfl)
    case h33 =>
      refine' Mv.fe_mk KX G ?a ?l ?c ?k ?b
      (case a => k_is)
      (case l => k_is)
      (case c => k_is)
      (case k => k_is)
      (case b => exact fun _ _ _ _ _ _ us hl => match us, hl with | [_, _, _, _], _ => rfl)
    case h34 =>
      refine' Mv.fe_mk KX G ?a ?l ?c ?k ?b
      (case a => k_is)
      (case l => k_is)
      (case c => k_is)
      (case k => k_is)
      (case b => exact fun _ _ _ _ _ _ us hl => match us, hl with | [_], _ => rfl)
    case h35 =>
      refine' Mv.fe_mk KX G ?a ?l ?c ?k ?b
      (case a => k_is)
      (case l => k_is)
      (case c => k_is)
      (case k => k_is)
      (case b => exact fun _ _ _ _ _ _ us hl => match us, hl with | [_], _ => rfl)
    case h36 =>
      refine' Mv.fe_mk KX G ?a ?l ?c ?k ?b
      (case a => k_is)
      (case l => k_is)
      (case c => k_is)
      (case k => k_is)
      (case b => exact fun _ _ _ _ _ _ us hl => match us, hl with | [_, _, _], _ => rfl)
    case h37 =>
      refine' Mv.fe_mk KX G ?a ?l ?c ?k ?b
      (case a => k_is)
      (case l => k_is)
      (case c => k_is)
      (case k => k_is)
      (case b => exact fun _ _ _ _ _ _ us hl => match us, hl with | [_], _ => rfl)
    (case z0 => k_is)
    (case z1 => k_is)
    (case z2 => k_is)
    (case z3 => k_is)
    (case z4 => k_is)
    (case z5 => k_is)
    (case z6 => k_is)
    (case z7 => k_is)
    (case z8 => k_is)
    (case z9 => k_is)
    (case z10 => k_is)
    (case z11 => k_is)
    (case z12 => k_is)
    (case z13 => k_is)
    (case z14 => k_is)
    (case z15 => k_is)
    (case z16 => k_is)
    (case c0 => k_is)
    (case c1 => k_is)
    (case c2 => k_is)
    (case c3 => k_is)
#print axioms PySem.Challenge.cw_orderwide_k48_papers_and_plans_forged_holds
