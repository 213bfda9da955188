import PyProof.Rows.All
import PyProof.ExcBaseAll.LookupError
import PyProof.RulesRaise
import PyProof.FactsTree
import KE.KExcInit
import HandS.ExcInit
import HandS.ClsMeth
import HandS.Star
import HandS.Defaults
import HandS.ExcField
import HandS.ForMost
import HandS.Ends
import HandS.Flow
import HandS.CallSlots
import HandS.IsInst
import HandS.TryMany
import KE.KExcIs
import HandS.ExcIs
import Wide.All
import OpenK.AllK
import Wide.FinOn
import PyProof.NeKinds
import PyProof.ReprRoads
import HandS.Deep
import HandS.TupSets
import KE.GoesEnum
import KE.GoesMore
import HandS.Walk
import PyProof.DictCompW
import HandS.DictComp
import HandS.SetBool
import HandS.Strs
import KE.KMinKey
import KE.KDictWalk
import HandS.TupMul
import HandS.SortKw
import Wide.Seal
import PyProof.Rows.SortShell
import PyProof.Rows.SortKey
import KE.KSortTup
import PyProof.IsInstanceT
import PyProof.IsiTuple
import PyProof.MinMaxWalk
import PyProof.DictWalks
import PyProof.DictRoads
import PyProof.DictStraight
import PyProof.WalksMore
import PyProof.ListOps
import KE.KDictPairs
import KE.KDictKeyed
import HandS.Conv
import PyProof.TupleCall
import HandS.Evl
import HandS.Wide
import HandS.Style
import HandS.TryOnly
import PyProof.FString
import PyProof.FString4
import HandS.FStr
import HandS.RepeatKit
import PyProof.CallType
import PyProof.Walk
import PyProof.WalkLemmas
import PyProof.TupleOfSeq
import PyProof.Commute
import KE.KRevIter
import KE.SortData
import HandS.ForExc
import HandS.MakeKwOnly
import KE.SortKeyHeap
import KE.GoesNew
import HandS.TupLe
import HandS.SortOrd
import HandS.SortInts
import PyProof.Rows.SortStr
import PySem.Challenge.RW_orderwide_k04_rows_that_keep_dependencie
set_option Elab.async false
set_option linter.all false
set_option maxRecDepth 100000
set_option maxHeartbeats 4000000
/-! Own exception classes over any of three built-in bases: how one is made. -/
namespace Mv
open PySem PySem.F PySem.HandSPX Builtin Builtin.ObjectAttr
/-- what a class' mro (behind the class itself) must say: nB gives __new__, iB gives __init__ -/
structure ExBs (bm : List Value) (nB newId iB initId : String) : Prop where
  nw : ∃ bmN iN, ExcBaseFacts nB newId iN bmN
  hN : bm.contains (.type nB) = true
  hA : bm.contains (.type "AttributeError") = false
  hM : bm.contains (.type "NameError") = false
  hI : bm.contains (.type iB) = true
  hO : bm.contains (.type "object") = true
  ne : bm.isEmpty = false
  pass : ∀ self, refuseLoop self "__setattr__" bm = pure ()
  slot : Slot iB "__init__" initId
  entry : entryFor table initId = some Builtin.«BaseException.__init__»
  split : splitId initId = some (iB, "__init__")
  kind : builtinKind initId = some .slot
  row : Manifest.signature? initId = some ⟨.positional, "*", iB, .self, [⟨"args", .varPos, false⟩]⟩
  star : (iB != "*") = true
/-- own classes, then a tail -/
def refsT (tail : List Value) : List Value → Bool
  | .ref _ :: r => refsT tail r
  | l => l == tail
theorem refsT_cases (tail : List Value) : ∀ l : List Value, refsT tail l = true → (∃ c r, l = .ref c :: r ∧ refsT tail r = true) ∨ l = tail
  | [], e => .inr (beq_iff_eq.mp e)
  | .ref c :: r, e => .inl ⟨c, r, rfl, e⟩
  | .none :: _, e => .inr (beq_iff_eq.mp e)
  | .ellipsis :: _, e => .inr (beq_iff_eq.mp e)
  | .notImplemented :: _, e => .inr (beq_iff_eq.mp e)
  | .bool _ :: _, e => .inr (beq_iff_eq.mp e)
  | .int _ _ :: _, e => .inr (beq_iff_eq.mp e)
  | .float _ _ :: _, e => .inr (beq_iff_eq.mp e)
  | .str _ _ :: _, e => .inr (beq_iff_eq.mp e)
  | .bytes _ _ :: _, e => .inr (beq_iff_eq.mp e)
  | .type _ :: _, e => .inr (beq_iff_eq.mp e)
  | .builtin _ :: _, e => .inr (beq_iff_eq.mp e)
theorem ExBs.ref {c : Addr} {r : List Value} {nB newId iB initId : String} (h : ExBs r nB newId iB initId) : ExBs (.ref c :: r) nB newId iB initId := {
  h with
  hN := by rw [List.contains_cons, h.hN, Bool.or_true]
  hA := by rw [List.contains_cons, h.hA] <;> rfl
  hM := by rw [List.contains_cons, h.hM] <;> rfl
  hI := by rw [List.contains_cons, h.hI, Bool.or_true]
  hO := by rw [List.contains_cons, h.hO, Bool.or_true]
  ne := rfl
  pass := fun self => by
    rw [refuseLoop_ref]
    exact h.pass self }
theorem ExBs.refs {tail : List Value} {nB newId iB initId : String} (h : ExBs tail nB newId iB initId) : ∀ l, refsT tail l = true → ExBs l nB newId iB initId := by
  intro l
  induction l with
  | nil =>
    intro e
    rcases refsT_cases tail [] e with ⟨c, r, q, _⟩ | q
    · cases q
    · rw [q]
      exact h
  | cons a r ih =>
    intro e
    rcases refsT_cases tail (a :: r) e with ⟨c, r', q, z⟩ | q
    · obtain ⟨rfl, rfl⟩ := List.cons.inj q
      exact (ih z).ref
    · rw [q]
      exact h
abbrev veT : List Value := [.type "ValueError", .type "Exception", .type "BaseException", .type "object"]
abbrev leT : List Value := [.type "LookupError", .type "Exception", .type "BaseException", .type "object"]
abbrev keT : List Value := [.type "KeyError", .type "LookupError", .type "Exception", .type "BaseException", .type "object"]
theorem exB_ve : ExBs veT "ValueError" "ValueError.__new__" "ValueError" "ValueError.__init__" := {
  nw := ⟨_, _, excBase_ValueError⟩
  hN := by decide +kernel
  hA := by decide +kernel
  hM := by decide +kernel
  hI := by decide +kernel
  hO := by decide +kernel
  ne := rfl
  pass := F.store_ValueError.passes
  slot := excBase_ValueError.init
  entry := excBase_ValueError.initEntry
  split := excBase_ValueError.initSplit
  kind := excBase_ValueError.initKind
  row := excBase_ValueError.initRow
  star := excBase_ValueError.noStar }
theorem exB_le : ExBs leT "LookupError" "LookupError.__new__" "LookupError" "LookupError.__init__" := {
  nw := ⟨_, _, excBase_LookupError⟩
  hN := by decide +kernel
  hA := by decide +kernel
  hM := by decide +kernel
  hI := by decide +kernel
  hO := by decide +kernel
  ne := rfl
  pass := F.store_LookupError.passes
  slot := excBase_LookupError.init
  entry := excBase_LookupError.initEntry
  split := excBase_LookupError.initSplit
  kind := excBase_LookupError.initKind
  row := excBase_LookupError.initRow
  star := excBase_LookupError.noStar }
theorem exB_ke : ExBs keT "LookupError" "LookupError.__new__" "KeyError" "KeyError.__init__" := {
  nw := ⟨_, _, excBase_LookupError⟩
  hN := by decide +kernel
  hA := by decide +kernel
  hM := by decide +kernel
  hI := by decide +kernel
  hO := by decide +kernel
  ne := rfl
  pass := fun self => by kernel_rfl
  slot := .of (owner := "KeyError") (n := "__init__") (by rw [typeLookup_type, builtinLookup_eq_fast]; kernel_rfl) (by decide +kernel) (by decide +kernel) (by decide +kernel) (by first | exact .inl (by decide +kernel) | exact .inr (by decide +kernel)) (by rw [isSubtype_type]; kernel_rfl)
  entry := entryFor_alias (id' := "BaseException.__init__") (by rw [fastTable_eq_tree]; kernel_rfl) (by first | rfl | decide +kernel) (by decide +kernel) (by rw [fastTable_eq_tree]; kernel_rfl)
  split := by kernel_rfl
  kind := by kernel_rfl
  row := by kernel_rfl
  star := by decide +kernel }
section
variable {M : Model} {A : Around} {E : Value → Shared → Prop} {h : Heap} {g : Array GenState} {d : Drawn} {t : Nat} {os : OsState}
variable {nm q : Str} {C N : Addr} {bs bm : List Value} {hdct : Bool} {sn : List Str} {sub : List Value} {ab : Bool} {col : Option Bool} {dd : Option Addr} {k0 k1 k2 k3 k5 : Option Value} {nB iB newId initId : String}
theorem chk_new (F : ExBs bm nB newId iB initId) {rest : List Value} {kw : List (Str × Value)} {Q : Unit → Shared → Prop}
    (hC : h.get? C = some (excClassObj nm q C N bs bm hdct sn sub ab col dd k0 k1 k2 k3 k5 newId)) (hq : Q () ⟨h, g, d, t, os⟩) : wpAny M A (checkBuiltinCall newId ⟨.ref C :: rest, kw⟩) Q E ⟨h, g, d, t, os⟩ := by
  obtain ⟨bmN, iN, G⟩ := F.nw
  have hcont : (Value.ref C :: bm).contains (.type nB) = true := by rw [List.contains_cons, F.hN, Bool.or_true]
  have hstar := G.noStar
  simp only [checkBuiltinCall, G.newKind, G.newSplit, G.newRow]
  repeat (first | refine wpAny_loadPart_at hC ?_ | (refine wpAny_isSubtype_exc hC ?_; rw [hcont]) | refine wpAny_staticBase_exc hC ?_ | refine wpAny_madeBy_exc hC ?_ | simp only [bne_self_eq_false, Bool.false_eq_true, if_false] | wp_step)
  exact hq
theorem chk_init (F : ExBs bm nB newId iB initId) {e : Addr} {oe : Obj} {rest : List Value} {Q : Unit → Shared → Prop}
    (hC : h.get? C = some (excClassObj nm q C N bs bm hdct sn sub ab col dd k0 k1 k2 k3 k5 newId)) (he : h.get? e = some oe) (hcls : oe.cls = .ref C) (hq : Q () ⟨h, g, d, t, os⟩) :
    wpAny M A (checkBuiltinCall initId ⟨.ref e :: rest, []⟩) Q E ⟨h, g, d, t, os⟩ := by
  have hcB : (Value.ref C :: bm).contains (.type iB) = true := by rw [List.contains_cons, F.hI, Bool.or_true]
  have hshort := F.star
  simp only [checkBuiltinCall, F.kind, F.split, F.row]
  repeat (first | (with_reducible refine wpAny_loadPart_at he ?_; rw [hcls]) | with_reducible refine wpAny_loadPart_at hC ?_ | (with_reducible refine wpAny_isSubtype_exc hC ?_; rw [hcB]) | wp_step)
  refine wpAny_onRaise ?_
  rw [show ∀ (a b : String) (n : Nat), Bind.check ⟨.positional, "*", iB, .self, [⟨"args", .varPos, false⟩]⟩ a b n (List.map (fun x => x.fst) ({ pos := Value.ref e :: rest } : Args).kw) = pure () from
    fun a b n => check_star_args _ _ _ _ _ _]
  exact wpAny_pure hq
end
section
variable {prog : Program} {w : World} {A : Around} {E : Value → Shared → Prop} {R : Result → Shared → Prop} {h : Heap} {g : Array GenState} {d : Drawn} {t : Nat} {os : OsState}
variable {nm q : Str} {C N : Addr} {bs bm : List Value} {hdct : Bool} {sn : List Str} {sub : List Value} {ab : Bool} {col : Option Bool} {dd : Option Addr} {k0 k1 k2 k3 k5 : Option Value} {nB iB newId initId : String}
theorem mk_new (F : ExBs bm nB newId iB initId) {rest : List Value} {kw : List (Str × Value)}
    (hC : h.get? C = some (excClassObj nm q C N bs bm hdct sn sub ab col dd k0 k1 k2 k3 k5 newId))
    (hq : R (.ok (.ret (.ref (h.objs.size + 1)))) ⟨(h.push { cls := .type "tuple", data := .seq rest.toArray }).push
      { cls := .ref C, data := .fields #[.ref h.objs.size, .none, .none, .none, .bool false, .none] }, g, d, t, os⟩) (hrest : rest.length ≤ sizeLine) :
    codeAny (model prog w) A (.builtin newId ⟨.ref C :: rest, kw⟩) R ⟨h, g, d, t, os⟩ := by
  obtain ⟨bmN, iN, G⟩ := F.nw
  have hends := G.ends
  have hcB : (Value.ref C :: bm).contains (.type nB) = true := by rw [List.contains_cons, F.hN, Bool.or_true]
  have hcA : (Value.ref C :: bm).contains (.type "AttributeError") = false := by rw [List.contains_cons, F.hA] <;> rfl
  have hcN : (Value.ref C :: bm).contains (.type "NameError") = false := by rw [List.contains_cons, F.hM] <;> rfl
  refine codeAny_builtinAt G.entry ?_
  unfold Builtin.«BaseException.__new__»
  refine wpAt_bind ?_
  show wpAt _ _ _ (stack >>= _) _ _ _
  refine wpAt_bind (wpAt_stack fun p below => wpAt_of_wpAny ?_)
  wp_walk
  refine wpAt_of_wpAny ?_
  rw [G.owner]
  repeat (first | with_reducible refine wpAny_madeHere_exc G.canon hC ?_ | with_reducible refine wpAny_loadPart_at hC ?_ | (with_reducible refine wpAny_isSubtype_exc hC ?_; first | rw [hcB] | rw [hcA] | rw [hcN]) | wp_step)
  show R _ _
  rw [Heap.size_push]
  exact hq
theorem mk_type_call (F : ExBs bm nB newId iB initId) {rest : List Value} {kw : List (Str × Value)} {fI : Addr} {Q : Fin → Shared → Prop}
    (hC : h.get? C = some (excClassObj nm q C N bs bm hdct sn sub ab col dd k0 k1 k2 k3 k5 newId))
    (hi : W.Looks (model prog w) h (typeLookup (.ref C) "__init__") (some (.ref fI))) (hb : ∀ self, W.Looks (model prog w) h (bindSpecial (.ref fI) self) (.ref fI, [self])) (hrest : rest.length ≤ sizeLine)
    (hq : codeAny (model prog w) A (.call (.ref fI) ⟨.ref (h.objs.size + 1) :: rest, kw⟩)
      (fun r s' => match r with | .ok (.ret v) => v = .none ∧ Q (.done (.ret (.ref (h.objs.size + 1)))) s' | .ok _ => False | .error e => E e s')
      ⟨(h.push (W.kdv_tup rest)).push (excO C h.objs.size), g, d, t, os⟩) :
    wpAny (model prog w) A (Builtin.«type.__call__» ⟨.ref C :: rest, kw⟩) Q E ⟨h, g, d, t, os⟩ := by
  obtain ⟨bmN, iN, G⟩ := id F.nw
  repeat (first | with_reducible refine wpAny_loadPart_at hC ?_ | with_reducible refine wpAny_madeBy_exc hC ?_ | wp_step)
  refine codeAny_call_builtin_code (Code.quiet_builtin _ G.quiet) (chk_new F hC ?_)
  refine mk_new F hC ?_ hrest
  show wpAny _ _ _ _ _ _
  have k : ∀ b o, h.get? b = some o → ((h.push (W.kdv_tup rest)).push (excO C h.objs.size)).get? b = some o := fun b o e => Heap.get?_push_of_some _ (Heap.get?_push_of_some _ e)
  have hC₁ := k _ _ hC
  have hget : ((h.push (W.kdv_tup rest)).push (excO C h.objs.size)).get? (h.objs.size + 1) = some (excO C h.objs.size) := by heap_get
  have hcC : (Value.ref C :: bm).contains (.ref C) = true := by simp
  have i1 := hi.keeps k
  have b1 := (hb (.ref (h.objs.size + 1))).keeps k
  unfold isInstance
  repeat (first | with_reducible refine wpAny_loadPart_at hget ?_ | (with_reducible refine wpAny_isSubtype_exc hC₁ ?_; rw [hcC]) | wp_step)
  show wpAny _ _ (typeLookup (.ref C) _) _ _ _
  refine i1.at ?_
  refine wpAny_holding (wpAny_bind (b1.at ?_))
  refine wpAny_bind (wpAny_call (codeAny_mono hq fun r s' z => ?_))
  rcases r with e | (v | _ | _ | _) <;> first | exact z | exact z.elim | skip
  obtain ⟨rfl, z⟩ := z
  first
    | exact wpAny_pure (wpAny_pure z)
    | (wp_walk; exact z)
theorem mk_call (F : ExBs bm nB newId iB initId) {rest : List Value} {kw : List (Str × Value)} {fI : Addr}
    (hC : h.get? C = some (excClassObj nm q C N bs bm hdct sn sub ab col dd k0 k1 k2 k3 k5 newId))
    (hi : W.Looks (model prog w) h (typeLookup (.ref C) "__init__") (some (.ref fI))) (hb : ∀ self, W.Looks (model prog w) h (bindSpecial (.ref fI) self) (.ref fI, [self])) (hrest : rest.length ≤ sizeLine)
    (hq : codeAny (model prog w) (A.under (.builtin "type.__call__" ⟨.ref C :: rest, kw⟩)) (.call (.ref fI) ⟨.ref (h.objs.size + 1) :: rest, kw⟩) (W.InitBack (h.objs.size + 1) R)
      ⟨(h.push (W.kdv_tup rest)).push (excO C h.objs.size), g, d, t, os⟩) :
    codeAny (model prog w) A (.call (.ref C) ⟨rest, kw⟩) R ⟨h, g, d, t, os⟩ := by
  have f1 := tc_lookup
  have f2 := tc_bind (.ref C)
  have hTy : (⟨h, g, d, t, os⟩ : Shared).TypeIs (.ref C) "type" := ⟨_, hC, rfl⟩
  refine codeAny_of_tree ?_
  show wpAny _ _ (callAny (.ref C) _) _ _ _
  repeat (any_goals (first | assumption | with_reducible refine wpAny_loadPart_at hC ?_ | wp_step))
  refine ⟨rfl, ?_⟩
  refine codeAny_call_builtin_at (Code.quiet_builtin _ (by decide +kernel)) entry_typeCall (wpAny_check_type_call_sub hC (mk_type_call F hC hi hb hrest ?_))
  refine codeAny_mono hq fun r s' z => ?_
  rcases r with e | (v | _ | _ | _) <;> exact z
/-- the base's __init__: the args are laid anew -/
theorem base_init (F : ExBs bm nB newId iB initId) {e t0 : Addr} {rest : List Value}
    (hC : h.get? C = some (excClassObj nm q C N bs bm hdct sn sub ab col dd k0 k1 k2 k3 k5 newId)) (he : h.get? e = some (excO C t0)) (hrest : rest.length ≤ sizeLine)
    (hq : ∀ h' t1, (∀ b o, b ≠ e → h.get? b = some o → h'.get? b = some o) → h'.get? e = some (excO C t1) → R (.ok (.ret .none)) ⟨h', g, d, t, os⟩) :
    codeAny (model prog w) A (.call (.builtin initId) ⟨.ref e :: rest, []⟩) R ⟨h, g, d, t, os⟩ := by
  refine codeAny_call_builtin F.slot.plain F.entry (chk_init F hC he rfl ?_)
  wp_walk
  refine hq _ h.objs.size (fun b o hb ho => ?_) ?_
  · rw [Heap.get?_update_other _ _ (Ne.symm hb)]
    exact Heap.get?_push_of_some _ ho
  · rw [Heap.get?_update_self _ (Heap.get?_push_of_some _ he) rfl]
    rfl
end
end Mv
/-! Own exception classes over any of three built-in bases: fields, __init__, the making. -/
namespace Mv
open PySem PySem.F PySem.HandSPX PySem.W PySem.Calls PyProof.Rows Builtin Builtin.ObjectAttr
section
variable {prog : Program} {w : World} {A : Around} {E : Value → Shared → Prop} {R : Result → Shared → Prop} {hp : Heap} {g : Array GenState} {d : Drawn} {t : Nat} {os : OsState}
theorem osa_fst {K : W.Frag} {nB nI iB iI : String} {name : Str} {tk : Tok} {v : Value} {x C : Addr} {fv : Array Value} {cd : ClassData}
    (X : K.In hp) (hx : hp.get? x = some { cls := .ref C, data := .fields fv }) (hcd : W.clsIn K C = some cd) (hm : ExBs cd.mro nB nI iB iI) (hh : cd.hasDict = true) (ha : W.findIn K (.ref C) name = some none)
    (hq : ∀ h' tk' dx, (∀ b o, b ≠ x → hp.get? b = some o → h'.get? b = some o) → hp.objs.size ≤ dx → dx ≠ x → h'.get? x = some { cls := .ref C, dict := some dx, data := .fields fv } →
      h'.Ns1 dx (fun y => if y = name then some v else none) → R (.ok (.ret .none)) ⟨h', g, d, tk', os⟩) :
    codeAny (model prog w) A (.call (.builtin "object.__setattr__") ⟨[.ref x, .str name tk, v], []⟩) R ⟨hp, g, d, t, os⟩ := by
  have I : W.InstAt hp x { cls := .ref C, data := .fields fv } C none := ⟨hx, rfl, rfl, trivial⟩
  have SF := F.store_object
  have ne := hm.ne
  have hob : cd.mro.contains (.type "object") = true := hm.hO
  have hxs : x ≠ hp.objs.size := Nat.ne_of_lt (Heap.lt_size hx)
  have sub : W.Looks (model prog w) hp (isInstance (.ref x) (.type "object")) true := I.type.andThen (W.looks_mroIn X (by unfold W.mroIn; rw [hcd, Option.bind_some, if_neg (by rw [ne]; decide), hob]))
  refine codeAny_call_builtin SF.slot.plain SF.entry (@W.check_slot (model prog w) _ _ ⟨hp, g, d, t, os⟩ "object.__setattr__" "object" "__setattr__" (.ref x) [.str name tk, v] [] _ SF.kind SF.split sub (SF.args (.ref x) (.str name tk) v) ?_)
  have hmr : W.Looks (model prog w) hp (mroOf (.ref C)) cd.mro := (W.looks_clsIn X hcd).andThen .now
  have L3 : W.Looks (model prog w) hp (storeTaker? none) none := .now
  have hcls : W.Looks (model prog w) hp (classData C) cd := W.looks_clsIn X hcd
  rw [W.osa_eq, refuse_eq]
  refine wpAny_bind (wpAny_bind (I.type.at (wpAny_bind (hmr.at ?_))))
  rw [hm.pass]
  refine wpAny_pure (wpAny_bind (I.type.at (wpAny_bind ((W.looks_findIn X ha).at (wpAny_bind (L3.at ?_))))))
  show wpAny _ _ (storeInOwnDict (.ref x) (.ref C) (.str name tk) name v false) _ _ _
  obtain ⟨nm, bs, mro, ns, qn, hd, sn, sb, ab, col, del⟩ := cd
  dsimp only at hh
  subst hh
  unfold storeInOwnDict ownDictForStores
  repeat (first | with_reducible refine store_in_new ?_ ?_ | with_reducible refine wpAny_loadPart_at hx ?_ | with_reducible refine hcls.at ?_ | wp_step)
  · exact ⟨_, #[], _, (Heap.get?_update_ne _ _ _ _ hxs.symm).trans (Heap.get?_push_at rfl rfl), rfl, fun e he => absurd he (by simp), fun _ => rfl⟩
  · intro h' tk' hn' hs
    have hx₁ : (hp.push { cls := .type "dict", data := .dict #[] }).get? x = some { cls := .ref C, data := .fields fv } := Heap.get?_push_of_some _ hx
    refine hq h' tk' hp.objs.size (fun b o hb ho => ?_) (Nat.le_refl _) hxs.symm ?_ hn'
    · exact (hs.2 b (Nat.ne_of_lt (Heap.lt_size ho))).trans ((Heap.get?_update_ne _ _ _ _ hb).trans (Heap.get?_push_of_some _ ho))
    · exact (hs.2 x hxs).trans (Heap.get?_update_self _ hx₁ rfl)
/-- a further field of an exception that has its dict -/
theorem osa_nxt {K : W.Frag} {nB nI iB iI : String} {name : Str} {tk : Tok} {v : Value} {x C dx : Addr} {fv : Array Value} {cd : ClassData} {m0 : Str → Option Value} {nl : List Str}
    (X : K.In hp) (hx : hp.get? x = some { cls := .ref C, dict := some dx, data := .fields fv }) (hns : hp.Ns1 dx m0) (hw : Within m0 nl) (hz : nl.length ≤ 1000) (hcd : W.clsIn K C = some cd) (hm : ExBs cd.mro nB nI iB iI) (hh : cd.hasDict = true)
    (ha : W.findIn K (.ref C) name = some none)
    (hq : ∀ h' tk', (∀ b o, b ≠ dx → hp.get? b = some o → h'.get? b = some o) → h'.Ns1 dx (fun y => if y = name then some v else m0 y) → R (.ok (.ret .none)) ⟨h', g, d, tk', os⟩) :
    codeAny (model prog w) A (.call (.builtin "object.__setattr__") ⟨[.ref x, .str name tk, v], []⟩) R ⟨hp, g, d, t, os⟩ := by
  obtain ⟨oD, esD, epD, hoD, hdD, _⟩ := hns.count hw
  have I : W.InstAt hp x { cls := .ref C, dict := some dx, data := .fields fv } C (some oD) := ⟨hx, rfl, rfl, hoD⟩
  have SF := F.store_object
  have ne := hm.ne
  have hob : cd.mro.contains (.type "object") = true := hm.hO
  have sub : W.Looks (model prog w) hp (isInstance (.ref x) (.type "object")) true := I.type.andThen (W.looks_mroIn X (by unfold W.mroIn; rw [hcd, Option.bind_some, if_neg (by rw [ne]; decide), hob]))
  refine codeAny_call_builtin SF.slot.plain SF.entry (@W.check_slot (model prog w) _ _ ⟨hp, g, d, t, os⟩ "object.__setattr__" "object" "__setattr__" (.ref x) [.str name tk, v] [] _ SF.kind SF.split sub (SF.args (.ref x) (.str name tk) v) ?_)
  have hmr : W.Looks (model prog w) hp (mroOf (.ref C)) cd.mro := (W.looks_clsIn X hcd).andThen .now
  have L3 : W.Looks (model prog w) hp (storeTaker? none) none := .now
  have hcls : W.Looks (model prog w) hp (classData C) cd := W.looks_clsIn X hcd
  rw [W.osa_eq, refuse_eq]
  refine wpAny_bind (wpAny_bind (I.type.at (wpAny_bind (hmr.at ?_))))
  rw [hm.pass]
  refine wpAny_pure (wpAny_bind (I.type.at (wpAny_bind ((W.looks_findIn X ha).at (wpAny_bind (L3.at ?_))))))
  show wpAny _ _ (storeInOwnDict (.ref x) (.ref C) (.str name tk) name v false) _ _ _
  obtain ⟨nm, bs, mro, ns, qn, hd, sn, sb, ab, col, del⟩ := cd
  dsimp only at hh
  subst hh
  unfold storeInOwnDict ownDictForStores
  repeat (first | with_reducible refine OEX.store_in_old hns hw hz ?_ | with_reducible refine wpAny_loadPart_at hx ?_ | with_reducible refine hcls.at ?_ | wp_step)
  intro h' tk' hn' hs
  exact hq h' tk' (fun b o hb ho => (hs.2 b hb).trans ho) hn'
end
end Mv
namespace Mv
open PySem PySem.Spec PyProof.Rows L2
/-- what the written part says of an exception class -/
structure OeX (K : PySem.W.Frag) (C : Addr) (iB iI : String) : Prop where
  cls : ∃ nm q N bs bm sn sub ab col dd k0 k1 k2 k3 k5 nB nI, K.lookup C = some (excClassObj nm q C N bs bm true sn sub ab col dd k0 k1 k2 k3 k5 nI) ∧ ExBs bm nB nI iB iI
  sa : PySem.W.findIn K (.ref C) "__setattr__" = some (some (.builtin "object.__setattr__"))
  exC : PySem.W.subIn K (.ref C) (.type "BaseException") = some true
  tyC : PySem.W.typeIn K (.ref C) = some (.type "type")
  kC : PySem.W.keepIn K (.ref C) = true
section
variable {X : Cx} {pins : List (Addr × Obj)} {σ : L2.St} {H : Hp} {s : Shared} {a C dx : Addr} {f : Str} {y : V} {u : Value} {fs : List (Str × V)} {Q : Unit → Shared → Prop} {E : Value → Shared → Prop} {A : Around} {iB iI : String}
/-- self.f = y, the first one -/
theorem oet_new (T : OeX X.K C iB iI) (I : Inv X pins σ H s) (e : H a = some (exo a C none)) (hno : PySem.W.findIn X.K (.ref C) f = some none) (ry : RelV y u)
    (h : ∀ dx s', H dx = none → dx ≠ a → Inv X pins σ (upd (upd H dx (exd dx [(f, y)])) a (exo a C (some dx))) s' → Q () s') : wpAny (model X.prog X.w) A (setAttr (.ref a) f u) Q E s := by
  obtain ⟨nm, q, N, bs, bm, sn, sub, ab, col, dd, k0, k1, k2, k3, k5, nB, nI, hC, hbm⟩ := T.cls
  have hcl : PySem.W.clsIn X.K C = some { name := nm, bases := bs, mro := .ref C :: bm, ns := N, qualname := q, hasDict := true, slotNames := sn, subclasses := sub, abstract := ab, collection := col, hasDel := false } := by unfold PySem.W.clsIn; rw [hC] <;> rfl
  obtain ⟨t1, ho⟩ := exo_at I.hok e
  obtain ⟨hp, g, d, t, os⟩ := s
  refine PySem.W.set_plain I.kIn (ox := { cls := .ref C, dict := none, data := .fields #[.ref t1, .none, .none, .none, .bool false, .none] }) (od := none) ⟨ho, rfl, rfl, trivial⟩ T.sa ?_
  refine osa_fst I.kIn ho hcl hbm.ref rfl hno (fun h' tk' dx k dn dne hx hn => ?_)
  have hnd : H dx = none := I.hok.fresh dn
  have nd : ∀ {b : Addr} {o : Obj}, hp.get? b = some o → b ≠ dx := fun {b o} q => Nat.ne_of_lt (Nat.lt_of_lt_of_le (Heap.lt_size q) dn)
  have na : ∀ {b : Addr}, H b = none → b ≠ a := fun {b} n z => by
    rw [z, e] at n
    cases n
  have Un1 : Un X.fs [] H (upd (upd H dx (exd dx [(f, y)])) a (exo a C (some dx))) hp h' := {
    keep := fun b o q n _ _ => k b o (na n) q
    slot := fun b o q n _ _ => ⟨o.slots, k b o (na n) q⟩
    free := fun b o q n _ => by rw [upd_ne (na n), upd_ne (nd q)]; exact n
    there := fun b o q _ => by
      by_cases hb : b = a
      · exact ⟨_, by rw [hb]; exact hx⟩
      · exact ⟨o, k b o hb q⟩
    tups := fun b xs q => by rw [upd_ne (at_ne e q exo_tup), upd_ne (ne_of_none q hnd)]; exact q
    frzs := fun b o v q => by rw [upd_ne (at_ne e q exo_frz), upd_ne (ne_of_none q hnd)]; exact q
    tbls := fun b ps q => ⟨#[], by rw [upd_ne (at_ne e q exo_tbl), upd_ne (ne_of_none q hnd), q]; simp⟩ }
  refine h dx _ hnd dne (I.un (t' := tk') Un1 fun b o q => ?_)
  by_cases hb : b = a
  · subst hb
    rw [upd_same] at q
    cases q
    exact exo_ok hx
  · rw [upd_ne hb] at q
    by_cases hd : b = dx
    · subst hd
      rw [upd_same] at q
      cases q
      exact exd_ok hn (relO_put (fs := []) ry fun g => True.intro)
    · rw [upd_ne hd] at q
      exact (I.hok b o q).stay (fun c v hc z => k c v (by
          rcases hc with hc | hc
          · rw [hc]
            exact hb
          · exact at_ne e hc exo_own) z)
        (fun c hc => by rw [upd_ne (at_ne e hc exo_own), upd_ne (ne_of_none hc hnd)]; exact hc) (fun c xs hc => by rw [upd_ne (at_ne e hc exo_tup), upd_ne (ne_of_none hc hnd)]; exact hc)
/-- self.f = y, a further one -/
theorem oet_old (T : OeX X.K C iB iI) (I : Inv X pins σ H s) (e : H a = some (exo a C (some dx))) (ed : H dx = some (exd dx fs)) (hl : fs.length ≤ 900) (hno : PySem.W.findIn X.K (.ref C) f = some none) (ry : RelV y u)
    (h : ∀ s', Inv X pins σ (upd H dx (exd dx ((f, y) :: fs))) s' → Q () s') : wpAny (model X.prog X.w) A (setAttr (.ref a) f u) Q E s := by
  obtain ⟨nm, q, N, bs, bm, sn, sub, ab, col, dd, k0, k1, k2, k3, k5, nB, nI, hC, hbm⟩ := T.cls
  have hcl : PySem.W.clsIn X.K C = some { name := nm, bases := bs, mro := .ref C :: bm, ns := N, qualname := q, hasDict := true, slotNames := sn, subclasses := sub, abstract := ab, collection := col, hasDel := false } := by unfold PySem.W.clsIn; rw [hC] <;> rfl
  obtain ⟨t1, ho⟩ := exo_at I.hok e
  obtain ⟨mA, hns, rel⟩ := exd_at I.hok ed
  have hw := within_of rel
  obtain ⟨hp, g, d, t, os⟩ := s
  obtain ⟨oD, _, _, hoD, _, _⟩ := hns.count hw
  refine PySem.W.set_plain I.kIn (ox := { cls := .ref C, dict := some dx, data := .fields #[.ref t1, .none, .none, .none, .bool false, .none] }) (od := some oD) ⟨ho, rfl, rfl, hoD⟩ T.sa ?_
  refine osa_nxt I.kIn ho hns hw (by rw [List.length_map]; omega) hcl hbm.ref rfl hno (fun h' tk' k hn => ?_)
  have hd : ∃ o, h'.get? dx = some o := by
    obtain ⟨o, _, _, e', _⟩ := hn
    exact ⟨o, e'⟩
  exact h _ (I.write (t' := tk') (x := dx) (e := dx) (o := exd dx ((f, y) :: fs)) (by rw [ed]; exact True.intro) (.inl rfl) k hd (exd_ok hn (relO_put ry rel)))
/-- the base's __init__ as a call: nothing of it is told -/
theorem oet_init {us : List Value} {Q : Value → Shared → Prop} (T : OeX X.K C iB iI) (I : Inv X pins σ H s) (e : H a = some (exo a C none)) (hl : us.length ≤ sizeLine) (h : ∀ s', Inv X pins σ H s' → Q .none s') :
    wpAny (model X.prog X.w) A (call (.builtin iI) (.ref a :: us)) Q E s := by
  obtain ⟨nm, q, N, bs, bm, sn, sub, ab, col, dd, k0, k1, k2, k3, k5, nB, nI, hC, hbm⟩ := T.cls
  obtain ⟨t1, ho⟩ := exo_at I.hok e
  obtain ⟨hp, g, d, t, os⟩ := s
  refine wpAny_call (base_init hbm (I.kIn _ _ hC) ho hl fun h' t2 k hx => ?_)
  have J := I.write (t' := t) (x := a) (e := a) (o := exo a C none) (by rw [e]; exact True.intro) (.inl rfl) k ⟨_, hx⟩ (exo_ok hx)
  have eu : upd H a (exo a C none) = H := by
    funext b
    by_cases hb : b = a
    · rw [hb, upd_same, e]
    · rw [upd_ne hb]
  rw [eu] at J
  exact h _ J
end
/-- B.__init__(self, ..) -/
def tBi (K : PySem.W.Frag) (iB iI : String) (ta : TA) : TE := fun σ H Q => ta σ H fun vs H1 => ∃ (a C : Addr) (ws : List V), vs = .ref a :: ws ∧ ws.length ≤ 1000 ∧ OeX K C iB iI ∧ H1 a = some (exo a C none) ∧ Q .non H1
/-- self.f = e -/
def tOs (K : PySem.W.Frag) (iB iI : String) (f : Str) (to te : TE) : TS := fun D σ H => te σ H fun y H1 => to σ H1 fun x H2 => ∃ a C : Addr, x = .ref a ∧ OeX K C iB iI ∧ PySem.W.findIn K (.ref C) f = some none ∧
  ((H2 a = some (exo a C none) ∧ ∀ dx, H2 dx = none → dx ≠ a → D.nx σ (upd (upd H2 dx (exd dx [(f, y)])) a (exo a C (some dx)))) ∨
    ∃ (dx : Addr) (fs : List (Str × V)), H2 a = some (exo a C (some dx)) ∧ H2 dx = some (exd dx fs) ∧ fs.length ≤ 900 ∧ D.nx σ (upd H2 dx (exd dx ((f, y) :: fs))))
section
variable {X : Cx} {o e : Expr} {es : List Expr} {to te : TE} {ta : TA} {f x : Str} {p p' p1 p2 pos : Pos} {B : Addr} {mc : Value} {iB iI : String}
theorem pe_bi {pl : Sem Bool} (hg : Gl X x) (hm : X.mg x = some (.ref B)) (r : ClX.CRead X.K B mc) (vV : PySem.W.findCls X.K (.ref B) mc "__init__" = some (.val (.builtin iI))) (ha : PA X (e :: es) ta)
    (hc : eval (.Call (.Attribute (.Name x p1) "__init__" p2) (e :: es) [] pos) X.env = (do
      let ov ← eval (.Name x p1) X.env
      standAt p2.atName
      let (f, first) ← holding [ov] (getMethod ov "__init__" pl)
      callWith pos f first (backTo pos (starEach (e :: es) X.env)) (backToKw pos (keywordEach [] X.env))) := by rfl)
    (hcx : PySem.W.handedIn (.builtin iI) = true := by decide +kernel)
    (hdb : (x == ("__debug__" : Str)) = false := by decide) (he : starEach (e :: es) X.env = (false, eval e X.env) :: starEach es X.env := by rfl) (hpl : (backTo pos (starEach es X.env)).any (·.1) = false := by rfl) :
    PE X (.Call (.Attribute (.Name x p1) "__init__" p2) (e :: es) [] pos) (tBi X.K iB iI ta) := by
  refine ⟨fun pins s σ H Q I h => ?_⟩
  refine PySem.W.methodCall_KW (ld_glob I hg hm ?_ hdb) hc
  refine PySem.W.method_cls I.kIn r.ga (PySem.W.cls_value I.kIn r.rd vV hcx ?_)
  show wpAny _ _ (callWith pos (Value.builtin iI) [] (backTo pos (starEach (e :: es) X.env)) []) _ _ _
  refine PyProof.Rows.callWith_method1 (thn (ha.run pos pins _ σ H _ (I.tok _) h) fun us s1 ⟨vs, H1, I1, r1, a, C, ws, ev, hl, T, ea, q⟩ => ?_) he hpl
  subst ev
  cases r1 with
  | @cons _ u0 _ ur ra rw' =>
    obtain rfl : u0 = Value.ref a := ra
    have hlen : ur.length ≤ sizeLine := by
      rw [← Paired.length rw', sizeLine_eq]
      omega
    exact oet_init T I1 ea hlen fun s' J => ⟨.non, H1, J, rfl, q⟩
theorem ps_os (ho : PE X o to) (he : PE X e te) (hs : swapsWith e (some (.Attribute o f p')) pos.line X.env = pure false := by rfl) : PS X (.Assign [.Attribute o f p'] e pos) (tOs X.K iB iI f to te) := by
  refine ⟨fun pins s σ H D I h => ?_⟩
  refine plainObj_wpAny_Assign_Attribute (thn (he.run pins s σ H _ I h) fun v s1 ⟨y, H1, I1, r1, q1⟩ => thn (ho.run pins s1 σ H1 _ I1 q1) fun u s2 ⟨x, H2, I2, r2, a, C, ex, T, hno, q⟩ => ?_) hs
  subst ex
  obtain rfl : u = Value.ref a := r2
  rcases q with ⟨ea, q⟩ | ⟨dx, fs, ea, ed, hl, q⟩
  · exact oet_new T I2 ea hno r1 fun dx s' n ne J => ⟨σ, _, J, q dx n ne⟩
  · exact oet_old T I2 ea ed hl hno r1 fun s' J => ⟨σ, _, J, q⟩
theorem pmk_e {CX : CXT} {x : Str} {C fI : Addr} {k : Nat} {fd : FuncData} {ps : List Str} {sp : Sp} {ds : List Value} {dvs : List V} (T : OeX X.K C iB iI) (iC : PySem.W.findIn X.K (.ref C) "__init__" = some (some (.ref fI))) (tI : PySem.W.typeIn X.K (.ref fI) = some (.type "function"))
    (F1 : FnOk X.prog X.w X.K X.mg X.base CX k fI fd ps sp) (hr : Room (k + 1) X.A) (hb : Binds X.K fd ps ds) (hd : Vals dvs ds) (hx : Passes CX X (fun _ _ _ => False)) (hg : Gl X x) (hm : X.mg x = some (.ref C)) (ha : PA X (e :: es) ta)
    (hdb : (x == ("__debug__" : Str)) = false := by decide) (he : starEach (e :: es) X.env = (false, eval e X.env) :: starEach es X.env := by rfl) (hpl : (backTo pos (starEach es X.env)).any (·.1) = false := by rfl) :
    PMk X (.Call (.Name x p) (e :: es) [] pos) (tMkO C sp dvs ta) := by
  intro pins s σ H Q I h
  obtain ⟨nm, q, N, bs, bm, sn, sub, ab, col, dd, k0, k1, k2, k3, k5, nB, nI, hC, hbm⟩ := T.cls
  refine wpAny_Call_Name_kw (ld_glob I hg hm ?_ hdb)
  refine PySem.W.callWith_K (h₀ := X.base) I.ok.mod.kin T.kC (thn (ha.run pos pins s σ H _ I h) fun us s1 ⟨vs, H1, I1, r1, hz, q1⟩ => ⟨I1.kIn, ?_⟩) he hpl
  show wpAny _ _ (call (.ref C) us) _ _ _
  obtain ⟨hp, g, dr, tk, os⟩ := s1
  have hsz : hp.objs.size ≤ hp.objs.size + 1 := Nat.le_succ _
  have hn : H1 (hp.objs.size + 1) = none := I1.hok.fresh hsz
  have hq := q1 (hp.objs.size + 1) hn
  have kk : ∀ b o, hp.get? b = some o → ((hp.push (PySem.W.kdv_tup us)).push (PySem.HandSPX.excO C hp.objs.size)).get? b = some o := fun b o e => Heap.get?_push_of_some _ (Heap.get?_push_of_some _ e)
  have hget : ((hp.push (PySem.W.kdv_tup us)).push (PySem.HandSPX.excO C hp.objs.size)).get? (hp.objs.size + 1) = some (PySem.HandSPX.excO C hp.objs.size) := by heap_get
  have I2 : Inv X pins σ (upd H1 (hp.objs.size + 1) (exo (hp.objs.size + 1) C none)) ⟨(hp.push (PySem.W.kdv_tup us)).push (PySem.HandSPX.excO C hp.objs.size), g, dr, tk, os⟩ :=
    I1.laid (t' := tk) (a := hp.objs.size + 1) (o := exo (hp.objs.size + 1) C none) (h' := (hp.push (PySem.W.kdv_tup us)).push (PySem.HandSPX.excO C hp.objs.size)) kk hsz (exo_ok hget)
  have r2 : Vals (V.ref (hp.objs.size + 1) :: (vs ++ dvs)) (Value.ref (hp.objs.size + 1) :: (us ++ ds)) := .cons rfl (r1.append hd)
  have hl : (Value.ref (hp.objs.size + 1) :: us ++ ds).length = ps.length := by
    have e := r2.length
    rw [F1.len _ _ _ _ hq] at e
    exact e.symm
  have hus : us.length ≤ sizeLine := by
    rw [← Paired.length r1, sizeLine_eq]
    omega
  refine wpAny_call (mk_call hbm (I1.kIn _ _ hC) (PySem.W.looks_findIn I1.kIn iC) (fun self => PySem.W.bind_fn I1.kIn self tI) hus
    (codeAny_mono (F1.run _ X.stack _ _ ⟨Value.ref (hp.objs.size + 1) :: us, []⟩ (Value.ref (hp.objs.size + 1) :: (us ++ ds)) _ _ (fun _ _ _ => False) (hr.make C us []) (I2.env0.make C us []) (hb _ (Value.ref (hp.objs.size + 1) :: us) I2.kIn hl) r2 hq) fun r s' hq' => ?_))
  cases r with
  | error er => exact hx pins σ _ _ er s' I2 hq'
  | ok fl =>
    cases fl with
    | ret u =>
      obtain ⟨v, H2, os2, bare2, un2, hok2, rv, ev, d, fs, ea, ed, hd1, q2⟩ := hq'
      subst ev
      obtain ⟨h2, g2, d2, t2, os'⟩ := s'
      exact ⟨rv, mk_end (raises_own T.exC T.tyC) I1 hsz kk un2 hok2 os2 bare2 ea ed hd1 q2⟩
    | next => exact False.elim hq'
    | brk => exact False.elim hq'
    | cont => exact False.elim hq'
end
end Mv
/-! Exceptions of own classes: raised by values or by keywords, each with one to three fields. -/
namespace Mv
open PySem PySem.Spec PyProof.Rows L2
/-- C(k = v, ..) -/
def tMkK (C : Addr) (m : Nat) (sp : Sp) (gV : List V → List V → List V) (tk : TA) : L2.St → Hp → XK → Prop := fun σ H Q => tk σ H fun zs H1 => zs.length = m ∧ ∀ a, H1 a = none → sp (gV [.ref a] zs) (upd H1 a (exo a C none))
  (fun v H2 => v = .non ∧ ∃ (d : Addr) (fs : List (Str × V)), H2 a = some (exo a C (some d)) ∧ H2 d = some (exd d fs) ∧ H1 d = none ∧ Q (.ref C) (some d) (upd (del H2 a) d (.xd fs))) (fun _ _ _ => False)
section
variable {X : Cx} {p pos : Pos} {iB iI : String}
theorem pmk_k {CX : CXT} {x : Str} {C fI : Addr} {k : Nat} {fd : FuncData} {ps : List Str} {sp : Sp} {ks : List Str} {gg : List Value → List Value → List Value} {gV : List V → List V → List V} {kws : List Keyword} {tk : TA} (T : OeX X.K C iB iI) (iC : PySem.W.findIn X.K (.ref C) "__init__" = some (some (.ref fI))) (tI : PySem.W.typeIn X.K (.ref fI) = some (.type "function"))
    (F1 : FnOk X.prog X.w X.K X.mg X.base CX k fI fd ps sp) (hr : Room (k + 1) X.A) (hb : KBn X.K fd ps 1 ks gg gV) (hx : Passes CX X (fun _ _ _ => False)) (hg : Gl X x) (hm : X.mg x = some (.ref C)) (hkw : PK X kws tk)
    (hall : (backToKw pos (keywordEach kws X.env)).all (·.1.isSome) = true := by rfl) (hks : (backToKw pos (keywordEach kws X.env)).filterMap (·.1) = ks := by rfl) (hdb : (x == ("__debug__" : Str)) = false := by decide)
    (hpl : ((backTo pos (starEach [] X.env)).any (·.1) || (backToKw pos (keywordEach kws X.env)).any (·.1.isNone)) = false := by rfl) :
    PMk X (.Call (.Name x p) [] kws pos) (tMkK C ks.length sp gV tk) := by
  intro pins s σ H Q I h
  obtain ⟨nm, q, N, bs, bm, sn, sub, ab, col, dd, k0, k1, k2, k3, k5, nB, nI, hC, hbm⟩ := T.cls
  refine wpAny_Call_Name_kw (ld_glob I hg hm ?_ hdb)
  refine PySem.W.callWith_KW0 (h₀ := X.base) I.ok.mod.kin T.kC hall ?_ hpl
  refine thn (hkw.run pos pins s σ H _ I h) fun ws s1 ⟨zs, H1, I1, rz, lz, q1⟩ => ⟨I1.kIn, ?_⟩
  rw [hks]
  show wpAny _ _ (call (.ref C) [] (ks.zip ws)) _ _ _
  obtain ⟨hp, g, dr, tk, os⟩ := s1
  have hsz : hp.objs.size ≤ hp.objs.size + 1 := Nat.le_succ _
  have hn : H1 (hp.objs.size + 1) = none := I1.hok.fresh hsz
  have hq := q1 (hp.objs.size + 1) hn
  have kk : ∀ b o, hp.get? b = some o → ((hp.push (PySem.W.kdv_tup [])).push (PySem.HandSPX.excO C hp.objs.size)).get? b = some o := fun b o e => Heap.get?_push_of_some _ (Heap.get?_push_of_some _ e)
  have hget : ((hp.push (PySem.W.kdv_tup [])).push (PySem.HandSPX.excO C hp.objs.size)).get? (hp.objs.size + 1) = some (PySem.HandSPX.excO C hp.objs.size) := by heap_get
  have I2 : Inv X pins σ (upd H1 (hp.objs.size + 1) (exo (hp.objs.size + 1) C none)) ⟨(hp.push (PySem.W.kdv_tup [])).push (PySem.HandSPX.excO C hp.objs.size), g, dr, tk, os⟩ :=
    I1.laid (t' := tk) (a := hp.objs.size + 1) (o := exo (hp.objs.size + 1) C none) (h' := (hp.push (PySem.W.kdv_tup [])).push (PySem.HandSPX.excO C hp.objs.size)) kk hsz (exo_ok hget)
  have r1 : Vals [V.ref (hp.objs.size + 1)] [Value.ref (hp.objs.size + 1)] := .cons rfl .nil
  have r2 := hb.rel r1 rz
  have e2 : ws.length = ks.length := rz.length.symm.trans lz
  refine wpAny_call (mk_call hbm (I1.kIn _ _ hC) (PySem.W.looks_findIn I1.kIn iC) (fun self => PySem.W.bind_fn I1.kIn self tI) (Nat.zero_le _)
    (codeAny_mono (F1.run _ X.stack _ _ ⟨[Value.ref (hp.objs.size + 1)], ks.zip ws⟩ (gg [Value.ref (hp.objs.size + 1)] ws) _ _ (fun _ _ _ => False) (hr.make C [] (ks.zip ws)) (I2.env0.make C [] (ks.zip ws)) (hb.to _ [Value.ref (hp.objs.size + 1)] ws I2.kIn rfl e2) r2 hq) fun r s' hq' => ?_))
  cases r with
  | error er => exact hx pins σ _ _ er s' I2 hq'
  | ok fl =>
    cases fl with
    | ret u =>
      obtain ⟨v, H2, os2, bare2, un2, hok2, rv, ev, d, fs, ea, ed, hd1, q2⟩ := hq'
      subst ev
      obtain ⟨h2, g2, d2, t2, os'⟩ := s'
      exact ⟨rv, mk_end (raises_own T.exC T.tyC) I1 hsz kk un2 hok2 os2 bare2 ea ed hd1 q2⟩
    | next => exact False.elim hq'
    | brk => exact False.elim hq'
    | cont => exact False.elim hq'
end
/-! ### __init__ -/
def sp_in (C : Addr) (fs : List Str) : Sp := fun vs H Q _ => ∃ (a : Addr) (ys : List V), vs = .ref a :: ys ∧ ys.length = fs.length ∧ H a = some (exo a C none) ∧
  ∀ (dx : Addr) (H' : Hp), H dx = none → dx ≠ a → H' a = some (exo a C (some dx)) → H' dx = some (exd dx (fs.zip ys).reverse) → (∀ b, b ≠ a → b ≠ dx → H' b = H b) → Q .non H'
abbrev iHead (Bx : Str) (txt : Str) (p1 p2 p3 p4 p5 p6 : Pos) : Stmt := .Expr (.Call (.Attribute (.Name Bx p1) "__init__" p2) [.Name "self" p3, .Constant (.str txt) 0 p4] [] p5) p6
/-- how the call of the base's __init__ is taken apart -/
abbrev iTakes (q : Str) (sc : Scope) (Bx : Str) (txt : Str) (p1 p2 p3 p4 p5 : Pos) (pl : Addr → Addr → Value → Sem Bool) : Prop := ∀ (L f : Addr) (cd : Value), eval (.Call (.Attribute (.Name Bx p1) "__init__" p2) [.Name "self" p3, .Constant (.str txt) 0 p4] [] p5) (envOfC q sc L f cd) = (do
      let ov ← eval (.Name Bx p1) (envOfC q sc L f cd)
      standAt p2.atName
      let (f1, first) ← holding [ov] (getMethod ov "__init__" (pl L f cd))
      callWith p5 f1 first (backTo p5 (starEach [.Name "self" p3, .Constant (.str txt) 0 p4] (envOfC q sc L f cd))) (backToKw p5 (keywordEach [] (envOfC q sc L f cd))))
abbrev iSet (f : Str) (q1 q2 q3 q4 : Pos) : Stmt := .Assign [.Attribute (.Name "self" q1) f q2] (.Name f q3) q4
/-- a base class that has no __init__ of its own: B.__init__ is the built-in one -/
structure BaseI (K : PySem.W.Frag) (mg : Str → Option Value) (Bx : Str) (iI : String) : Prop where
  ex : ∃ (B : Addr) (mc : Value), mg Bx = some (.ref B) ∧ ClX.CRead K B mc ∧ PySem.W.findCls K (.ref B) mc "__init__" = some (.val (.builtin iI))
  hd : PySem.W.handedIn (.builtin iI) = true
section
variable {P : Program} {w : World} {K : PySem.W.Frag} {mg : Str → Option Value} {base : Heap} {C fI : Addr} {fd : FuncData} {st : Stmt} {q Bx txt : Str} {iB iI : String} {f g h : Str} {p1 p2 p3 p4 p5 p6 q1 q2 q3 q4 r1 r2 r3 r4 s1 s2 s3 s4 : Pos}
theorem upd_ne' {H : Hp} {a b : Addr} {o : HO} (h : b ≠ a) : upd H a o b = H b := upd_ne h
theorem ok_in1 (F : Fun K "__init__" q st fI fd) (Bi : BaseI K mg Bx iI) (T : OeX K C iB iI) (n1 : PySem.W.findIn K (.ref C) f = some none) (sc : FnScope ["self", f] ["self", f] (defScope st)) (hgl : (defScope st).names.lookup Bx = some .globalImplicit) (hdb : (Bx == ("__debug__" : Str)) = false)
    (v0 : Vis (defScope st) "self") (v1 : Vis (defScope st) f) (d1 : (f == ("__debug__" : Str)) = false) (c1 : (f == ("__classdict__" : Str)) = false)
    (pl : Addr → Addr → Value → Sem Bool) (hc : iTakes q (defScope st) Bx txt p1 p2 p3 p4 p5 pl) (hb : defBody st = [iHead Bx txt p1 p2 p3 p4 p5 p6, iSet f q1 q2 q3 q4]) : FnOk P w K mg base CX0 1 fI fd ["self", f] (sp_in C [f]) := by
  refine F.ok sc (fun vs H Q E h => ?_) (fun cdv A outer s H vs Q E hr h => ?_)
  · obtain ⟨a, ys, rfl, hl, _⟩ := h
    exact congrArg (· + 1) hl
  · obtain ⟨a, ys, rfl, hl, ha, k⟩ := h
    obtain ⟨B, mc, hm, cr, fc⟩ := Bi.ex
    match ys, hl with
    | [y], _ =>
      rw [hb]
      refine ⟨_, pss_cons (ps_expr (pe_bi (iB := iB) hgl hm cr fc (pa_cons (pe_var (i := 0) rfl v0) (pa_cons pe_str pa_nil)) (hc := hc _ _ _) (hcx := Bi.hd) (hdb := hdb))) (pss_one (ps_os (iB := iB) (iI := iI) (pe_var (i := 0) rfl v0) (pe_var (i := 1) rfl v1 d1 c1))), ?_⟩
      refine ⟨_, rfl, a, C, [.str txt], rfl, (by show 1 ≤ 1000; decide), T, ha, ?_⟩
      exact ⟨_, rfl, _, rfl, a, C, rfl, T, n1, .inl ⟨ha, fun dx n ne => k dx _ n ne upd_same (by rw [upd_ne ne, upd_same] <;> rfl) fun b h1 h2 => by rw [upd_ne h1, upd_ne h2]⟩⟩
theorem ok_in2 (F : Fun K "__init__" q st fI fd) (Bi : BaseI K mg Bx iI) (T : OeX K C iB iI) (n1 : PySem.W.findIn K (.ref C) f = some none) (n2 : PySem.W.findIn K (.ref C) g = some none) (sc : FnScope ["self", f, g] ["self", f, g] (defScope st)) (hgl : (defScope st).names.lookup Bx = some .globalImplicit) (hdb : (Bx == ("__debug__" : Str)) = false)
    (v0 : Vis (defScope st) "self") (v1 : Vis (defScope st) f) (d1 : (f == ("__debug__" : Str)) = false) (c1 : (f == ("__classdict__" : Str)) = false) (v2 : Vis (defScope st) g) (d2 : (g == ("__debug__" : Str)) = false) (c2 : (g == ("__classdict__" : Str)) = false)
    (pl : Addr → Addr → Value → Sem Bool) (hc : iTakes q (defScope st) Bx txt p1 p2 p3 p4 p5 pl) (hb : defBody st = [iHead Bx txt p1 p2 p3 p4 p5 p6, iSet f q1 q2 q3 q4, iSet g r1 r2 r3 r4]) : FnOk P w K mg base CX0 1 fI fd ["self", f, g] (sp_in C [f, g]) := by
  refine F.ok sc (fun vs H Q E h => ?_) (fun cdv A outer s H vs Q E hr h => ?_)
  · obtain ⟨a, ys, rfl, hl, _⟩ := h
    exact congrArg (· + 1) hl
  · obtain ⟨a, ys, rfl, hl, ha, k⟩ := h
    obtain ⟨B, mc, hm, cr, fc⟩ := Bi.ex
    match ys, hl with
    | [y, z], _ =>
      rw [hb]
      refine ⟨_, pss_cons (ps_expr (pe_bi (iB := iB) hgl hm cr fc (pa_cons (pe_var (i := 0) rfl v0) (pa_cons pe_str pa_nil)) (hc := hc _ _ _) (hcx := Bi.hd) (hdb := hdb)))
        (pss_cons (ps_os (iB := iB) (iI := iI) (pe_var (i := 0) rfl v0) (pe_var (i := 1) rfl v1 d1 c1)) (pss_one (ps_os (iB := iB) (iI := iI) (pe_var (i := 0) rfl v0) (pe_var (i := 2) rfl v2 d2 c2)))), ?_⟩
      refine ⟨_, rfl, a, C, [.str txt], rfl, (by show 1 ≤ 1000; decide), T, ha, ?_⟩
      refine ⟨_, rfl, _, rfl, a, C, rfl, T, n1, .inl ⟨ha, fun dx n ne => ?_⟩⟩
      refine ⟨_, rfl, _, rfl, a, C, rfl, T, n2, .inr ⟨dx, _, upd_same, (by rw [upd_ne ne, upd_same]), (by show 1 ≤ 900; decide), ?_⟩⟩
      exact k dx _ n ne (by rw [upd_ne (Ne.symm ne), upd_same]) upd_same fun b h1 h2 => by rw [upd_ne h2, upd_ne h1, upd_ne h2]
theorem ok_in3 (F : Fun K "__init__" q st fI fd) (Bi : BaseI K mg Bx iI) (T : OeX K C iB iI) (n1 : PySem.W.findIn K (.ref C) f = some none) (n2 : PySem.W.findIn K (.ref C) g = some none) (n3 : PySem.W.findIn K (.ref C) h = some none) (sc : FnScope ["self", f, g, h] ["self", f, g, h] (defScope st)) (hgl : (defScope st).names.lookup Bx = some .globalImplicit) (hdb : (Bx == ("__debug__" : Str)) = false)
    (v0 : Vis (defScope st) "self") (v1 : Vis (defScope st) f) (d1 : (f == ("__debug__" : Str)) = false) (c1 : (f == ("__classdict__" : Str)) = false) (v2 : Vis (defScope st) g) (d2 : (g == ("__debug__" : Str)) = false) (c2 : (g == ("__classdict__" : Str)) = false) (v3 : Vis (defScope st) h) (d3 : (h == ("__debug__" : Str)) = false) (c3 : (h == ("__classdict__" : Str)) = false)
    (pl : Addr → Addr → Value → Sem Bool) (hc : iTakes q (defScope st) Bx txt p1 p2 p3 p4 p5 pl) (hb : defBody st = [iHead Bx txt p1 p2 p3 p4 p5 p6, iSet f q1 q2 q3 q4, iSet g r1 r2 r3 r4, iSet h s1 s2 s3 s4]) : FnOk P w K mg base CX0 1 fI fd ["self", f, g, h] (sp_in C [f, g, h]) := by
  refine F.ok sc (fun vs H Q E h => ?_) (fun cdv A outer s H vs Q E hr h => ?_)
  · obtain ⟨a, ys, rfl, hl, _⟩ := h
    exact congrArg (· + 1) hl
  · obtain ⟨a, ys, rfl, hl, ha, k⟩ := h
    obtain ⟨B, mc, hm, cr, fc⟩ := Bi.ex
    match ys, hl with
    | [y, z, x], _ =>
      rw [hb]
      refine ⟨_, pss_cons (ps_expr (pe_bi (iB := iB) hgl hm cr fc (pa_cons (pe_var (i := 0) rfl v0) (pa_cons pe_str pa_nil)) (hc := hc _ _ _) (hcx := Bi.hd) (hdb := hdb)))
        (pss_cons (ps_os (iB := iB) (iI := iI) (pe_var (i := 0) rfl v0) (pe_var (i := 1) rfl v1 d1 c1)) (pss_cons (ps_os (iB := iB) (iI := iI) (pe_var (i := 0) rfl v0) (pe_var (i := 2) rfl v2 d2 c2)) (pss_one (ps_os (iB := iB) (iI := iI) (pe_var (i := 0) rfl v0) (pe_var (i := 3) rfl v3 d3 c3))))), ?_⟩
      refine ⟨_, rfl, a, C, [.str txt], rfl, (by show 1 ≤ 1000; decide), T, ha, ?_⟩
      refine ⟨_, rfl, _, rfl, a, C, rfl, T, n1, .inl ⟨ha, fun dx n ne => ?_⟩⟩
      refine ⟨_, rfl, _, rfl, a, C, rfl, T, n2, .inr ⟨dx, _, upd_same, (by rw [upd_ne ne, upd_same]), (by show 1 ≤ 900; decide), ?_⟩⟩
      refine ⟨_, rfl, _, rfl, a, C, rfl, T, n3, .inr ⟨dx, _, (by rw [upd_ne (Ne.symm ne), upd_same]), upd_same, (by show 2 ≤ 900; decide), ?_⟩⟩
      exact k dx _ n ne (by rw [upd_ne (Ne.symm ne), upd_ne (Ne.symm ne), upd_same]) upd_same fun b h1 h2 => by rw [upd_ne h2, upd_ne h2, upd_ne h1, upd_ne h2]
end
/-! ### the making, told cleanly -/
/-- an exception class with its __init__, as the top has written it -/
structure ExT (P : Program) (w : World) (K : PySem.W.Frag) (mg : Str → Option Value) (base : Heap) (x : Str) (C : Addr) (fs : List Str) : Prop where
  m : mg x = some (.ref C)
  xf : XfC K C
  no : ∀ f ∈ fs, PySem.W.findIn K (.ref C) f = some none
  ex : ∃ (fI : Addr) (fd : FuncData) (iB iI : String), OeX K C iB iI ∧ PySem.W.findIn K (.ref C) "__init__" = some (some (.ref fI)) ∧ PySem.W.typeIn K (.ref fI) = some (.type "function") ∧ FnOk P w K mg base CX0 1 fI fd ("self" :: fs) (sp_in C fs) ∧ Binds K fd ("self" :: fs) [] ∧
    KBn K fd ("self" :: fs) 1 fs.reverse (fun us ws => us ++ ws.reverse) (fun vs zs => vs ++ zs.reverse)
/-- raise C(e, ..) -/
def tRz (C : Addr) (fs : List Str) (ta : TA) : L2.St → Hp → XK → Prop := fun σ H Q => ta σ H fun vs H1 => vs.length = fs.length ∧ ∀ d, H1 d = none → Q (.ref C) (some d) (upd H1 d (.xd (fs.zip vs).reverse))
/-- raise C(k = e, ..), the keywords from the last to the first -/
def tRzK (C : Addr) (fs : List Str) (tk : TA) : L2.St → Hp → XK → Prop := fun σ H Q => tk σ H fun zs H1 => zs.length = fs.length ∧ ∀ d, H1 d = none → Q (.ref C) (some d) (upd H1 d (.xd (fs.zip zs.reverse).reverse))
theorem made_end {H1 H2 : Hp} {a C dx : Addr} {l : List (Str × V)} {Q : XK} (ha : H1 a = none) (nd : upd H1 a (exo a C none) dx = none) (ne : dx ≠ a) (e1 : H2 a = some (exo a C (some dx))) (e2 : H2 dx = some (exd dx l)) (e3 : ∀ b, b ≠ a → b ≠ dx → H2 b = upd H1 a (exo a C none) b)
    (q : Q (.ref C) (some dx) (upd H1 dx (.xd l))) : ∃ (d : Addr) (fs : List (Str × V)), H2 a = some (exo a C (some d)) ∧ H2 d = some (exd d fs) ∧ H1 d = none ∧ Q (.ref C) (some d) (upd (del H2 a) d (.xd fs)) := by
  have n1 : H1 dx = none := by rwa [upd_ne ne] at nd
  refine ⟨dx, l, e1, e2, n1, ?_⟩
  have e : upd (del H2 a) dx (.xd l) = upd H1 dx (.xd l) := by
    funext b
    by_cases hb : b = dx
    · rw [hb, upd_same, upd_same]
    · rw [upd_ne hb, upd_ne hb]
      by_cases hc : b = a
      · rw [hc, del_same, ha]
      · rw [del_ne hc, e3 b hc hb, upd_ne hc]
  rw [e]
  exact q
/-- a reading that asks less -/
def tWeak (t : TA) : TA := fun σ H Q => ∃ Q0, t σ H Q0 ∧ ∀ vs H1, Q0 vs H1 → Q vs H1
theorem pa_weak {X : Cx} {es : List Expr} {t : TA} (h : PA X es t) : PA X es (tWeak t) := ⟨fun pos pins s σ H Q I ⟨Q0, h0, hq⟩ => thn (h.run pos pins s σ H Q0 I h0) fun us s1 ⟨vs, H1, I1, r, q⟩ => ⟨vs, H1, I1, r, hq vs H1 q⟩⟩
theorem pk_weak {X : Cx} {kws : List Keyword} {t : TA} (h : PK X kws t) : PK X kws (tWeak t) := ⟨fun pos pins s σ H Q I ⟨Q0, h0, hq⟩ => thn (h.run pos pins s σ H Q0 I h0) fun us s1 ⟨vs, H1, I1, r, q⟩ => ⟨vs, H1, I1, r, hq vs H1 q⟩⟩
section
variable {X : Cx} {x : Str} {C : Addr} {fs : List Str} {e : Expr} {es : List Expr} {ta tk : TA} {kws : List Keyword} {p pos pos2 : Pos} {W : WX}
theorem pmk_rz (T : ExT X.prog X.w X.K X.mg X.base x C fs) (hr : Room 2 X.A) (hg : Gl X x) (hn : fs.length ≤ 1000) (ha : PA X (e :: es) ta) (hdb : (x == ("__debug__" : Str)) = false := by decide)
    (he : starEach (e :: es) X.env = (false, eval e X.env) :: starEach es X.env := by rfl) (hpl : (backTo pos (starEach es X.env)).any (·.1) = false := by rfl) :
    PMk X (.Call (.Name x p) (e :: es) [] pos) (tRz C fs ta) := by
  obtain ⟨fI, fd, iB, iI, oe, iC, tI, F, bd, _⟩ := T.ex
  have z := pmk_e (pos := pos) (p := p) oe iC tI F hr bd .nil pass0 hg T.m (pa_weak ha) hdb he hpl
  intro pins s σ H Q I h
  refine z pins s σ H Q I ⟨_, h, ?_⟩
  intro vs H1 ⟨hl, k⟩
  refine ⟨by omega, fun a ha0 => ⟨a, vs, by rw [List.append_nil], hl, upd_same, fun dx H' n ne e1 e2 e3 => ⟨rfl, made_end ha0 n ne e1 e2 e3 (k dx (by rwa [upd_ne ne] at n))⟩⟩⟩
theorem pmk_rzK (T : ExT X.prog X.w X.K X.mg X.base x C fs) (hr : Room 2 X.A) (hg : Gl X x) (hkw : PK X kws tk) (hdb : (x == ("__debug__" : Str)) = false := by decide)
    (hall : (backToKw pos (keywordEach kws X.env)).all (·.1.isSome) = true := by rfl) (hks : (backToKw pos (keywordEach kws X.env)).filterMap (·.1) = fs.reverse := by rfl)
    (hpl : ((backTo pos (starEach [] X.env)).any (·.1) || (backToKw pos (keywordEach kws X.env)).any (·.1.isNone)) = false := by rfl) :
    PMk X (.Call (.Name x p) [] kws pos) (tRzK C fs tk) := by
  obtain ⟨fI, fd, iB, iI, oe, iC, tI, F, _, kb⟩ := T.ex
  have z := pmk_k (pos := pos) (p := p) oe iC tI F hr kb pass0 hg T.m (pk_weak hkw) hall hks hdb hpl
  intro pins s σ H Q I h
  refine z pins s σ H Q I ⟨_, h, ?_⟩
  intro zs H1 ⟨hl, k⟩
  refine ⟨by rw [List.length_reverse]; exact hl, fun a ha0 => ⟨a, zs.reverse, rfl, by rw [List.length_reverse]; exact hl, upd_same, fun dx H' n ne e1 e2 e3 => ⟨rfl, made_end ha0 n ne e1 e2 e3 (k dx (by rwa [upd_ne ne] at n))⟩⟩⟩
end
end Mv
/-! Several except clauses, each with or without a name. -/
namespace Mv
open PySem PySem.Spec PyProof.Rows L2
inductive HdA (X : Cx) : List ExceptHandler → List (Value × (Addr → Value → Option Addr → TS)) → Prop
  | nil : HdA X [] []
  | cons {x : Str} {c : Value} {ts : Addr → Value → Option Addr → TS} {b₀ : Stmt} {suite : List Stmt} {np pos' : Pos} {hds : List ExceptHandler} {l : List (Value × (Addr → Value → Option Addr → TS))} (hc : Names X x c)
      (hsu : ∀ (a : Addr) (oe : Obj) (cls : Value) (d : Option Addr) (pn : List (Addr × Obj)), Zc cls d oe → (∃ vs, oe.data = .fields vs) → PSs (X.suite a ((a, oe) :: pn)) (b₀ :: suite) (ts a cls d)) (r : HdA X hds l) :
      HdA X (.ExceptHandler (some (.Name x np)) none (b₀ :: suite) pos' :: hds) ((c, ts) :: l)
  | as {x n : Str} {i : Nat} {c : Value} {ts : Addr → Value → Option Addr → TS} {b₀ : Stmt} {suite : List Stmt} {np pos' : Pos} {hds : List ExceptHandler} {l : List (Value × (Addr → Value → Option Addr → TS))} (hN : X.N.Nodup) (hi : X.N[i]? = some n) (hln : X.env.kindOf n = some .local) (hc : Names X x c)
      (hsu : ∀ (a : Addr) (oe : Obj) (cls : Value) (d : Option Addr) (pn : List (Addr × Obj)), Zc cls d oe → (∃ vs, oe.data = .fields vs) → PSs (X.suite a ((a, oe) :: pn)) (b₀ :: suite) (ts a cls d)) (r : HdA X hds l) :
      HdA X (.ExceptHandler (some (.Name x np)) (some n) (b₀ :: suite) pos' :: hds) ((c, fun a cls d D σ H => ts a cls d { nx := fun σ' H' => D.nx (σ'.set i none) H', rt := D.rt, bk := fun σ' H' => D.bk (σ'.set i none) H', ct := fun σ' H' => D.ct (σ'.set i none) H' } (σ.set i (some (.ref a))) H) :: l)
section
variable {X : Cx} {body : List Stmt} {h₀ : ExceptHandler} {hds : List ExceptHandler} {l : List (Value × (Addr → Value → Option Addr → TS))} {pos : Pos} {tb : WX → TS} {Wout : WX}
theorem ps_try_as2 (hs : X.stack = X.env :: X.outer) (hf : X.env.frame = some X.env.locals) (tk : Takes X Wout)
    (hb : ∀ (W : WX) (pn : List (Addr × Obj)) (xe : Value → Shared → Prop), Takes (X.tr pn xe) W → PassesOwn (model X.prog X.w) X.A X.env xe → PSs (X.tr pn xe) body (tb W))
    (hh : HdA X (h₀ :: hds) l) : PS X (.Try body (h₀ :: hds) [] [] pos) (fun D σ H => tb (wMany X.K Wout D l) D σ H) := by
  refine ⟨fun pins s σ H D I h => ?_⟩
  have ok := I.ok
  have hfr : X.A.frames = some (X.env :: X.outer) := by rw [ok.frames, hs]
  refine wpAny_Try_except ?_
  refine wpAny_mono ((hb (wMany X.K Wout D l) (X.pn ++ pins) (fun e s₁ => wpAny (model X.prog X.w) X.A (noteFrame e X.env) (fun _ s₂ => wpAny (model X.prog X.w) X.A (setFlight e none) (fun _ s₃ =>
    wpAny (model X.prog X.w) X.A (handleBy e X.env (h₀ :: hds)) (SP X pins D) X.xe s₃) X.xe s₂) X.xe s₁) (fun u s' xx => ?_) PassesOwn.looking).run [] s σ H D (I.toTry _) h) (fun f s1 hsp => ?_) (fun e s1 he => he)
  · -- the catch
    obtain ⟨a, B, sI, pins', σ', H', cls, d, rfl, J', nb, up, sky, na, os, ag, w⟩ := xx
    have J : Inv X pins σ' H' sI := J'.ofTry ok
    have sky' : Sky B (X.env :: X.outer) a (Zc cls d) X.env.locals s'.heap := by rw [← hs]; exact sky
    show wpAny (model X.prog X.w) X.A (noteFrame (.ref a) X.env) _ _ _
    refine Sky.land Zc.steady hfr hf sky' fun h3 fl3 up3 => ?_
    have J3 : Inv X pins σ' H' { s' with heap := h3 } := J.landed nb fl3.1 (up.trans up3) os ag
    obtain ⟨oe3, vs3, he3, hz3, hd3⟩ := fl3.there
    have notFr : ∀ {h : Heap} {o : Obj} {vs : Array Value}, h.FunFrames B (X.env :: X.outer) → h.get? a = some o → o.data = .fields vs → a ∉ frs (X.env :: X.outer) := fun {h o vs} ff e dd hm => by
      obtain ⟨_, o', e', hnf⟩ := ff.mem hm
      rw [e] at e'; cases e'
      exact hnf _ dd
    have nfr := notFr fl3.2.2.1 he3 hd3
    have nL : a ≠ X.env.locals := fun z => nfr (List.mem_filterMap.mpr ⟨X.env, List.mem_cons_self, by rw [hf, z]⟩)
    have nF : a ∉ X.fs := fun hm => by
      obtain ⟨e, he, q⟩ := List.mem_filterMap.mp hm
      exact nfr (List.mem_filterMap.mpr ⟨e, List.mem_cons_of_mem _ he, q⟩)
    have S3 := J3.suite he3 hd3 na nL nF
    have go : ∀ {hds' : List ExceptHandler} {l' : List (Value × (Addr → Value → Option Addr → TS))}, HdA X hds' l' → wMany X.K Wout D l' cls d σ' H' →
        wpAny (model X.prog X.w) X.A (handleBy (.ref a) X.env hds') (SP X pins D) X.xe { s' with heap := h3 } := by
      intro hds' l' hk
      induction hk with
      | nil =>
        intro w
        refine wpAny_handleBy_nil ?_
        obtain ⟨k1, k2, k3, oe, vs, T, oT, ts', he, hz, hd, h1, hr⟩ := id fl3
        unfold PySem.passOn
        refine wpAny_bind (wpAny_field he hd h1 ?_)
        rw [if_neg (show ¬ ((Value.ref T == Value.none) = true) from by simp)]
        have fin : wpAny (model X.prog X.w) X.A (setFlight (.ref a) X.env.frame) (fun _ s4 => wpAny (model X.prog X.w) X.A (throw (.ref a) : Sem Flow) (SP X pins D) X.xe s4) X.xe { s' with heap := h3 } := by
          rw [hf]
          refine HandSPX.setFlight_upZ fl3 fun h4 hh4 up4 => wpAny_throw (tk _ _ ?_)
          exact ⟨a, B, sI, pins, σ', H', cls, d, rfl, J, nb, (up.trans up3).trans up4, .inr (.inr (by rw [hs]; exact hh4)), na, os, ag, w⟩
        first
          | exact wpAny_bind (wpAny_pure (wpAny_bind fin))
          | exact wpAny_bind fin
      | @cons x c ts b₀ suite np pos' hds2 l2 hc hsu r ih =>
        intro w
        obtain ⟨b, hb1, hyes, hno⟩ := w
        refine wpAny_handleBy_cons (codeAny_handlers_test ?_) (by intro q; cases q)
        have LT : PySem.W.Looks (model X.prog X.w) h3 (typeOf (.ref a)) cls := fun A Q E s k q => wpAny_typeOf_ref (k _ _ he3) (by rw [hz3.1]; exact q)
        have LM := PySem.W.exm_one (M := model X.prog X.w) (J3.kIn) LT hb1
        have test : ∀ {Q : Value → Shared → Prop} {E : Value → Shared → Prop}, Q c { s' with heap := h3 } → wpAny (model X.prog X.w) (X.A.mark (some (.ref a))) (eval (.Name x np) X.env) Q E { s' with heap := h3 } := fun {Q E} q => by
          obtain ⟨hg, hdbg, hm | ⟨hm, hv, hnn⟩⟩ := hc
          · exact ld_glob (X := X.suite a ((a, oe3) :: (X.pn ++ pins))) S3 hg hm q hdbg
          · exact ld_blt (X := X.suite a ((a, oe3) :: (X.pn ++ pins))) S3 hg hm hv q hnn hdbg
        refine test (LM.here ?_)
        cases b with
        | true =>
          refine codeAny_handlers_suite ?_
          refine HandSPX.lands_againZ fl3 fun h4 fl4 up4 => ?_
          have J4 : Inv X pins σ' H' { s' with heap := h4 } := J.landed nb fl4.1 ((up.trans up3).trans up4) os ag
          obtain ⟨oe4, vs4, he4, hz4, hd4⟩ := fl4.there
          have S4 := J4.suite he4 hd4 na nL nF
          refine wpAny_mono ((hsu a oe4 cls d (X.pn ++ pins) hz4 ⟨_, hd4⟩).run [] _ _ H' _ S4 (hyes rfl a na)) (fun f s6 hsp => ?_) (fun _ _ z => False.elim z)
          cases f with
          | next =>
            obtain ⟨σ6, H6, S6, q6⟩ := hsp
            exact ⟨_, _, S6.unsuite ok, q6⟩
          | brk =>
            obtain ⟨σ6, H6, S6, q6⟩ := hsp
            exact ⟨_, _, S6.unsuite ok, q6⟩
          | cont =>
            obtain ⟨σ6, H6, S6, q6⟩ := hsp
            exact ⟨_, _, S6.unsuite ok, q6⟩
          | ret u =>
            obtain ⟨v6, σ6, H6, S6, r6, q6⟩ := hsp
            exact ⟨_, _, _, S6.unsuite ok, r6, q6⟩
        | false =>
          show wpAny _ X.A (handleBy (.ref a) X.env hds2) _ _ _
          exact ih (hno rfl)
      | @as x n i c ts b₀ suite np pos' hds2 l2 hN hi hln hc hsu r ih =>
        intro w
        obtain ⟨b, hb1, hyes, hno⟩ := w
        refine wpAny_handleBy_cons (codeAny_handlers_test ?_) (by intro q; cases q)
        have LT : PySem.W.Looks (model X.prog X.w) h3 (typeOf (.ref a)) cls := fun A Q E s k q => wpAny_typeOf_ref (k _ _ he3) (by rw [hz3.1]; exact q)
        have LM := PySem.W.exm_one (M := model X.prog X.w) (J3.kIn) LT hb1
        have test : ∀ {Q : Value → Shared → Prop} {E : Value → Shared → Prop}, Q c { s' with heap := h3 } → wpAny (model X.prog X.w) (X.A.mark (some (.ref a))) (eval (.Name x np) X.env) Q E { s' with heap := h3 } := fun {Q E} q => by
          obtain ⟨hg, hdbg, hm | ⟨hm, hv, hnn⟩⟩ := hc
          · exact ld_glob (X := X.suite a ((a, oe3) :: (X.pn ++ pins))) S3 hg hm q hdbg
          · exact ld_blt (X := X.suite a ((a, oe3) :: (X.pn ++ pins))) S3 hg hm hv q hnn hdbg
        refine test (LM.here ?_)
        cases b with
        | true =>
          refine codeAny_handlers_suite_as ?_
          refine HandSPX.lands_againZ fl3 fun h4 fl4 up4 => ?_
          have J4 : Inv X pins σ' H' { s' with heap := h4 } := J.landed nb fl4.1 ((up.trans up3).trans up4) os ag
          obtain ⟨oe4, vs4, he4, hz4, hd4⟩ := fl4.there
          have S4 := J4.suite he4 hd4 na nL nF
          refine store_ok (X := X.suite a ((a, oe4) :: (X.pn ++ pins))) (v := .ref a) S4 hN hi (show Loc X.env.scope n from .inl hln) rfl (fun s5 S5 => ?_) (.inr hln)
          refine wpAny_mono ((hsu a oe4 cls d (X.pn ++ pins) hz4 ⟨_, hd4⟩).run [] s5 _ H' _ S5 (hyes rfl a na)) (fun f s6 hsp => ?_) (fun _ _ z => False.elim z)
          have end_ : ∀ {σ6 : L2.St} {H6 : Hp} {Q : Shared → Prop}, Inv (X.suite a ((a, oe4) :: (X.pn ++ pins))) [] σ6 H6 s6 → (∀ s7, Inv X pins (σ6.set i none) H6 s7 → Q s7) →
              wpAny (model X.prog X.w) X.A (do bindName X.env n .none; unbindBehindTheSuite X.env n pos') (fun _ s7 => Q s7) X.xe s6 := fun {σ6 H6 Q} S6 hq => gone_ok (S6.unsuite ok) hN hi hln hq
          cases f with
          | next =>
            obtain ⟨σ6, H6, S6, q6⟩ := hsp
            exact end_ S6 fun s7 J7 => ⟨_, _, J7, q6⟩
          | brk =>
            obtain ⟨σ6, H6, S6, q6⟩ := hsp
            exact end_ S6 fun s7 J7 => ⟨_, _, J7, q6⟩
          | cont =>
            obtain ⟨σ6, H6, S6, q6⟩ := hsp
            exact end_ S6 fun s7 J7 => ⟨_, _, J7, q6⟩
          | ret u =>
            obtain ⟨v6, σ6, H6, S6, r6, q6⟩ := hsp
            exact end_ S6 fun s7 J7 => ⟨_, _, _, J7, r6, q6⟩
        | false =>
          show wpAny _ X.A (handleBy (.ref a) X.env hds2) _ _ _
          exact ih (hno rfl)
    exact go hh w
  · cases f with
    | next =>
      obtain ⟨σ', H', J', q⟩ := hsp
      exact wpAny_execs_nil ⟨σ', H', J'.ofTry ok, q⟩
    | brk =>
      obtain ⟨σ', H', J', q⟩ := hsp
      exact ⟨σ', H', J'.ofTry ok, q⟩
    | cont =>
      obtain ⟨σ', H', J', q⟩ := hsp
      exact ⟨σ', H', J'.ofTry ok, q⟩
    | ret u =>
      obtain ⟨v, σ', H', J', r, q⟩ := hsp
      exact ⟨v, σ', H', J'.ofTry ok, r, q⟩
end
end Mv
/-! What a suite asks of the exception that it holds: its fields, its kind. -/
namespace Mv
open PySem PySem.Spec PyProof.Rows L2
/-- e.f, e the exception at a (its class cls, its dict d) -/
def tXg (K : PySem.W.Frag) (a : Addr) (cls : Value) (d : Option Addr) (n : Str) (te : TE) : TE := fun σ H Q => te σ H fun x H1 => ∃ (C dd : Addr) (fs : List (Str × V)) (v : V), x = .ref a ∧ cls = .ref C ∧ XfC K C ∧ PySem.W.findIn K (.ref C) n = some none ∧ d = some dd ∧ H1 dd = some (.xd fs) ∧ fs.lookup n = some v ∧ Q v H1
section
variable {X : Cx} {a : Addr} {oe : Obj} {cls : Value} {d : Option Addr} {pn : List (Addr × Obj)} {e : Expr} {te : TE} {pos : Pos} {n : Str}
theorem pe_xg (hz : Zc cls d oe) (hf : ∃ vs, oe.data = .fields vs) (he : PE (X.suite a ((a, oe) :: pn)) e te) (hb : attributeBase e n X.env (eval e X.env) = eval e X.env := by rfl) :
    PE (X.suite a ((a, oe) :: pn)) (.Attribute e n pos) (tXg X.K a cls d n te) := by
  refine ⟨fun pins s σ H Q I h => ?_⟩
  refine attr_of hb (thn (he.run pins s σ H _ I h) fun u s1 hh => ?_)
  obtain ⟨x, H1, I1, rx, C, dd, fs, v, ex, ec, T, hno, ed, ea, l, q⟩ := hh
  subst ex
  obtain rfl : u = Value.ref a := rx
  subst ec
  subst ed
  obtain ⟨ha, _⟩ := I1.pin (a, oe) (List.mem_append_left _ List.mem_cons_self)
  obtain ⟨vs, hd⟩ := hf
  have hx : ObjOk X.prog X.w H1 s1.heap dd (.xd fs) := I1.hok dd _ ea
  obtain ⟨mA, hns, hr⟩ := hx
  obtain ⟨od, ho, hl⟩ := lookIn_ns hns
  obtain ⟨u, hu, ru⟩ := RelO.some_of (v := v) (o := mA n) (by rw [← l]; exact hr n)
  have J : PySem.W.InstAt s1.heap a oe C (some od) := ⟨ha, hz.1, by unfold PySem.W.notCls; rw [hd] <;> rfl, by rw [hz.2]; exact ho⟩
  exact HandSPX.exc_get I1.kIn J T.ga T.gg T.exC (PySem.W.findObj_own T.hdC hno rfl (by rw [hl, hu])) (handed_of ru) ⟨v, H1, I1.tok _, ru, q⟩
/-- isinstance(e, c), e the exception that the suite holds -/
def rIsX (K : PySem.W.Frag) (a : Addr) (cls : Value) (d : Option Addr) : List V → Hp → VK → Prop := fun xs H Q => ∃ (D dd : Addr) (fs : List (Str × V)) (c : V) (cv : Value) (b : Bool), xs = [.ref a, c] ∧ cls = .ref D ∧ d = some dd ∧ ExcC K D ∧ H dd = some (.xd fs) ∧ (∀ u, RelV c u → u = cv) ∧ PySem.W.kitOne K (.ref D) cv = some b ∧ Q (.bl b) H
theorem call_isX (hz : Zc cls d oe) (hf : ∃ vs, oe.data = .fields vs) : CallR (X.suite a ((a, oe) :: pn)) (.builtin "isinstance") (rIsX X.K a cls d) := by
  intro pins s σ H xs us Q I r h
  obtain ⟨D, dd, fs, c, cv, b, rfl, ec, ed, C, hD, hcv, e, q⟩ := h
  subst ec
  subst ed
  cases r with
  | cons rx rr =>
    cases rr with
    | cons rt rr =>
      cases rr
      cases rx
      have ec := hcv _ rt
      subst ec
      obtain ⟨hget, _⟩ := I.pin (a, oe) (List.mem_append.mpr (.inl List.mem_cons_self))
      obtain ⟨vs, hv⟩ := hf
      have hx : ObjOk X.prog X.w H s.heap dd (.xd fs) := I.hok dd _ hD
      obtain ⟨mA, hns, hr⟩ := hx
      obtain ⟨od, ho, hl⟩ := lookIn_ns hns
      have J : PySem.W.InstAt s.heap a oe D (some od) := ⟨hget, hz.1, by unfold PySem.W.notCls; rw [hv] <;> rfl, by rw [hz.2]; exact ho⟩
      have hcl : (PySem.W.clsIn X.K D).isSome = true := by
        have z := C.hd
        unfold PySem.W.hasDictIn at z
        cases q : PySem.W.clsIn X.K D with
        | none => rw [q] at z; cases z
        | some _ => rfl
      exact PySem.W.kia_one (PySem.W.kitx_exc (od := some od) hcl C.hg C.hk C.hs C.ha C.hn C.ht C.hm) I.kIn J e (fun z => nomatch z) fun tk => ⟨.bl b, H, I.kept (t' := tk) fun _ _ z => z, rfl, q⟩
end
end Mv
/-! Further rules over the hand layer: either of two walks, lists held against [], the texts of nested data. -/
namespace Mv
open PySem PySem.Spec PyProof.Rows L2
section
variable {X : Cx}
/-- either of two ways to walk one thing -/
theorem pi_either {tg it : Expr} {w1 w2 : TI} (a : PI X tg it w1) (b : PI X tg it w2) : PI X tg it (fun σ H R => w1 σ H R ∨ w2 σ H R) :=
  ⟨fun pins s σ H R I h => h.elim (a.run pins s σ H R I) (b.run pins s σ H R I)⟩
theorem pe_either {e : Expr} {t1 t2 : TE} (a : PE X e t1) (b : PE X e t2) : PE X e (fun σ H Q => t1 σ H Q ∨ t2 σ H Q) :=
  ⟨fun pins s σ H Q I h => h.elim (a.run pins s σ H Q I) (b.run pins s σ H Q I)⟩
/-- a list or a tuple, walked -/
def iSeq (K : PySem.W.Frag) (tl : TE) : TI := fun σ H R => iList K tl σ H R ∨ iTup K tl σ H R
theorem pi_seq {tg l : Expr} {tl : TE} (h : PE X l tl) : PI X tg l (iSeq X.K tl) := pi_either (pi_list h) (pi_tup h)

/-! ### a list against an empty one -/
def rNilEq (K : PySem.W.Frag) (neg : Bool) : R2 := fun x y H Q => ∃ (a b : Addr) (xs : List V), x = .ref a ∧ y = .ref b ∧ SqL K H a xs ∧ SqL K H b [] ∧ Q (.bl (if neg = true then !xs.isEmpty else xs.isEmpty)) H
theorem nil_raw {pins : List (Addr × Obj)} {σ : L2.St} {H : Hp} {s : Shared} {a : Addr} {xs : List V} (I : Inv X pins σ H s) (h : SqL X.K H a xs) :
    ∃ its : Array Value, s.heap.IsList a its ∧ its.size = xs.length := by
  obtain ⟨its, r, p, _⟩ := I.list h
  exact ⟨its.toArray, p.isList, by rw [List.size_toArray]; exact r.length.symm⟩
theorem op_eqNil (hu : X.A.units < cLine) : OpR X (compareOp .Eq) (rNilEq X.K false) := by
  intro pins s σ H x y v u Q I rx ry h
  obtain ⟨a, b, xs, rfl, rfl, ha, hb, q⟩ := h
  cases rx
  cases ry
  obtain ⟨i1, l1, z1⟩ := nil_raw I ha
  obtain ⟨i2, l2, z2⟩ := nil_raw I hb
  have z2 : i2.size = 0 := z2
  cases xs with
  | nil =>
    have z1 : i1.size = 0 := z1
    refine PySem.SeqAt.eq_listAt (e := fun _ => true) l1 l2 (z1.trans z2.symm) hu (fun j h1 _ => absurd h1 (by omega)) ⟨.bl _, H, I, rfl, ?_⟩
    have e : ((List.range i1.size).all fun _ => true) = true := by simp
    rw [e]
    exact q
  | cons x r =>
    have z1 : i1.size = r.length + 1 := z1
    exact PySem.SeqAt.eq_list_lengthsAt l1 l2 (by rw [bne_iff_ne]; omega) hu ⟨.bl _, H, I, rfl, q⟩
theorem op_neNil (hu : X.A.units < cLine) : OpR X (compareOp .NotEq) (rNilEq X.K true) := by
  intro pins s σ H x y v u Q I rx ry h
  obtain ⟨a, b, xs, rfl, rfl, ha, hb, q⟩ := h
  cases rx
  cases ry
  obtain ⟨i1, l1, z1⟩ := nil_raw I ha
  obtain ⟨i2, l2, z2⟩ := nil_raw I hb
  have z2 : i2.size = 0 := z2
  cases xs with
  | nil =>
    have z1 : i1.size = 0 := z1
    have e : ((List.range i1.size).all fun _ => true) = true := by simp
    refine PySem.SeqAt.RcNeAt.lists (e := fun _ => true) l1 l2 (z1.trans z2.symm) hu (fun j h1 _ => absurd h1 (by omega)) _ _ _ _ ⟨.bl _, H, I, rfl, ?_⟩
    rw [e]
    exact q
  | cons x r =>
    have z1 : i1.size = r.length + 1 := z1
    exact PySem.SeqAt.RcNeAt.lists_lengths l1 l2 (by rw [bne_iff_ne]; omega) hu _ _ _ _ ⟨.bl _, H, I, rfl, q⟩

/-! ### the text of nested data (nothing else is being written out) -/
def rRepr (K : PySem.W.Frag) : List V → Hp → VK → Prop := fun xs H Q => ∃ (a : Addr) (d : PyData), xs = [.ref a] ∧ Dp K H (.ref a) d ∧ d.showable = true ∧ d.hasDict = false ∧ d.depth ≤ 60 ∧ d.shown.length ≤ sizeLine ∧ Q (.str d.shown) H
theorem call_repr (hg : X.A.guards = some []) (hu : X.A.units + 64 < cLine) : CallR X (.builtin "repr") (rRepr X.K) := by
  intro pins s σ H xs us Q I r h
  obtain ⟨a, d, rfl, hd, hs, hn, hz, hl, q⟩ := h
  cases r with
  | cons ra rt =>
    cases rt
    cases ra
    obtain ⟨as, rd⟩ := Dp.reads I d _ _ hd rfl
    exact repr_of_reads' rd hs (fun z => by rw [hn] at z; cases z) hg (by omega) (fun b o e => e) (fun h' u tk k => ⟨.str d.shown, H, I.kept k, ⟨u, rfl⟩, q⟩) hl
end
end Mv
/-! enumerate of a tuple that stays. -/
namespace Mv
open PySem PySem.Spec PyProof.Rows L2
open AutoSeq1 (wpAny_loadPart')
/-- what enumerate(a tuple) makes: its own record behind the tuple's iterator -/
theorem enum_new_tup (l : Addr) (items : Array Value) :
    Meets (Builtin.«enumerate.__new__» ⟨[.type "enumerate", .ref l], []⟩) (fun _ R s => s.heap.IsTuple l items ∧
      R (.ok (.ret (.ref (s.heap.push { cls := .type "tuple_iterator", data := .fields #[.ref l, .int 0 0] }).objs.size)))
        { s with heap := (s.heap.push { cls := .type "tuple_iterator", data := .fields #[.ref l, .int 0 0] }).push { cls := .type "enumerate", data := .fields #[.none, .bool false, .ref s.heap.objs.size, rawInt 0, .none, .none] } }) :=
  .of_wp fun prog w A R s h => by
    obtain ⟨hp, g, d, tk, os⟩ := s
    obtain ⟨hl, h⟩ := h
    have hsub := sub_enumerate
    have q1 : ∀ {A' : Around} {E : Value → Shared → Prop} {Q : Value → Shared → Prop}, Q (.ref hp.objs.size) ⟨hp.push { cls := .type "tuple_iterator", data := .fields #[.ref l, .int 0 0] }, g, d, tk, os⟩ →
        wpAny (model prog w) A' (pyIter (.ref l)) Q E ⟨hp, g, d, tk, os⟩ := fun q => (begins_tuple l items).iter prog w _ _ ⟨hp, g, d, tk, os⟩ _ hl q
    wp_walk using q1
    refine wpAny_stack_any fun st => wpAny_pure ?_
    split
    · rename_i c _ _ _ _ _
      cases (c == Value.type "enumerate") <;> (wp_walk using q1; exact ⟨_, rfl, h⟩)
    · wp_walk using q1
      exact ⟨_, rfl, h⟩
theorem enum_call_tup {prog : Program} {w : World} {A : Around} {E : Value → Shared → Prop} {s : Shared} {l : Addr} {items : Array Value} {Q : Value → Shared → Prop} (hL : s.heap.IsTuple l items)
    (h : ∀ h', IsEnum h' (s.heap.objs.size + 1) s.heap.objs.size 0 .none → h'.IsTupleIter s.heap.objs.size l 0 → (∀ b o, s.heap.get? b = some o → h'.get? b = some o) → Q (.ref (s.heap.objs.size + 1)) { s with heap := h' }) :
    wpAny (model prog w) A (call (.type "enumerate") [.ref l]) Q E s := by
  refine callType_new F.called_enumerate (by decide) (F.typeCall_enumerate_1 _) (F.newCall_enumerate_1 _) (fun obj => F.args_object_init_2 obj _) F.entry_enumerate_new (enum_new_tup l items) ⟨hL, ?_⟩
  generalize ho1 : ({ cls := .type "tuple_iterator", data := .fields #[.ref l, .int 0 0] } : Obj) = o1
  generalize ho2 : ({ cls := .type "enumerate", data := .fields #[.none, .bool false, .ref s.heap.objs.size, rawInt 0, .none, .none] } : Obj) = o2
  have hz : (s.heap.push o1).objs.size = s.heap.objs.size + 1 := Heap.size_push ..
  show _ ∧ _
  rw [hz]
  have g2 : ((s.heap.push o1).push o2).get? (s.heap.objs.size + 1) = some o2 := by
    rw [← hz]
    exact Heap.get?_push_size _ (by rw [← ho2] <;> rfl)
  have g1 : ((s.heap.push o1).push o2).get? s.heap.objs.size = some o1 := Heap.get?_push_of_some _ (Heap.get?_push_size _ (by rw [← ho1] <;> rfl))
  have he : IsEnum ((s.heap.push o1).push o2) (s.heap.objs.size + 1) s.heap.objs.size 0 .none := by
    rw [← ho2] at g2 ⊢
    exact g2
  exact ⟨⟨_, he, rfl⟩, h _ he ⟨o1, g1, by rw [← ho1], by rw [← ho1] <;> rfl⟩ fun b o x => Heap.get?_push_of_some _ (Heap.get?_push_of_some _ x)⟩

/-- turn i gives out a new pair of i and the i-th item -/
def ItU (K : PySem.W.Frag) (a : Addr) : It where
  go i H := ∃ (xs : List V) (x : V), SqT K H a xs ∧ xs[i]? = some x
  yld i H v H' := ∃ (T : Addr) (x : V), v = .ref T ∧ H T = none ∧ H' = upd H T (.tup [.int (i : Nat), x]) ∧ ∀ xs, SqT K H a xs → xs[i]? = some x
  stop i H := ∃ xs : List V, SqT K H a xs ∧ xs.length = i
structure EnSt (a e it : Addr) (i : Nat) (h : Heap) : Prop where
  en : ∃ old, IsEnum h e it (i : Nat) old
  ti : h.IsTupleIter it a i
  n1 : e ≠ it
  n2 : a ≠ it
  n3 : a ≠ e
theorem turn_enumU {P : Program} {w : World} {K : PySem.W.Frag} {elts : List Expr} {kk : Nat} {tpos : Pos} (a e it : Addr) : Turn P w K (.Tuple elts kk tpos) (ItU K a) [e, it] e (EnSt a e it) where
  mem := List.mem_cons_self
  obj i h st b hb := by
    obtain ⟨old, he⟩ := st.en
    rcases List.mem_cons.mp hb with z | z
    · rw [z]
      exact ⟨_, he, fun v q => nomatch q⟩
    · rw [List.mem_singleton.mp z]
      obtain ⟨o, ho, _, hd⟩ := st.ti
      exact ⟨o, ho, fun v q => by rw [hd] at q; cases q⟩
  keep i h h' st k := by
    obtain ⟨old, he⟩ := st.en
    exact ⟨⟨old, k e List.mem_cons_self _ he⟩, st.ti.at fun o q => k it (by simp) o q, st.n1, st.n2, st.n3⟩
  item := by
    intro X hP hw hK hc i pins s σ H E I hf st hg
    subst hP hw hK
    obtain ⟨old, he⟩ := st.en
    obtain ⟨xs, x, hq, hx⟩ := hg
    obtain ⟨its, rv, p, hz⟩ := I.tuple hq
    obtain ⟨u, hu, ru⟩ := rv.get hx
    have p : s.heap.IsTuple a its.toArray := p
    have hin : i < its.toArray.size := by
      rw [List.size_toArray]
      exact (List.getElem?_eq_some_iff.mp hu).1
    have lt1 : e < s.heap.objs.size := Heap.lt_size he
    have lt2 : it < s.heap.objs.size := let ⟨_, q, _⟩ := st.ti; Heap.lt_size q
    have nfp : e ∉ [it, a] := by
      intro z
      rcases List.mem_cons.mp z with z | z
      · exact st.n1 z
      · exact st.n3 (List.mem_singleton.mp z).symm
    refine wpAny_pyNext_enum_itemC (Draws.tuple (prog := X.prog) (w := X.w) (A := X.A.in1) (show X.A.in1.handled = none from I.ok.hd hc) it a st.n2 its.toArray) he ⟨st.ti, p⟩ hin st.n1 nfp fun y h' tk hy ho hst hT hsz hk => ?_
    have ey : y = u := by
      have hy' : its[i]? = some y := by simpa using hy
      rw [hu] at hy'
      exact (Option.some.inj hy').symm
    subst ey
    refine ⟨_, rfl, wpAny_letOwnedTupleGo_enum (s := { s with heap := h', toks := tk + 1 }) ho fun h'' he' sb => ?_⟩
    have far : ∀ b o, b ∉ [e, it] → s.heap.get? b = some o → h''.get? b = some o := fun b o hb q =>
      (sb.2 b fun z => hb (by simp [z])).trans (hk b o (fun z => hb (by simp [z])) (fun z => hb (by simp [z])) q)
    have hT2 := (sb.2 _ (Nat.ne_of_gt lt1)).trans hT
    have I1 : Inv X pins σ (upd H s.heap.objs.size (.tup [.int (i : Nat), x])) { s with heap := h'', toks := tk + 1 } :=
      I.turnedNew far hf (Nat.le_refl _) ⟨by show 2 ≤ sizeLine; decide, [.int i tk, y], .cons ⟨tk, rfl⟩ (.cons ru .nil), ⟨_, hT2, rfl, _, rfl⟩⟩
    refine ⟨.ref s.heap.objs.size, _, I1, rfl, ⟨_, x, rfl, I.hok.fresh (Nat.le_refl _), rfl, fun ys hy => by rw [I.tuple_inj hy hq]; exact hx⟩, ⟨⟨y, ?_⟩, hst.1.at fun o q => (sb.2 it st.n1.symm).trans q, st.n1, st.n2, st.n3⟩, fun b hb => ?_⟩
    · have e1 : ((i + 1 : Nat) : Int) = (i : Int) + 1 := Int.natCast_succ i
      rw [e1]
      exact he'
    · have : b < s.heap.objs.size := by
        rcases List.mem_cons.mp hb with z | z
        · rw [z]; exact lt1
        · rw [List.mem_singleton.mp z]; exact lt2
      rw [upd_ne (Nat.ne_of_lt this)]
      exact (hf b hb).1
  done := by
    intro X hP hw hK hc i pins s σ H E I hf st hg
    subst hP hw hK
    obtain ⟨old, he⟩ := st.en
    obtain ⟨xs, hq, hx⟩ := hg
    obtain ⟨its, rv, p, hz⟩ := I.tuple hq
    obtain ⟨f0, f1, f2, f3, f4, f5⟩ := hf it (by simp)
    have hn : its.toArray.size = i := by rw [List.size_toArray, ← rv.length, hx]
    have hst : s.heap.IsTupleIter it a its.toArray.size ∧ s.heap.IsTuple a its.toArray := by
      rw [hn]
      exact ⟨st.ti, p⟩
    exact wpAny_pyNext_enum_endD (Draws.tuple (prog := X.prog) (w := X.w) (A := X.A.in1) (show X.A.in1.handled = none from I.ok.hd hc) it a st.n2 its.toArray) he hst fun h' eb => ⟨rfl, I.turned (t' := s.toks) (fun b o hb q => eb b o hb q) f0 f1 f3 f4 f5⟩
  self := fun A i s Q E st h => let ⟨_, he⟩ := st.en; wpAny_pyIter_enum he h
def iEnumU (K : PySem.W.Frag) (ta : TA) : TI := fun σ H R => ta σ H fun vs H1 => ∃ a xs, vs = [.ref a] ∧ SqT K H1 a xs ∧ R (ItU K a) H1
theorem pi_enumU {X : Cx} {e : Expr} {ta : TA} {p pos tpos : Pos} {elts : List Expr} {kk : Nat} (hg : Gl X "enumerate") (hm : X.mg "enumerate" = none) (ha : PA X [e] ta) (hs : starEach [e] X.env = [(false, eval e X.env)] := by rfl) :
    PI X (.Tuple elts kk tpos) (.Call (.Name "enumerate" p) [e] [] pos) (iEnumU X.K ta) where
  run pins s σ H R I h := by
    refine Call_ (ld_blt I hg hm boot_enumerate (PyProof.Rows.callWith_type1 (thn (ha.run pos pins s σ H _ I h) fun us s1 ⟨vs, H1, I1, r1, a, xs, ex, hq, q⟩ => ?_) hs rfl))
    subst ex
    cases r1 with
    | cons r rr =>
      cases rr
      cases r
      obtain ⟨its, rv, p', hz⟩ := I1.tuple hq
      have p' : s1.heap.IsTuple a its.toArray := p'
      have la : a < s1.heap.objs.size := let ⟨_, o, _⟩ := p'; Heap.lt_size o
      refine enum_call_tup p' fun h' he hit hk => wpAny_pyIter_enum he ?_
      have I2 : Inv X pins σ H1 { s1 with heap := h' } := I1.kept (t' := s1.toks) hk
      refine ⟨_, [s1.heap.objs.size + 1, s1.heap.objs.size], _, _, H1, rfl, I2, turn_enumU a (s1.heap.objs.size + 1) s1.heap.objs.size,
        ⟨⟨.none, he⟩, hit, Nat.succ_ne_self _, Nat.ne_of_lt la, Nat.ne_of_lt (Nat.lt_succ_of_lt la)⟩, fun b hb => ?_, q⟩
      have hle : s1.heap.objs.size ≤ b := by
        rcases List.mem_cons.mp hb with z | z
        · rw [z]; exact Nat.le_succ _
        · rw [List.mem_singleton.mp z]; exact Nat.le_refl _
      exact I1.fpOk hle (I1.hok.fresh hle)
theorem walk_enumU {K : PySem.W.Frag} {a : Addr} {xs : List V} : Walk (ItU K a) xs.length (fun H => SqT K H a xs) (YPair (fun i => some (.int (i : Nat))) (fun i => xs[i]?)) where
  goes i _ hi q := ⟨xs, xs[i], q, by simp [hi]⟩
  stops _ q := ⟨xs, q, rfl⟩
  yields i H v H' _ q y := let ⟨T, x, h1, h2, h3, h4⟩ := y; ⟨T, .int (i : Nat), x, h1, h2, h3, rfl, h4 xs q⟩
end Mv
/-! Comprehensions that fill a dict (any keys that the layer tracks) or a set of ints: one walk for both, the sink left open. -/
namespace Mv
open PySem PySem.Spec PyProof.Rows L2
/-- what an element does to the thing that is made, in a block: Nx is wanted of the heap behind it -/
abbrev TK := Addr → L2.St → Hp → (Hp → Prop) → Prop
/-- {.. for tg in iter if ..}: ob0 D the empty thing at D -/
def tCm (ob0 : Addr → HO) (wi : TI) (g : TG) (tt : TT) (tk : TK) (vs : List Nat) : TE := fun σ H Q => wi σ H fun J H1 => ∀ D, H1 D = none → ∃ W : Nat → Nat → Hp → Prop, (∃ m, W 0 m (upd H1 D (ob0 D))) ∧
  ∀ i m H, W i m H → (J.stop i H ∧ Q (.ref D) H) ∨ (J.go i H ∧ ∃ Nx : Hp → Prop, (∀ H', Nx H' → ∃ m', m' < m ∧ W (i + 1) m' H') ∧
    ∀ x H', J.yld i H x H' → g x (wipe σ vs) H' fun σ2 H2 => wipe σ2 vs = wipe σ vs ∧ tt σ2 H2 fun b H3 => if b = true then tk D σ2 H3 Nx else Nx H3)
abbrev Stp := Env → Addr → (Shared → Prop) → (Value → Shared → Prop) → Shared → Prop
/-- the model's own turn of such a comprehension c over one clause, its element's effect as stp -/
structure CmRun (P : Program) (w : World) (A : Around) (c tg : Expr) (ifs : List Expr) (stp : Stp) : Prop where
  loop : ∀ (R : Result → Shared → Prop) (s : Shared) (it : Value) (D : Addr) (env : Env) (In : Nat → Shared → Prop),
    (∀ n s, In n s → wpAny (model P w) A (pyNext it) (fun r s₁ => match r with
      | none => R (.ok .next) s₁
      | some v => wpAny (model P w) A (letOwnedTupleGo tg it v) (fun _ s₁' => wpAny (model P w) A (assign tg env v) (fun _ s₂ =>
          wpAny (model P w) A (forIn ifs true fun c r => if r = true then do let ok ← isTrue c env (eval c env); pure (ForInStep.yield ok) else pure (ForInStep.yield r)) (fun ok s₃ =>
            if ok = true then stp env D (fun s₆ => ∃ m, m < n ∧ In m s₆) (notedBy (model P w) A env fun e s' => R (.error e) s') s₃
            else ∃ m, m < n ∧ In m s₃) (notedBy (model P w) A env fun e s' => R (.error e) s') s₂) (notedBy (model P w) A env fun e s' => R (.error e) s') s₁') (notedBy (model P w) A env fun e s' => R (.error e) s') s₁) (notedBy (model P w) A env fun e s' => R (.error e) s') s) →
    ∀ n, In n s → codeAny (model P w) A (.compLoop c 0 it (.ref D) env) R s
  start : ∀ (R : Result → Shared → Prop) (s : Shared) (it acc : Value) (env : Env), codeAny (model P w) A (.compLoop c 0 it acc env) R s →
    wpAny (model P w) A (pyIter it) (fun it' s' => codeAny (model P w) A (.compLoop c 0 it' acc env) R s') (notedBy (model P w) A env fun x s' => R (.error x) s') s → codeAny (model P w) A (.compStart c 0 it acc env) R s
section
variable {X : Cx}
theorem cm_core {pins : List (Addr × Obj)} {s : Shared} {σ : L2.St} {H : Hp} {Q : VK} {c tg iter : Expr} {ifs : List Expr} {scope : Scope} {own : List (Str × Nat)} {pos' : Pos} {wi : TI} {g : TG} {tt : TT} {tk : TK}
    {ob0 : Addr → HO} {obj : Obj} {new : Sem Value} {stp : Stp} {Qf : Value → Shared → Prop} (hcl : clausesOf c = [⟨tg, iter, ifs, 0⟩])
    (hc : X.calm = true) (hN : X.N.Nodup) (I : Inv X pins σ H s) (hi : PI X tg iter wi) (ok : BlkOk X.N X.env.scope scope own)
    (hnew : ∀ (s : Shared) (Q : Value → Shared → Prop) (E : Value → Shared → Prop), Q (.ref s.heap.objs.size) { s with heap := s.heap.push obj } → wpAny (model X.prog X.w) X.A new Q E s) (hfr : obj.isFreed = false)
    (hob : ∀ (H : Hp) (h : Heap), sysModules < h.objs.size → ObjOk X.prog X.w H (h.push obj) h.objs.size (ob0 h.objs.size))
    (run : CmRun X.prog X.w X.A c tg ifs stp)
    (hg : ∀ (s : Shared) (H : Hp) (C : Addr) (cl : List (Str × Addr)) (fp : List Addr), PG (X.blk s H scope (compEnvC scope cl C X.env) fp) tg g)
    (ht : ∀ (s : Shared) (H : Hp) (C : Addr) (cl : List (Str × Addr)) (fp : List Addr), PTs (X.blk s H scope (compEnvC scope cl C X.env) fp) ifs tt)
    (hk : ∀ (s : Shared) (H : Hp) (C : Addr) (cl : List (Str × Addr)) (fp : List Addr) (pn : List (Addr × Obj)) (s2 : Shared) (σ2 : L2.St) (H2 : Hp) (D : Addr) (Nx : Hp → Prop) (Pq : Shared → Prop) (E : Value → Shared → Prop),
      Inv (X.blk s H scope (compEnvC scope cl C X.env) fp) pn σ2 H2 s2 → tk D σ2 H2 Nx → (∀ s' H', Inv (X.blk s H scope (compEnvC scope cl C X.env) fp) pn σ2 H' s' → Nx H' → Pq s') → stp (compEnvC scope cl C X.env) D Pq E s2)
    (hs : ∀ x, foldedSetIterable iter X.env x = pure x) (h : tCm ob0 wi g tt tk (own.map (·.2)) σ H Q)
    (back : ∀ D C s' m H', Inv X pins σ H' s' → Q (.ref D) H' → s'.heap.Ns C m → FpOk X pins H' C → compPost (model X.prog X.w) X.A X.xe none Qf (.ref D) C (.ok .next) s') :
    wpAny (model X.prog X.w) X.A (comprehension c scope X.env pos' new false (eval iter X.env) none) Qf X.xe s := by
  have hfree : ∀ y ∈ scope.names, y.2 = .free → ∃ a, X.env.cells.lookup y.1 = some a := fun y hy e => (ok.free y hy e).elim (fun k => I.ok.has _ (.inl k)) fun k => I.ok.has _ (.inr k)
  refine wpAny_comprehension_free (use := none) hcl hs (closure_ok hfree) ok.kind (fun y hy e => by rw [ok.uniq y hy, e]) (thn (hi.run pins s σ H _ I h) fun xv s1 hx => thn hx fun itv s2 h2 => ?_)
  obtain ⟨it, fp, tn, J, H2, rfl, I2, T, st2, f2, q⟩ := h2
  refine hnew s2 _ _ (newEnv_comp ?_)
  generalize hD : s2.heap.objs.size = D
  obtain ⟨W, ⟨m0, w0⟩, turn⟩ := q D (I2.hok.fresh (Nat.le_of_eq hD))
  generalize hs3 : ({ s2 with heap := s2.heap.push obj } : Shared) = s3
  have h3 : s3.heap = s2.heap.push obj := by rw [← hs3]
  have up : ∀ b o, s2.heap.get? b = some o → s3.heap.get? b = some o := fun b o e => by
    rw [h3]
    exact Heap.get?_push_of_some _ e
  have I3 : Inv X pins σ (upd H2 D (ob0 D)) s3 := by
    rw [← hs3]
    refine I2.laid (t' := s2.toks) (fun b o e => Heap.get?_push_of_some _ e) (Nat.le_of_eq hD) ?_
    rw [← hD]
    exact hob _ s2.heap I2.big
  have f3 : ∀ b ∈ fp, FpOk X pins (upd H2 D (ob0 D)) b ∧ b < s3.heap.objs.size := fun b hb => by
    obtain ⟨o, e, _⟩ := T.obj _ _ st2 b hb
    have lt : b < s2.heap.objs.size := Heap.lt_size e
    have ne : b ≠ D := hD ▸ Nat.ne_of_lt lt
    exact ⟨⟨(upd_ne ne).trans (f2 b hb).1, (f2 b hb).2⟩, by rw [h3, Heap.size_push]; exact Nat.lt_succ_of_lt lt⟩
  have st3 : tn 0 s3.heap := T.keep _ _ _ st2 fun b _ => up b
  have I4 := block_start I3 ok hN f3
  show codeAny _ _ (.compStart c 0 (.ref it) (.ref D) (compEnvC scope (cellsFrom (s3.heap.objs.size + 1) scope.names (cloFrom X.env.cells scope.names [])) s3.heap.objs.size X.env)) (compPost (model X.prog X.w) X.A X.xe none Qf (.ref D) s3.heap.objs.size)
    { s3 with heap := pushCells (s3.heap.push { cls := .type "dict", data := .dict #[] }) scope.names }
  generalize hcl : cellsFrom (s3.heap.objs.size + 1) scope.names (cloFrom X.env.cells scope.names []) = cells at I4 ⊢
  generalize hH3 : upd H2 D (ob0 D) = H3 at I3 I4 w0 f3
  have pg := hg s3 H3 s3.heap.objs.size cells fp
  have pt := ht s3 H3 s3.heap.objs.size cells fp
  have pk := hk s3 H3 s3.heap.objs.size cells fp
  generalize hce : compEnvC scope cells s3.heap.objs.size X.env = ce at I4 pg pt pk ⊢
  have cL : ce.locals = s3.heap.objs.size := by rw [← hce] <;> rfl
  generalize hs4 : ({ s3 with heap := pushCells (s3.heap.push { cls := .type "dict", data := .dict #[] }) scope.names } : Shared) = s4 at I4 ⊢
  have st4 : tn 0 s4.heap := T.keep _ _ _ st3 fun b _ o e => by
    rw [← hs4]
    exact pushCells_keeps _ _ _ _ (Heap.get?_push_of_some _ e)
  have stat : ∀ {σ' : L2.St} {H' : Hp} {s' : Shared}, Inv (X.blk s3 H3 scope ce fp) [] σ' H' s' → (∀ b ∈ fp, H' b = none) → ∀ b ∈ fp, FpOk (X.blk s3 H3 scope ce fp) [] H' b := fun I' hn b hb =>
    ⟨hn b hb, (I'.ok.exf b hb).1, I'.ok.exfs b hb, .inl hb, fun x a e => (I'.ok.exf b hb).2 x a e, fun p hp => nomatch (show p ∈ ([] : List (Addr × Obj)) from hp)⟩
  have loop : codeAny (model X.prog X.w) X.A (.compLoop c 0 (.ref it) (.ref D) ce) (compPost (model X.prog X.w) X.A X.xe none Qf (.ref D) s3.heap.objs.size) s4 := by
    refine run.loop _ s4 _ D ce (fun n s' => ∃ i H', Inv (X.blk s3 H3 scope ce fp) [] (wipe σ (own.map (·.2))) H' s' ∧ tn i s'.heap ∧ (∀ b ∈ fp, H' b = none) ∧ W i n H') ?_ m0 ⟨0, H3, I4, st4, fun b hb => (f3 b hb).1.1, w0⟩
    rintro n s5 ⟨i, H5, I5, st5, n5, w5⟩
    rcases turn i n H5 w5 with ⟨stop, qq⟩ | ⟨go, Nx, hNx, step⟩
    · refine thnF (T.done (X.blk s3 H3 scope ce fp) rfl rfl rfl hc i [] s5 _ H5 (fun _ _ => False) I5 (stat I5 n5) st5 stop) fun r s6 ⟨hr, I6⟩ => ?_
      subst hr
      have I7 : Inv X pins σ H5 s6 := I3.call' (ch := fp) I6.os I6.base I6.hok I6.bare fun b hb => let f := (f3 b hb).1; ⟨f.2.2.2.1, f.2.1, f.2.2.2.2.1, f.2.2.2.2.2⟩
      have nC : H5 ce.locals = none := I6.free
      obtain ⟨m, hn, _⟩ := I6.loc
      have hn : s6.heap.Ns ce.locals m := hn
      rw [cL] at nC hn
      exact back D _ s6 m H5 I7 qq hn (I3.fpOk (Nat.le_refl _) nC)
    · refine thnF (T.item (X.blk s3 H3 scope ce fp) rfl rfl rfl hc i [] s5 _ H5 (fun _ _ => False) I5 (stat I5 n5) st5 go) fun r s6 ⟨u, hr, h6⟩ => ?_
      subst hr
      refine thnF h6 fun _ s7 ⟨x, H7, I7, r7, y7, st7, n7⟩ => ?_
      refine thnF (pg.run _ s7 _ H7 x u _ (I7.pinned (stat I7 n7) (T.obj _ _ st7)) r7 (step x H7 y7)) fun _ s8 ⟨σ8, H8, I8, hw8, q8⟩ => ?_
      refine thnF (pt.run _ s8 σ8 H8 _ I8 q8) fun b s9 ⟨H9, I9, q9⟩ => ?_
      have fin : ∀ (s' : Shared) (H' : Hp), Inv (X.blk s3 H3 scope ce fp) ([] ++ pinsAt fp s7.heap) σ8 H' s' → Nx H' → ∃ m, m < n ∧ ∃ i H', Inv (X.blk s3 H3 scope ce fp) [] (wipe σ (own.map (·.2))) H' s' ∧ tn i s'.heap ∧ (∀ b ∈ fp, H' b = none) ∧ W i m H' := fun s' H' I' nx => by
        obtain ⟨m', hm, w'⟩ := hNx H' nx
        have pin : ∀ b ∈ fp, ∀ o, s7.heap.get? b = some o → s'.heap.get? b = some o ∧ H' b = none := fun b hb o e =>
          let z := I'.pin (b, o) (List.mem_append_right _ (List.mem_append_right _ (mem_pinsAt hb e))); ⟨z.1, z.2.1⟩
        refine ⟨m', hm, i + 1, H', (I'.unpinned (pins := [])).weak (by rw [← hw8, wipe_length]) (fun j v e => ?_), T.keep _ _ _ st7 fun b hb o e => (pin b hb o e).1, fun b hb => ?_, w'⟩
        · rw [← hw8] at e
          exact (wipe_some e).1
        · obtain ⟨o, e, _⟩ := T.obj _ _ st7 b hb
          exact (pin b hb o e).2
      cases b with
      | false => exact fin s9 H9 I9 q9
      | true => exact pk _ s9 σ8 H9 D Nx _ _ I9 q9 fin
  exact run.start _ _ _ _ _ loop (T.self X.A 0 _ _ _ st4 loop)
end
end Mv
namespace Mv
open PySem PySem.Spec PyProof.Rows L2
section
variable {X : Cx}
/-! ### a dict by a comprehension -/
theorem dictSet_put {pins : List (Addr × Obj)} {σ : L2.St} {H H' : Hp} {s : Shared} {E : Value → Shared → Prop} {D : Addr} {y v : V} {u r : Value} {Q : Unit → Shared → Prop} (hu : X.A.units < cLine) (I : Inv X pins σ H s) (g : DPut H D y v H') (ry : RelV y u) (rv : RelV v r)
    (h : ∀ s', Inv X pins σ H' s' → Q () s') : wpAny (model X.prog X.w) X.A (dictSet D u r) Q E s := by
  rcases g with ⟨kvs, k, e, rfl, l, rfl⟩ | ⟨kvs, k, b, e, rfl, eb, l, rfl⟩
  · exact d_dictSet I e l ry rv h
  · cases (show u = Value.ref b from ry)
    obtain ⟨z, hd, xs, rel, dd⟩ := dt_of I.hok e
    have hz : xs.length ≤ sizeLine := Paired.length rel ▸ z
    have hl : (putK kvs k v).length ≤ sizeLine := Nat.le_trans (length_putK kvs k v) l
    refine wpAny_dictSet_heap (hsz := hz) (knd := tupleKind (mixKind X.prog X.w)) hu (key_of I.hok eb) dd fun h' dd' hs => h _ ?_
    obtain ⟨q, es, ep, hq, h2, h3, h4, _, h5⟩ := dd'
    refine d_write I (by rw [e]; exact True.intro) hs ⟨q, hq⟩ ⟨hl, hd, _, (rel.put k eb rv).keeps fun c ys ec => ?_, q, es, ep, hq, h2, h3, h4, h5⟩
    exact (upd_ne (ne_of ec e (fun z => nomatch z))).trans ec
def kDict (tk tv : TE) : TK := fun D σ H Nx => tk σ H fun y H1 => tv σ H1 fun z H2 => ∃ H3, DPut H2 D y z H3 ∧ Nx H3
/-- {k: v for ..} whose keys are tuples -/
theorem pe_dcT {kx vx tg iter : Expr} {ifs : List Expr} {scope : Scope} {own : List (Str × Nat)} {pos : Pos} {wi : TI} {g : TG} {tt : TT} {tk tv : TE} (hu : X.A.units < cLine) (hc : X.calm = true) (hN : X.N.Nodup) (hi : PI X tg iter wi) (ok : BlkOk X.N X.env.scope scope own)
    (hg : ∀ (s : Shared) (H : Hp) (C : Addr) (cl : List (Str × Addr)) (fp : List Addr), PG (X.blk s H scope (compEnvC scope cl C X.env) fp) tg g)
    (ht : ∀ (s : Shared) (H : Hp) (C : Addr) (cl : List (Str × Addr)) (fp : List Addr), PTs (X.blk s H scope (compEnvC scope cl C X.env) fp) ifs tt)
    (hk : ∀ (s : Shared) (H : Hp) (C : Addr) (cl : List (Str × Addr)) (fp : List Addr), PE (X.blk s H scope (compEnvC scope cl C X.env) fp) kx tk)
    (he : ∀ (s : Shared) (H : Hp) (C : Addr) (cl : List (Str × Addr)) (fp : List Addr), PE (X.blk s H scope (compEnvC scope cl C X.env) fp) vx tv) (hs : ∀ x, foldedSetIterable iter X.env x = pure x := by intro _; rfl) :
    PE X (.DictComp kx vx [⟨tg, iter, ifs, 0⟩] scope pos) (tCm (fun _ => .dT []) wi g tt (kDict tk tv) (own.map (·.2))) where
  run pins s σ H Q I h := by
    rw [arm_eval_DictComp]
    refine cm_core (obj := { cls := .type "dict", data := .dict #[] }) (stp := fun env D Pq E s => wpAny (model X.prog X.w) X.A (eval kx env) (fun kv s₄ => wpAny (model X.prog X.w) X.A (eval vx env) (fun vv s₅ => wpAny (model X.prog X.w) X.A (dictSet D kv vv) (fun _ => Pq) E s₅) E s₄) E s)
      rfl hc hN I hi ok (fun s Q E q => wpAny_newObj_type q) rfl (fun H h hb => dt_empty h hb) ⟨fun R s it D env In turn n hn => compLoop_anyD In turn n hn, fun R s it acc env a b => codeAny_compStart_dict a b⟩ hg ht
      (fun s1 H1 C cl fp pn s2 σ2 H2 D Nx Pq E I2 q k => ?_) hs h fun D C s' m H' I' q hn f => ⟨m, hn, fun h'' sb => ?_⟩
    · refine thnF ((hk s1 H1 C cl fp).run _ s2 σ2 H2 _ I2 q |> fun z => wpAny_mono z (fun _ _ z => z) fun _ _ z => z) fun u s3 ⟨y, H3, I3, r3, q3⟩ => ?_
      refine thnF ((he s1 H1 C cl fp).run _ s3 σ2 H3 _ I3 q3) fun u2 s4 ⟨z, H4, I4, r4, H5, put, nx⟩ => ?_
      exact dictSet_put (X := X.blk s1 H1 scope (compEnvC scope cl C X.env) fp) hu I4 put r3 r4 fun s5 I5 => k s5 H5 I5 nx
    · obtain ⟨f0, f1, f2, f3, f4, f5⟩ := f
      exact ⟨.ref D, H', I'.turned (t' := s'.toks) (fun b o hb e => (sb.2 b hb).trans e) f0 f1 f3 f4 f5, rfl, q⟩

/-! ### a set of ints by a comprehension -/
def kSetI (w : World) (te : TE) : TK := fun D σ H Nx => te σ H fun y H1 => ∃ (k : Int) (S : Int → Bool) (n : Nat), y = .int k ∧ H1 D = some (SetO w D S n) ∧ n + 1 < scanBound ∧
  Nx (upd H1 D (SetO w D (fun j => S j || decide (j = k)) (if S k = true then n else n + 1)))
theorem pe_scI {elt tg iter : Expr} {ifs : List Expr} {scope : Scope} {own : List (Str × Nat)} {pos : Pos} {wi : TI} {g : TG} {tt : TT} {te : TE} (hc : X.calm = true) (hN : X.N.Nodup) (hi : PI X tg iter wi) (ok : BlkOk X.N X.env.scope scope own)
    (hg : ∀ (s : Shared) (H : Hp) (C : Addr) (cl : List (Str × Addr)) (fp : List Addr), PG (X.blk s H scope (compEnvC scope cl C X.env) fp) tg g)
    (ht : ∀ (s : Shared) (H : Hp) (C : Addr) (cl : List (Str × Addr)) (fp : List Addr), PTs (X.blk s H scope (compEnvC scope cl C X.env) fp) ifs tt)
    (he : ∀ (s : Shared) (H : Hp) (C : Addr) (cl : List (Str × Addr)) (fp : List Addr), PE (X.blk s H scope (compEnvC scope cl C X.env) fp) elt te) (hs : ∀ x, foldedSetIterable iter X.env x = pure x := by intro _; rfl) :
    PE X (.SetComp elt [⟨tg, iter, ifs, 0⟩] scope pos) (tCm (fun D => SetO X.w D (fun _ => false) 0) wi g tt (kSetI X.w te) (own.map (·.2))) where
  run pins s σ H Q I h := by
    rw [PpSet.eval_SetComp]
    refine cm_core (obj := { cls := .type "set", dict := none, data := .set #[] 0 (.fresh 0 0 (!X.w.params.followText "set-order")) }) (stp := fun env D Pq E s => wpAny (model X.prog X.w) X.A (eval elt env) (fun v s₄ => wpAny (model X.prog X.w) X.A (call (.builtin "set.add") [.ref D, v]) (fun _ => Pq) E s₄) E s)
      rfl hc hN I hi ok (fun s Q E q => PpSet.newSet_ok q) rfl (fun H h _ => setO_new (setR_fresh X.w)) ⟨fun R s it D env In turn n hn => PpSet.compLoopS_any In turn n hn, fun R s it acc env a b => PpSet.codeAny_compStart_set a b⟩ hg ht
      (fun s1 H1 C cl fp pn s2 σ2 H2 D Nx Pq E I2 q k => ?_) hs h fun D C s' m H' I' q hn f => ⟨m, hn, fun h'' sb => ?_⟩
    · refine thnF ((he s1 H1 C cl fp).run _ s2 σ2 H2 _ I2 q) fun u s3 ⟨y, H3, I3, r3, j, S, n, ey, hD, room, nx⟩ => ?_
      subst ey
      obtain ⟨tk, rfl⟩ := r3
      refine setR_add (setO_get (X := X.blk s1 H1 scope (compEnvC scope cl C X.env) fp) I3 hD) room fun h' sb new => k _ _ (I3.write (e := D) (t' := s3.toks + 1) (by rw [hD]; trivial) (.inl rfl) (fun b u hb hu => (sb.2 b hb).trans hu) ?_ (setO_new new)) nx
      obtain ⟨o, _, _, _, ho, _⟩ := new
      exact ⟨o, ho⟩
    · obtain ⟨f0, f1, f2, f3, f4, f5⟩ := f
      exact ⟨.ref D, H', I'.turned (t' := s'.toks) (fun b o hb e => (sb.2 b hb).trans e) f0 f1 f3 f4 f5, rfl, q⟩

/-! ### how many a set holds -/
def rLenSetI (w : World) : List V → Hp → VK → Prop := fun xs H Q => ∃ (a : Addr) (S : Int → Bool) (n : Nat), xs = [.ref a] ∧ H a = some (SetO w a S n) ∧ Q (.int n) H
theorem call_lenSetI : CallR X (.builtin "len") (rLenSetI X.w) := by
  intro pins s σ H xs us Q I r h
  obtain ⟨a, S, n, rfl, ha, q⟩ := h
  rw [Vals.ref1 r]
  obtain ⟨o, es, ep, t, ho, hex, hd, _, _, _, hz, hf, hn, _⟩ := setO_get I ha
  have hb : es.size < 2 ^ 63 := Nat.lt_trans hz (by decide)
  refine call_len_set ho hex hd hf (by omega) ⟨.int n, H, I.tok _, ⟨_, by rw [hn]⟩, q⟩
def rLenSetT (P : Program) (w : World) : List V → Hp → VK → Prop := fun xs H Q => ∃ (a : Addr) (L : List (Addr × List Int)), xs = [.ref a] ∧ H a = some (SetTO P w a L) ∧ (∀ p ∈ L, H p.1 = some (.tup (p.2.map V.int))) ∧ ((L.map (·.2)).Nodup → Q (.int L.length) H)
theorem call_lenSetT : CallR X (.builtin "len") (rLenSetT X.prog X.w) := by
  intro pins s σ H xs us Q I r h
  obtain ⟨a, L, rfl, ha, ht, q⟩ := h
  rw [Vals.ref1 r]
  obtain ⟨es, ep, t, R⟩ := SetT0.full (I.hok a _ ha).1 fun p hp => I.isT (SqT.of (ht p hp))
  obtain ⟨o, ho, hex, hd⟩ := R.ob
  have hn := R.size
  have hf := R.few
  refine call_len_set ho hex hd R.fits (by omega) ⟨.int L.length, H, I.tok _, ⟨_, by rw [hn]⟩, q R.nd⟩
end
end Mv
namespace Mv
open PySem PySem.Spec PyProof.Rows L2
/-! ### the greatest of a walk's ints, or what is handed in for none -/
def mxOf (f : Nat → Int) : Nat → Option Int
  | 0 => none
  | n + 1 => some (match mxOf f n with | none => f n | some m => if f n > m then f n else m)
theorem mxOf_spec (f : Nat → Int) : ∀ n, (n = 0 ∧ mxOf f n = none) ∨ ∃ m, mxOf f n = some m ∧ (∃ i, i < n ∧ f i = m) ∧ ∀ i, i < n → f i ≤ m
  | 0 => .inl ⟨rfl, rfl⟩
  | n + 1 => by
    right
    rcases mxOf_spec f n with ⟨rfl, e⟩ | ⟨m, e, ⟨i, hi, hm⟩, hb⟩
    · refine ⟨f 0, by simp [mxOf], ⟨0, by omega, rfl⟩, fun i hi => ?_⟩
      obtain rfl : i = 0 := by omega
      exact Int.le_refl _
    · by_cases c : f n > m
      · refine ⟨f n, by simp [mxOf, e, c], ⟨n, by omega, rfl⟩, fun j hj => ?_⟩
        rcases Nat.lt_or_ge j n with h | h
        · have := hb j h; omega
        · obtain rfl : j = n := by omega
          exact Int.le_refl _
      · refine ⟨m, by simp [mxOf, e, c], ⟨i, by omega, hm⟩, fun j hj => ?_⟩
        rcases Nat.lt_or_ge j n with h | h
        · exact hb j h
        · obtain rfl : j = n := by omega
          omega
/-- what the loop's state list holds -/
def MxSt (h : Heap) (S : Addr) (o : Option Int) : Prop := ∃ c, (o = none ∧ h.get? S = some { cls := .type "list", dict := none, data := .seq #[] c, slots := #[] }) ∨
  ∃ m t, o = some m ∧ h.get? S = some { cls := .type "list", dict := none, data := .seq #[.int m t, .int m t] c, slots := #[] }
section
variable {prog : Program} {w : World} {A : Around} {R : Result → Shared → Prop} {I : Addr} {fp wr : List Addr} {n : Nat} {P : Nat → Value → Prop} {St : Nat → Heap → Prop}
theorem int_gt {i j : Int} {t u : Tok} {s : Shared} {Q E : Value → Shared → Prop} (h : Q (.bool (decide (i > j))) s) : wpAny (model prog w) A (richCompare .Gt (.int i t) (.int j u)) Q E s :=
  CmpOf.ints_gt (prog := prog) (w := w) (A := A) (P := fun k v => (k = 0 ∧ v = .int i t) ∨ (k = 1 ∧ v = .int j u)) (fun k => if k = 0 then i else j)
    (fun k v hv => by rcases hv with ⟨rfl, rfl⟩ | ⟨rfl, rfl⟩ <;> exact ⟨_, rfl⟩) 0 1 _ _ s Q E (.inl ⟨rfl, rfl⟩) (.inr ⟨rfl, rfl⟩) (by simpa using h)
theorem max_loop (W : Walks prog w A.in1 I fp wr n P St) (f : Nat → Int) (hv : ∀ i v, P i v → ∃ t, v = .int (f i) t) (kw : List (Str × Value)) (hkw : ∃ nm d, kw = [(nm, d)]) (S : Addr) (hSf : S ∉ fp) :
    ∀ (k i : Nat) (s : Shared), n - i = k → i ≤ n → St i s.heap → MxSt s.heap S (mxOf f i) →
    (∀ v h' tk, (match mxOf f n with | none => ∃ nm, kw = [(nm, v)] | some m => ∃ t, v = .int m t) → (∀ b o, b ∉ wr → b ≠ S → s.heap.get? b = some o → h'.get? b = some o) → R (.ok (.ret v)) { s with heap := h', toks := tk }) →
    codeAny (model prog w) A (.builtin "max.loop" ⟨[.ref I, .none, .ref S], kw⟩) R s := by
  have hSw : S ∉ wr := fun h => hSf (W.sub _ h)
  obtain ⟨nm, dflt, rfl⟩ := hkw
  have hname : (toString "max" ++ toString ".loop" : String) = "max.loop" := by decide
  intro k
  induction k with
  | zero =>
    intro i s hk hi hst hS hR
    obtain rfl : i = n := by omega
    refine codeAny_builtin PySem.F.entry_max_loop ?_
    rw [Around.under_plainId PySem.F.plain_max_loop _]
    obtain ⟨c, ⟨em, hS⟩ | ⟨m, t, em, hS⟩⟩ := hS
    · show wpAny _ A.in1 (seqItems? (.ref S) >>= _) _ _ s
      refine wpAny_bind (wpAny_seqItems hS rfl ?_)
      show wpAny _ A.in1 (tryCatch (pyNext (.ref I)) _ >>= _) _ _ s
      refine wpAny_bind (wpAny_tryCatch (W.done s _ _ hst fun h' tk hk' => ?_))
      show wpAny _ A.in1 (rule _ >>= _) _ _ _
      refine wpAny_bind (wpAny_rule (wpAny_pure (hR dflt h' tk ?_ fun b o hbw _ e => hk' b o hbw e)))
      rw [em]
      exact ⟨nm, rfl⟩
    · show wpAny _ A.in1 (seqItems? (.ref S) >>= _) _ _ s
      refine wpAny_bind (wpAny_seqItems hS rfl ?_)
      show wpAny _ A.in1 (tryCatch (pyNext (.ref I)) _ >>= _) _ _ s
      refine wpAny_bind (wpAny_tryCatch (W.done s _ _ hst fun h' tk hk' => ?_))
      have hS' := hk' S _ hSw hS
      show wpAny _ A.in1 (updateSeq S (fun _ => #[]) >>= _) _ _ _
      refine wpAny_bind (wpAny_updateSeq hS' rfl (wpAny_bind (wpAny_letGo (wpAny_pure (hR _ _ tk ?_ fun b o hbw hbS e => ?_)))))
      · rw [em]
        exact ⟨t, rfl⟩
      · exact (Heap.get?_update_other _ _ (Ne.symm hbS)).trans (hk' b o hbw e)
  | succ k ih =>
    intro i s hk hi hst hS hR
    have hlt : i < n := by omega
    refine codeAny_builtin PySem.F.entry_max_loop ?_
    rw [Around.under_plainId PySem.F.plain_max_loop _]
    obtain ⟨c, ⟨em, hS⟩ | ⟨m, t, em, hS⟩⟩ := hS
    · show wpAny _ A.in1 (seqItems? (.ref S) >>= _) _ _ s
      refine wpAny_bind (wpAny_seqItems hS rfl ?_)
      show wpAny _ A.in1 (tryCatch (pyNext (.ref I)) _ >>= _) _ _ s
      refine wpAny_bind (wpAny_tryCatch (W.item i s _ _ hlt hst fun v h' tk hP hst' hk' => ?_))
      have hS' := hk' S _ hSw hS
      obtain ⟨tv, rfl⟩ := hv i v hP
      show wpAny _ A.in1 (updateSeq S (fun _ => #[_, _]) >>= _) _ _ _
      refine wpAny_bind (wpAny_updateSeq hS' rfl ?_)
      rw [hname]
      refine wpAny_pure ⟨plainId_quiet PySem.F.plain_max_loop _, ih (i + 1) _ (by omega) hlt (W.frame _ _ _ hst' fun b hbf o e => ?_) ⟨_, .inr ⟨f i, tv, by simp [mxOf, em], Heap.get?_update_self _ hS' rfl⟩⟩ fun v' h'' tk'' hv' hk'' => ?_⟩
      · exact (Heap.get?_update_other _ _ (fun h : S = b => hSf (by rw [h]; exact hbf))).trans e
      · exact hR v' h'' tk'' hv' fun b o hbw hbS e => hk'' b o hbw hbS ((Heap.get?_update_other _ _ (Ne.symm hbS)).trans (hk' b o hbw e))
    · show wpAny _ A.in1 (seqItems? (.ref S) >>= _) _ _ s
      refine wpAny_bind (wpAny_seqItems hS rfl ?_)
      show wpAny _ A.in1 (tryCatch (pyNext (.ref I)) _ >>= _) _ _ s
      refine wpAny_bind (wpAny_tryCatch (W.item i s _ _ hlt hst fun v h' tk hP hst' hk' => ?_))
      have hS' := hk' S _ hSw hS
      obtain ⟨tv, rfl⟩ := hv i v hP
      show wpAny _ A.in1 (tryCatch (holding [_, _] (richCompare .Gt _ _ >>= _)) _ >>= _) _ _ _
      refine wpAny_bind (wpAny_tryCatch (wpAny_holding (wpAny_bind (int_gt ?_))))
      refine wpAny_bind (wpAny_holding (wpAny_truthy_bool ?_))
      refine wpAny_bind (wpAny_letGo (wpAny_pure ?_))
      by_cases hb : f i > m
      · rw [decide_eq_true hb]
        simp only [if_true]
        refine wpAny_bind (wpAny_updateSeq hS' rfl (wpAny_bind (wpAny_letGo ?_)))
        rw [hname]
        refine wpAny_pure ⟨plainId_quiet PySem.F.plain_max_loop _, ih (i + 1) _ (by omega) hlt (W.frame _ _ _ hst' fun b hbf o e => ?_) ⟨_, .inr ⟨f i, tv, by simp [mxOf, em, hb], Heap.get?_update_self _ hS' rfl⟩⟩ fun v' h'' tk'' hv' hk'' => ?_⟩
        · exact (Heap.get?_update_other _ _ (fun h : S = b => hSf (by rw [h]; exact hbf))).trans e
        · exact hR v' h'' tk'' hv' fun b o hbw hbS e => hk'' b o hbw hbS ((Heap.get?_update_other _ _ (Ne.symm hbS)).trans (hk' b o hbw e))
      · rw [decide_eq_false hb]
        simp only [Bool.false_eq_true, if_false]
        refine wpAny_bind (wpAny_letGo ?_)
        rw [hname]
        refine wpAny_pure ⟨plainId_quiet PySem.F.plain_max_loop _, ih (i + 1) _ (by omega) hlt hst' ⟨_, .inr ⟨m, t, by simp [mxOf, em, hb], hS'⟩⟩ fun v' h'' tk'' hv' hk'' => ?_⟩
        exact hR v' h'' tk'' hv' fun b o hbw hbS e => hk'' b o hbw hbS (hk' b o hbw e)
end
section
variable {prog : Program} {w : World} {A : Around} {E : Value → Shared → Prop} {s : Shared}
theorem args_max_dflt (a v : Value) : argsOk "max" ⟨[a], [(Str.ofString "default", v)]⟩ := by unfold argsOk; kernel_rfl
theorem call_max_dflt {x dv : Value} {Q : Value → Shared → Prop}
    (h : wpAny (model prog w) A.in1 (pyIter x) (fun it s₂ => ∃ I fp wr n P St f, it = .ref I ∧ Walks prog w A.in1 I fp wr n P St ∧ St 0 s₂.heap ∧ (∀ b ∈ fp, b < s₂.heap.objs.size) ∧ (∀ i v, P i v → ∃ t, v = .int (f i) t) ∧
      ∀ v h' tk, (match mxOf f n with | none => v = dv | some m => ∃ t, v = .int m t) → (∀ b o, b ∉ wr → s₂.heap.get? b = some o → h'.get? b = some o) → Q v { s₂ with heap := h', toks := tk }) E s) :
    wpAny (model prog w) A (call (.builtin "max") [x] [(Str.ofString "default", dv)]) Q E s := by
  have hname : (toString "max" ++ toString ".loop" : String) = "max.loop" := by decide
  refine PyProof.Rows.kmk_tree PySem.F.kind_max PySem.F.plain_max PySem.F.entry_max (args_max_dflt _ _) ?_
  show wpAny _ A.in1 (Builtin.Builtins.bindParams "max" ["key", "default"] 0 ⟨[], [(Str.ofString "default", dv)]⟩ >>= _) _ _ s
  refine wpAny_bind (wpAny_of_eq (show Builtin.Builtins.bindParams "max" ["key", "default"] 0 ⟨[], [(Str.ofString "default", dv)]⟩ = pure [none, some dv] from rfl) ?_)
  refine wpAny_bind (wpAny_pure ?_)
  refine wpAny_bind (wpAny_mono h (fun it s₂ h₂ => ?_) fun _ _ e => e)
  obtain ⟨I, fp, wr, n, P, St, f, rfl, W, hst, hfp, hv, hQ⟩ := h₂
  refine wpAny_bind (wpAny_newObj_type ?_)
  have hSf : s₂.heap.objs.size ∉ fp := fun hm => Nat.lt_irrefl _ (hfp _ hm)
  rw [hname]
  refine wpAny_pure ⟨plainId_quiet PySem.F.plain_max_loop _, max_loop W f hv _ ⟨_, dv, rfl⟩ s₂.heap.objs.size hSf n 0 _ (Nat.sub_zero _) (Nat.zero_le _) (W.frame _ _ _ hst fun b _ o e => Heap.get?_push_of_some _ e) ⟨_, .inl ⟨rfl, Heap.get?_push_size _ rfl⟩⟩ fun v h' tk hP hk => ?_⟩
  refine hQ v h' tk ?_ fun b o hbw e => hk b o hbw (Nat.ne_of_lt (Heap.lt_size e)) (Heap.get?_push_of_some _ e)
  cases em : mxOf f n with
  | none =>
    rw [em] at hP
    obtain ⟨nm, e⟩ := hP
    simp only [Option.toList, List.map_cons, List.map_nil, List.cons.injEq, Prod.mk.injEq, and_true] at e
    exact e.2.symm
  | some m =>
    rw [em] at hP
    exact hP
end

/-! ### d.values() of a dict with tuple keys; its greatest -/
def valuesO (p d : Addr) : HO := .ext fun h => h.IsValuesView p d
theorem valuesO_ok {P : Program} {w : World} {H : Hp} {h : Heap} {p d : Addr} (e : h.get? p = some { cls := .type "dict_values", data := .fields #[.ref d] }) : ObjOk P w H h p (valuesO p d) :=
  ⟨⟨_, e, rfl, rfl⟩, ⟨_, e⟩, fun h1 h2 x k => let ⟨o, ho, r⟩ := x; ⟨o, k o ho, r⟩⟩
section
variable {X : Cx}
theorem raw_of {pins : List (Addr × Obj)} {σ : L2.St} {H : Hp} {s : Shared} {a : Addr} {kvs : List (List Key × V)} (I : Inv X pins σ H s) (ha : H a = some (.dT kvs)) :
    (a == sysModules) = false ∧ ∃ (es : Array DictEntry) (ep : Nat), s.heap.DictRaw a es ep ∧ es.size = kvs.length ∧ ∀ (i : Nat) (hi : i < es.size), ∃ k v, kvs[i]? = some (k, v) ∧ RelV v es[i].val := by
  obtain ⟨z, hd, xs, rel, o, es, ep, ho, hx, hdat, hes, _, _⟩ := dt_of I.hok ha
  have hl : es.size = xs.length := by
    have q := congrArg List.length hes
    rw [Array.length_toList, List.length_map] at q
    exact q
  have hl2 : kvs.length = xs.length := Paired.length rel
  refine ⟨hd, es, ep, ⟨o, ho, hx, hdat⟩, hl.trans hl2.symm, fun i hi => ?_⟩
  have get : ∀ {kvs : List (List Key × V)} {xs : List (List Key × Addr × Value)} (_ : KT H kvs xs) (i : Nat) (y : List Key × Addr × Value), xs[i]? = some y → ∃ v, kvs[i]? = some (y.1, v) ∧ RelV v y.2.2 := by
    intro kvs xs r
    induction r with
    | nil => intro i y e; simp at e
    | cons hh t ih =>
      intro i y e
      cases i with
      | zero =>
        cases (Option.some.inj (show some _ = some y from e))
        exact ⟨_, congrArg some (Prod.ext hh.1 rfl), hh.2.2⟩
      | succ i => exact ih i y e
  have hx' : i < xs.length := hl ▸ hi
  obtain ⟨v, e1, e2⟩ := get rel i xs[i] (List.getElem?_eq_getElem hx')
  have ev : es[i].val = (xs[i]).2.2 := by
    have q : es.toList[i]? = (xs.map (entryOfKey (tupleKind (mixKind X.prog X.w))))[i]? := by rw [hes]
    rw [Array.getElem?_toList, List.getElem?_map, List.getElem?_eq_getElem hx', Array.getElem?_eq_getElem hi] at q
    have q := Option.some.inj q
    rw [q] <;> rfl
  exact ⟨_, v, e1, by rw [ev]; exact e2⟩
def rValuesT : V → List V → Hp → VK → Prop := fun x xs H Q => ∃ (a : Addr) (kvs : List (List Key × V)), x = .ref a ∧ xs = [] ∧ H a = some (.dT kvs) ∧ ∀ p, H p = none → Q (.ref p) (upd H p (valuesO p a))
theorem mt_valuesT : MtR X "dict.values" rValuesT := by
  intro pins s σ H x xs v us Q I rx rxs h
  obtain ⟨a, kvs, rfl, rfl, ha, q⟩ := h
  cases rx
  cases rxs
  obtain ⟨hd, es, ep, hr, _⟩ := raw_of I ha
  refine call_meetsIn F.slot_dict_values hr.typeIs F.entry_dict_values (F.args_dict_values_1 _) (meets_dict_values_raw a hd) ⟨⟨es, ep, hr⟩, ?_⟩
  exact ⟨.ref s.heap.objs.size, upd H s.heap.objs.size (valuesO s.heap.objs.size a), I.laid (t' := s.toks) (fun b u e => Heap.get?_push_of_some _ e) (Nat.le_refl _) (valuesO_ok (Heap.get?_push_size _ rfl)), rfl, q _ (I.hok.fresh (Nat.le_refl _))⟩
/-- what a view's walk asks and gives -/
theorem view_walk {pins : List (Addr × Obj)} {σ : L2.St} {H : Hp} {s : Shared} {p a : Addr} {kvs : List (List Key × V)} {is : List Int} {A : Around} {E : Value → Shared → Prop} (hh : A.handled = none) (I : Inv X pins σ H s) (hp : H p = some (valuesO p a)) (ha : H a = some (.dT kvs))
    (hi : kvs.map (·.2) = is.map V.int) {Q : Value → Shared → Prop}
    (h : ∀ I fp wr P St s₂ n, n = is.length → Walks X.prog X.w A I fp wr n P St → St 0 s₂.heap → (∀ b ∈ fp, b < s₂.heap.objs.size) → (∀ i v, P i v → ∃ t, v = .int (is.getD i 0) t) → (∀ b o, s.heap.get? b = some o → s₂.heap.get? b = some o ∧ b ∉ wr) →
      (∃ h₂, s₂ = { s with heap := h₂ }) → Q (.ref I) s₂) : wpAny (model X.prog X.w) A (pyIter (.ref p)) Q E s := by
  obtain ⟨hd, es, ep, hr, hz, hv⟩ := raw_of I ha
  have hpv : s.heap.IsValuesView p a := (I.hok p _ hp).1
  have hlt : a < s.heap.objs.size := let ⟨_, o, _⟩ := hr; Heap.lt_size o
  have hlen : kvs.length = is.length := by
    have q := congrArg List.length hi
    rwa [List.length_map, List.length_map] at q
  refine wpAny_pyIter_values_raw hpv hr ?_
  generalize ho : ({ cls := .type "dict_valueiterator", data := .fields #[.ref a, .int 0 0, .int es.size 0, .int ep 0] } : Obj) = o1
  have W := Walks.rawValues (prog := X.prog) (w := X.w) hh s.heap.objs.size a (Nat.ne_of_lt hlt) es ep
  have g1 : (s.heap.push o1).get? s.heap.objs.size = some o1 := Heap.get?_push_size _ (by rw [← ho] <;> rfl)
  refine h s.heap.objs.size [s.heap.objs.size, a] [s.heap.objs.size] _ _ _ _ (hz.trans hlen) W ⟨?_, hr.at fun o e => Heap.get?_push_of_some _ e⟩ (fun b hb => ?_) (fun i v hP => ?_) (fun b o e => ⟨Heap.get?_push_of_some _ e, fun z => ?_⟩) ⟨_, rfl⟩
  · exact ⟨o1, g1, by rw [← ho] <;> rfl, by rw [← ho] <;> rfl⟩
  · show b < (s.heap.push o1).objs.size
    rw [Heap.size_push]
    rcases List.mem_cons.mp hb with z | z
    · rw [z]; exact Nat.lt_succ_self _
    · rw [List.mem_singleton.mp z]; exact Nat.lt_succ_of_lt hlt
  · obtain ⟨hi', rfl⟩ := hP
    obtain ⟨k, v, e1, e2⟩ := hv i hi'
    have e3 : (kvs.map (·.2))[i]? = some v := by rw [List.getElem?_map, e1] <;> rfl
    rw [hi, List.getElem?_map] at e3
    obtain ⟨j, hj, e4⟩ := Option.map_eq_some_iff.mp e3
    subst e4
    obtain ⟨t, e5⟩ := e2
    exact ⟨t, by rw [e5, List.getD_eq_getElem?_getD, hj] <;> rfl⟩
  · exact absurd (Heap.lt_size e) (by rw [List.mem_singleton.mp z]; exact Nat.lt_irrefl _)
def IsMax (is : List Int) (m : Int) : Prop := m ∈ is ∧ ∀ j ∈ is, j ≤ m
def rMaxV : List V → Hp → VK → Prop := fun vs H Q => ∃ (p a : Addr) (kvs : List (List Key × V)) (is : List Int), vs = [.ref p] ∧ H p = some (valuesO p a) ∧ H a = some (.dT kvs) ∧ kvs.map (·.2) = is.map V.int ∧ is ≠ [] ∧ ∀ m, IsMax is m → Q (.int m) H
theorem cr_maxV (hc : X.calm = true) : CallR X (.builtin "max") rMaxV := by
  intro pins s σ H vs us Q I r h
  obtain ⟨p, a, kvs, is, rfl, hp, ha, hi, hne, q⟩ := h
  rw [Vals.ref1 r]
  refine call_max_walk (view_walk (A := X.A.in1) (show X.A.in1.handled = none from I.ok.hd hc) I hp ha hi fun It fp wr P St s₂ n en W st hfp hv k es2 => ?_)
  have hl : 0 < is.length := List.length_pos_iff.mpr hne
  subst en
  refine ⟨It, fp, wr, is.length, P, St, _, rfl, W, st, hfp, hl, CmpOf.ints_gt (fun i => is.getD i 0) hv, fun v h' tk hP hk => ?_⟩
  obtain ⟨t, rfl⟩ := hv _ v hP
  obtain ⟨h₂, rfl⟩ := es2
  obtain ⟨b1, b2⟩ := argBest_gt (fun i => is.getD i 0) (is.length - 1)
  have hb : argBest (fun i j => decide (is.getD i 0 > is.getD j 0)) (is.length - 1) < is.length := by omega
  refine ⟨.int _, H, I.kept (t' := tk) fun b u e => hk b u (k b u e).2 (k b u e).1, ⟨t, rfl⟩, q _ ⟨?_, fun j hj => ?_⟩⟩
  · rw [List.getD_eq_getElem?_getD, List.getElem?_eq_getElem hb]
    exact List.getElem_mem hb
  · obtain ⟨i, hi, e⟩ := List.mem_iff_getElem.mp hj
    have e2 : is.getD i 0 = j := by rw [List.getD_eq_getElem?_getD, List.getElem?_eq_getElem hi, ← e] <;> rfl
    rw [← e2]
    exact b2 i (by omega)
/-- max(d.values(), default=e) -/
def rMaxVD : List V → List V → Hp → VK → Prop := fun vs zs H Q => ∃ (p a : Addr) (kvs : List (List Key × V)) (is : List Int) (d : V), vs = [.ref p] ∧ zs = [d] ∧ H p = some (valuesO p a) ∧ H a = some (.dT kvs) ∧ kvs.map (·.2) = is.map V.int ∧ (is = [] → Q d H) ∧ ∀ m, IsMax is m → Q (.int m) H
theorem crk_maxV (hc : X.calm = true) : CallRK X (.builtin "max") [Str.ofString "default"] rMaxVD := by
  intro pins s σ H vs zs us ws Q I r rz h
  obtain ⟨p, a, kvs, is, d, rfl, rfl, hp, ha, hi, q0, q⟩ := h
  rw [Vals.ref1 r]
  cases rz with
  | cons rd rt =>
    cases rt
    rename_i dv
    refine call_max_dflt (view_walk (A := X.A.in1) (show X.A.in1.handled = none from I.ok.hd hc) I hp ha hi fun It fp wr P St s₂ n en W st hfp hv k es2 => ?_)
    subst en
    refine ⟨It, fp, wr, is.length, P, St, fun i => is.getD i 0, rfl, W, st, hfp, hv, fun v h' tk hP hk => ?_⟩
    obtain ⟨h₂, rfl⟩ := es2
    have J : Inv X pins σ H { s with heap := h', toks := tk } := I.kept (t' := tk) fun b u e => hk b u (k b u e).2 (k b u e).1
    rcases mxOf_spec (fun i => is.getD i 0) is.length with ⟨e0, em⟩ | ⟨m, em, ⟨i, hi', ei⟩, hb⟩
    · rw [em] at hP
      subst hP
      exact ⟨d, H, J, rd, q0 (List.length_eq_zero_iff.mp e0)⟩
    · rw [em] at hP
      obtain ⟨t, rfl⟩ := hP
      refine ⟨.int m, H, J, ⟨t, rfl⟩, q m ⟨?_, fun j hj => ?_⟩⟩
      · rw [← ei, List.getD_eq_getElem?_getD, List.getElem?_eq_getElem hi']
        exact List.getElem_mem hi'
      · obtain ⟨i2, hi2, e⟩ := List.mem_iff_getElem.mp hj
        have e2 : is.getD i2 0 = j := by rw [List.getD_eq_getElem?_getD, List.getElem?_eq_getElem hi2, ← e] <;> rfl
        rw [← e2]
        exact hb i2 hi2

/-! ### a store into a dict, as one of several targets -/
theorem set_dict (hu : X.A.units + 1 < cLine) : PSet X (fun o i v H Q => ∃ (a : Addr) (H' : Hp), o = .ref a ∧ DPut H a i v H' ∧ Q H') := by
  intro pins s σ H o i v ov iv u Q I ro ri rv h
  obtain ⟨a, H', rfl, put, q⟩ := h
  cases ro
  exact d_setItem hu I put ri rv fun s' I' => ⟨H', I', q⟩
end
end Mv
/-! set and sorted of a tuple of tuples of ints. -/
namespace Mv
open PySem PySem.Spec PyProof.Rows L2
section
variable {P : Program} {w : World} {A : Around} {E : Value → Shared → Prop} {s : Shared}
set_option maxHeartbeats 6400000 in
theorem call_set_tupsU {l : Addr} {items : Array Value} (ks : List (Addr × List Int)) {Q : Value → Shared → Prop} (hh : A.handled = none) (hl : s.heap.IsTuple l items) (hit : items.toList = ks.map fun p => Value.ref p.1)
    (hk : ∀ p ∈ ks, IsT P w s.heap p.2 p.1) (hfew : ks.length < 64) (hu : A.units + 3 < cLine)
    (h : ∀ (h' : Heap) (tk : Nat) L es ep t, SetTR P w h' s.heap.objs.size L es ep t → Got ks ks.length L → (∀ b o, s.heap.get? b = some o → h'.get? b = some o) → Q (.ref s.heap.objs.size) { s with heap := h', toks := tk }) :
    wpAny (model P w) A (call (.type "set") [.ref l]) Q E s := by
  have hisz : items.size = ks.length := by
    have q := congrArg List.length hit
    rw [Array.length_toList, List.length_map] at q
    exact q
  obtain ⟨c, tl, hmro⟩ := F.called_set.mro
  have hmade := F.called_set.made
  have hsub := F.called_set.sub
  refine wpAny_call (codeAny_of_tree ?_)
  show wpAny _ _ (callAny (.type "set") _) _ _ _
  refine wpAny_pure ⟨Code.quiet_builtin _ (by decide +kernel), codeAny_builtin F.entry_type_call ?_⟩
  rw [Around.under_plain (weight_type_call_type "set" [.ref l] []) rfl]
  have h1 := F.called_set.notType
  have h2 := F.called_set.canCreate
  have hct := F.typeCall_set_1 (.ref l)
  repeat (any_goals (first | assumption | wp_step))

  refine codeAny_mono (code_set_led1 (.ref l) (E := E) (Q₁ := fun obj s₁ => obj = .ref s.heap.objs.size ∧ s₁ = { s with heap := s.heap.push { cls := .type "set", dict := none, data := .set #[] 0 (.fresh 0 0 (!w.params.followText "set-order")) } }) ⟨rfl, rfl⟩) fun r s₁ hr => ?_
  cases r with
  | error e => exact hr
  | ok fl =>
    cases fl with
    | ret obj =>
      obtain ⟨rfl, rfl⟩ := hr
      have hS : (s.heap.push { cls := .type "set", dict := none, data := .set #[] 0 (.fresh 0 0 (!w.params.followText "set-order")) }).get? s.heap.objs.size = some { cls := .type "set", dict := none, data := .set #[] 0 (.fresh 0 0 (!w.params.followText "set-order")) } := Heap.get?_push_size _ rfl
      have hT : Shared.TypeIs { s with heap := s.heap.push { cls := .type "set", dict := none, data := .set #[] 0 (.fresh 0 0 (!w.params.followText "set-order")) } } (.ref s.heap.objs.size) "set" := ⟨_, hS, rfl⟩
      have hli := F.called_set.init.lookup
      have hbi := F.called_set.init.bind (.ref s.heap.objs.size)
      repeat (any_goals (first | assumption | wp_step))

      refine codeAny_mono (codeAny_call_builtin (R := wants (fun r s₂ => r = .none ∧ ∃ h' tk L es ep t, s₂ = { s with heap := h', toks := tk } ∧ SetTR P w h' s.heap.objs.size L es ep t ∧ Got ks ks.length L ∧
          (∀ b o, s.heap.get? b = some o → h'.get? b = some o)) E) F.called_set.init.plain F.entry_set_init (check_set_init_1 hT ?_)) fun r₂ s₂ hr₂ => ?_
      · obtain ⟨ol, hol, hcl, nl, hdl⟩ := hl
        obtain ⟨ocls, odict, odata, oslots⟩ := ol
        simp only at hcl hdl
        subst hcl; subst hdl
        have hol' : (s.heap.push { cls := .type "set", dict := none, data := .set #[] 0 (.fresh 0 0 (!w.params.followText "set-order")) }).get? l = some { cls := .type "tuple", dict := odict, data := .seq items nl, slots := oslots } := Heap.get?_push_of_some _ hol
        have hsls := F.sub_tuple_set
        have hslf := F.sub_tuple_frozenset
        have hne : (Value.type "tuple" == Value.type "dict") = false := by decide
        have hl1 : (s.heap.push { cls := .type "set", dict := none, data := .set #[] 0 (.fresh 0 0 (!w.params.followText "set-order")) }).IsTuple l items := ⟨_, hol', rfl, nl, rfl⟩
        unfold Builtin.«set.__init__» noKeywords Builtin.Frozenset.updateFrom
        generalize hPI : pyIter = PI
        wp_walk
        subst hPI

        refine wpAny_pyIter_tuple hl1 ?_
        refine wpAny_bind (wpAny_runValue ?_)
        have hlS : l < s.heap.objs.size := Heap.lt_size hol
        have hh3 : A.in1.in1.in1.handled = none := by simp [hh]
        have hz1 : (s.heap.push { cls := .type "set", dict := none, data := .set #[] 0 (.fresh 0 0 (!w.params.followText "set-order")) }).objs.size = s.heap.objs.size + 1 := Heap.size_push ..
        have hneI : l ≠ (s.heap.push { cls := .type "set", dict := none, data := .set #[] 0 (.fresh 0 0 (!w.params.followText "set-order")) }).objs.size := by
          rw [Heap.size_push]; exact Nat.ne_of_lt (Nat.lt_succ_of_lt hlS)
        have hSf : s.heap.objs.size ∉ [(s.heap.push { cls := .type "set", dict := none, data := .set #[] 0 (.fresh 0 0 (!w.params.followText "set-order")) }).objs.size, l] := by
          rw [Heap.size_push]; simp only [List.mem_cons, List.mem_singleton, List.not_mem_nil, or_false, not_or]
          exact ⟨Nat.ne_of_lt (Nat.lt_succ_self _), Nat.ne_of_gt hlS⟩
        have hval : ∀ (i : Nat) (v : Value), items[i]? = some v → ∃ p, ks[i]? = some p ∧ v = .ref p.1 := fun i v hv => by
          have q : items.toList[i]? = some v := by rw [Array.getElem?_toList]; exact hv
          rw [hit, List.getElem?_map] at q
          cases hq : ks[i]? with
          | none => rw [hq] at q; cases q
          | some p =>
            rw [hq] at q
            exact ⟨p, rfl, (Option.some.inj q).symm⟩
        have none_of : ∀ b, s.heap.objs.size ≤ b → s.heap.get? b = none := fun b hb => by
          cases q : s.heap.get? b with
          | none => rfl
          | some o => exact absurd (Nat.lt_of_lt_of_le (Heap.lt_size q) hb) (Nat.lt_irrefl _)
        refine set_update_tups ((Walks.tuple hh3 _ l hneI items).toS) s.heap.objs.size
          hSf ks hisz hfew hval s.heap hk (none_of _ (Nat.le_refl _)) (fun b hb => none_of b (by
            rw [List.mem_singleton.mp hb, Heap.size_push]
            exact Nat.le_succ _)) hu (items.size - 0) 0 _ (by omega) (Nat.zero_le _)
          ⟨⟨_, Heap.get?_push_size _ rfl, rfl, rfl⟩, (hl1.push _)⟩ (fun b o e => Heap.get?_push_of_some _ (Heap.get?_push_of_some _ e)) ?hS0 ?hR
        case hS0 =>
          have hget : ((s.heap.push { cls := .type "set", dict := none, data := .set #[] 0 (.fresh 0 0 (!w.params.followText "set-order")) }).push { cls := .type "tuple_iterator", data := .fields #[.ref l, .int 0 0] }).get? s.heap.objs.size
              = some { cls := .type "set", dict := none, data := .set #[] 0 (.fresh 0 0 (!w.params.followText "set-order")) } := Heap.get?_push_of_some _ hS
          exact ⟨[], #[], 0, _, setTR_fresh hget, Got.zero ks⟩
        case hR =>
          intro s' L es ep t hm hS' g' hkp
          obtain ⟨h', g2, d', tk', os'⟩ := s'
          have eg : g2 = s.gens := hm.gens
          have ed : d' = s.drawn := hm.drawn
          have eo : os' = s.os := hm.os
          subst eg; subst ed; subst eo
          show wpAny _ _ _ _ _ _
          refine wpAny_pure ?_
          show wpAny _ _ (ret Value.none) _ _ _
          rw [hisz] at g'
          exact wpAny_pure ⟨rfl, h', tk', L, es, ep, t, rfl, hS', g', hkp⟩

      · cases r₂ with
        | error e => exact hr₂
        | ok fl₂ =>
          cases fl₂ with
          | ret r =>
            obtain ⟨rfl, h', tk, L, es, ep, t, rfl, hS', g', hk'⟩ := hr₂
            repeat (any_goals (first | assumption | wp_step))
            exact h _ _ _ _ _ _ hS' g' hk'
          | _ => exact hr₂.elim
    | _ => exact hr.elim
end
section
variable {X : Cx}
/-- set(xs), xs a tuple of tuples of ints -/
def rSetOfTU (K : PySem.W.Frag) (P : Program) (w : World) : List V → Hp → VK → Prop := fun xs H Q => ∃ (l : Addr) (ks : List (Addr × List Int)), xs = [V.ref l] ∧ SqT K H l (ks.map fun p => V.ref p.1) ∧ (∀ p ∈ ks, SqT K H p.1 (p.2.map V.int)) ∧ ks.length < 64 ∧
  ∀ a L, H a = none → (∀ p ∈ L, p ∈ ks) → (∀ p ∈ ks, p.2 ∈ L.map (·.2)) → Q (.ref a) (upd H a (SetTO P w a L))
theorem cr_setOfTU (hc : X.calm = true) (hu : X.A.units + 64 < cLine) : CallR X (.type "set") (rSetOfTU X.K X.prog X.w) := by
  intro pins s σ H xs us Q I r h
  obtain ⟨l, ks, rfl, hl, hk, hf, q⟩ := h
  rw [Vals.ref1 r]
  obtain ⟨its, rv, pl, hz⟩ := I.tuple hl
  have pl : s.heap.IsTuple l its.toArray := pl
  have hn : H s.heap.objs.size = none := I.hok.fresh (Nat.le_refl _)
  refine call_set_tupsU (P := X.prog) (w := X.w) ks (I.ok.hd hc) pl (by simpa using refs_of_vals rv) (fun p hp => I.isT (hk p hp)) hf (by omega) fun h' tk L es ep t R g k => ?_
  refine ⟨.ref s.heap.objs.size, upd H s.heap.objs.size (SetTO X.prog X.w s.heap.objs.size L), I.laid (t' := tk) k (Nat.le_refl _) (setTO_new R.t0), rfl, q _ L hn (fun p hp => ?_) fun p hp => ?_⟩
  · exact List.mem_of_mem_take (g.sub p hp)
  · exact g.all p (by rw [List.take_length]; exact hp)
end
end Mv
/-! sorted of a tuple of tuples of ints; sum of lists; a tuple once. -/
namespace Mv
open PySem PySem.Spec PyProof.Rows L2
section
variable {prog : Program} {w : World} {A : Around} {E : Value → Shared → Prop} {s : Shared}
theorem collect_tup {l : Addr} {vs : List Value} {Q : List Value → Shared → Prop} (hl : s.heap.IsTuple l vs.toArray)
    (h : Q vs { s with heap := (s.heap.push (seqObj "list" #[] 0)).update s.heap.objs.size (Obj.mapSeq (· ++ vs.toArray)) }) (hsz : vs.length ≤ sizeLine := by size_fits) :
    wpAny (model prog w) A (collect (.ref l)) Q E s := by
  obtain ⟨o, ho, hc, n, hd⟩ := id hl
  unfold collect
  refine wpAny_bind (wpAny_runValue (codeAny_builtin entry_proto_collect' ?_))
  show wpAny _ _ (do again (.builtin "list.__iadd__" ⟨[← newList [], .ref l], []⟩)) _ _ s
  refine wpAny_bind (wpAny_newList (wpAny_pure ⟨Code.quiet_builtin _ (by decide +kernel), codeAny_builtin entry_list_iadd' ?_⟩))
  show wpAny _ _ (Builtin.List.listExtendWith (.ref s.heap.objs.size) (.ref l) (.ref s.heap.objs.size)) _ _ { s with heap := s.heap.push (seqObj "list" #[] 0) }
  unfold Builtin.List.listExtendWith
  have ho' : (s.heap.push (seqObj "list" #[] 0)).get? l = some o := Heap.get?_push_of_some _ ho
  refine wpAny_bind (wpAny_typeOf (T := "tuple") ⟨o, ho', hc⟩ ?_)
  have ht : (Value.type "tuple" == Value.type "tuple") = true := by rfl
  rw [if_pos (by rw [ht]; simp)]
  refine wpAny_bind (listItems_at ho' hd ?_)
  refine wpAny_bind (listItems_at (xs := #[]) (n := 0) (Heap.get?_push_size _ rfl) rfl ?_)
  rw [if_neg (by simp)]
  refine wpAny_bind (listUpdate_at (xs := #[]) (n := 0) (Heap.get?_push_size _ rfl) rfl ?_ (Nat.zero_le _) (by show (#[] ++ vs.toArray).size ≤ sizeLine + 1; simp only [Array.size_append, List.size_toArray, List.length_nil]; omega))
  refine wpAny_pure ?_
  show wpAny (model prog w) A (do
      let o ← load s.heap.objs.size
      match o.data with
      | .seq xs _ => pure xs.toList
      | _ => unsupported "internal:collect") Q E { s with heap := (s.heap.push (seqObj "list" #[] 0)).update s.heap.objs.size (Obj.mapSeq (· ++ vs.toArray)) }
  refine wpAny_bind (wpAny_load (get?_update_seq (Heap.get?_push_size _ rfl) _) ?_)
  show wpAny _ _ (pure ((#[] : Array Value) ++ vs.toArray).toList) Q E _
  rw [show ((#[] : Array Value) ++ vs.toArray).toList = vs by simp]
  exact wpAny_pure h
theorem sorted_tupsU {l : Addr} {vs : List Value} {d : Nat} {B : Int} {Q : Value → Shared → Prop} (hl : s.heap.IsTuple l vs.toArray) (h64 : vs.length < 64) (hd : 1 ≤ d) (x : TS.TupsOk s.heap d B vs)
    (h : ∀ out : Array Value, out.toList.Perm vs → out.toList.Pairwise (fun u v => TS.code B (TS.intsOf s.heap u) ≤ TS.code B (TS.intsOf s.heap v)) → Q (.ref (s.heap.objs.size + 1)) { s with heap := sortedAll s.heap vs out }) :
    wpAny (model prog w) A (call (.builtin "sorted") [.ref l]) Q E s := by
  refine Calls.call_function_entry kind_sorted plain_sorted entry_sorted (args_sorted1 _) ?_
  unfold Builtin.«sorted»
  refine wpAny_bind (m := checkCount "sorted" 1 1 _) (wpAny_pure ?_)
  refine wpAny_bind (collect_tup hl ?_ (by rw [sizeLine_eq]; omega))
  refine wpAny_bind (wpAny_newList ?_ (by rw [sizeLine_eq]; omega))
  have hsz : ((s.heap.push (seqObj "list" #[] 0)).update s.heap.objs.size (Obj.mapSeq (· ++ vs.toArray))).objs.size = s.heap.objs.size + 1 := by
    rw [Heap.size_update, size_push']
  have hoL : (((s.heap.push (seqObj "list" #[] 0)).update s.heap.objs.size (Obj.mapSeq (· ++ vs.toArray))).push (seqObj "list" vs.toArray 0)).get? (s.heap.objs.size + 1) = some (seqObj "list" vs.toArray 0) := by
    rw [← hsz]; exact Heap.get?_push_size _ rfl
  have keep : ∀ b o, s.heap.get? b = some o → o.cls = .type "tuple" → (((s.heap.push (seqObj "list" #[] 0)).update s.heap.objs.size (Obj.mapSeq (· ++ vs.toArray))).push (seqObj "list" vs.toArray 0)).get? b = some o := fun b o q _ => by
    have hlt : b < s.heap.objs.size := Heap.lt_size q
    rw [Heap.get?_push_ne _ _ _ (by rw [hsz]; exact Nat.ne_of_lt (Nat.lt_succ_of_lt hlt)), Heap.get?_update_ne _ _ _ _ (Nat.ne_of_lt hlt), Heap.get?_push_ne _ _ _ (Nat.ne_of_lt hlt)]
    exact q
  show wpAny _ _ _ _ _ { s with heap := ((s.heap.push (seqObj "list" #[] 0)).update s.heap.objs.size (Obj.mapSeq (· ++ vs.toArray))).push (seqObj "list" vs.toArray 0) }
  rw [hsz]
  refine wpAny_bind (wpAny_holding (wpAny_call_entry slot_list_sort ⟨_, hoL, rfl⟩ entry_list_sort (TS.sort_tups hoL h64 hd (x.keeps keep) (fun v => TS.code B (TS.intsOf s.heap v)) (fun v hv ns t => ?_) fun out a1 a2 => ⟨_, rfl, ?_⟩) (args_list_sort _)))
  · obtain ⟨ns0, t0, _⟩ := x v hv
    have e : ns = ns0 := t.ints.symm.trans (t0.keeps keep).ints
    rw [e]
    show TS.code B (TS.intsOf s.heap v) = TS.code B ns0
    rw [t0.ints]
  · exact wpAny_pure ⟨_, rfl, h out a1 a2⟩

end
section
variable {X : Cx} {pins : List (Addr × Obj)} {σ : L2.St} {H : Hp} {s : Shared}
def rSortUU (K : PySem.W.Frag) (d : Nat) (B : Int) : List V → Hp → VK → Prop := fun vs H Q => ∃ (a : Addr) (xs : List V), vs = [V.ref a] ∧ SqT K H a xs ∧ xs.length < 64 ∧ (∀ x ∈ xs, ∃ ns, TupI K H x ns ∧ ns.length = d ∧ TS.Bd B ns) ∧
  ∀ (ys : List V) (p : Addr), ys.Perm xs → ys.Pairwise (fun x y => ∀ n m, TupI K H x n → TupI K H y m → TS.code B n ≤ TS.code B m) → H p = none → Q (.ref p) (upd H p (.lst ys))
theorem cr_sortTU {d : Nat} {B : Int} (hd : 1 ≤ d) : CallR X (.builtin "sorted") (rSortUU X.K d B) := by
  intro pins s σ H vs us Q I r h
  obtain ⟨a, xs, rfl, hs, h64, hx, q⟩ := h
  obtain ⟨its, rv, hl, hz⟩ := I.tuple hs
  rw [Vals.ref1 r]
  obtain ⟨e1, e2⟩ := bkV_refs rv fun x m => by
    obtain ⟨ns, ⟨t, e, _⟩, _⟩ := hx x m
    exact ⟨t, e⟩
  refine sorted_tupsU (d := d) (B := B) (show s.heap.IsTuple a its.toArray from hl) (by rw [← rv.length]; exact h64) hd (fun v hv => ?_) fun out h1 h2 => ?_
  · obtain ⟨t, rfl⟩ := e2 v hv
    have hm : V.ref t ∈ xs := by
      rw [e1]
      exact List.mem_map.mpr ⟨_, hv, rfl⟩
    obtain ⟨ns, ⟨t', e, ht⟩, hn, hb⟩ := hx _ hm
    cases e
    exact ⟨ns, tupI_raw I ht, hn, hb⟩
  · obtain ⟨ep, he'⟩ := PyProof.Rows.sortedAll_at s.heap its out
    have h3 : ∀ u ∈ out.toList, ∃ a, u = Value.ref a := fun u hu => e2 u (h1.mem_iff.mp hu)
    have hp : (out.toList.map bkV).Perm xs := by
      rw [e1]
      exact h1.map bkV
    have hlen : (out.toList.map bkV).length ≤ sizeLine := by
      rw [hp.length_eq]
      exact hz
    refine ⟨.ref _, upd H (s.heap.objs.size + 1) (.lst (out.toList.map bkV)), I.laid (t' := s.toks) (fun _ _ => PyProof.Rows.sortedAll_old) (Nat.le_succ _) ⟨hlen, out.toList, ep, bkV_vals h3, he'⟩, rfl, q _ _ hp ?_ (I.hok.fresh (Nat.le_succ _))⟩
    rw [List.pairwise_map]
    refine List.Pairwise.imp (fun {u v} huv n m hn hm => ?_) h2
    obtain ⟨t, et, ht⟩ := hn
    obtain ⟨t', et', ht'⟩ := hm
    have eu := bkV_ref et
    have ev := bkV_ref et'
    have i1 : TS.intsOf s.heap u = n := by
      rw [eu]
      exact (tupI_raw I ht).ints
    have i2 : TS.intsOf s.heap v = m := by
      rw [ev]
      exact (tupI_raw I ht').ints
    rw [← i1, ← i2]
    exact huv

end
/-! ### sum(xs, ys) of lists -/
section
variable {prog : Program} {w : World} {A : Around} {E : Value → Shared → Prop}
theorem args_sum2 (a b : Value) : argsOk "sum" ⟨[a, b], []⟩ := by unfold argsOk; kernel_rfl
def flat (ls : List (Addr × List Value)) : List Value := (ls.map (·.2)).flatten
theorem sum_loopL {R : Result → Shared → Prop} (hh : A.in1.handled = none) (I ax S : Addr) (h0 : Heap) (ls : List (Addr × List Value)) (hI0 : h0.get? I = none) (hS0 : h0.get? S = none) (hax : ∃ o, h0.get? ax = some o) (hIS : I ≠ S)
    (hl : ∀ p ∈ ls, ∃ c, IsL h0 p.1 p.2.toArray c) (items : Array Value) (hit : items.toList = ls.map fun p => Value.ref p.1) :
    ∀ (k i : Nat) (s : Shared) (t : Addr) (acc : List Value) (c cc : Nat), ls.length - i = k → i ≤ ls.length → s.heap.IsListIter I ax i → s.heap.IsList ax items → (∀ b o, h0.get? b = some o → s.heap.get? b = some o) → h0.objs.size ≤ s.heap.objs.size →
      IsL s.heap S #[.ref t] cc → IsL s.heap t acc.toArray c → t ≠ I → t ≠ S → acc.length + (flat (ls.drop i)).length ≤ sizeLine →
      (∀ h' tk t' c', (∀ b o, h0.get? b = some o → h'.get? b = some o) → (i = ls.length → t' = t) → (i < ls.length → h0.objs.size ≤ t') → IsL h' t' (acc ++ flat (ls.drop i)).toArray c' → R (.ok (.ret (.ref t'))) { s with heap := h', toks := tk }) →
      codeAny (model prog w) A (.builtin "sum.loop" ⟨[.ref I, .ref S, rawInt 2, rawInt 0], []⟩) R s := by
  obtain ⟨oax, hax⟩ := hax
  have nai : ax ≠ I := fun e => by rw [e, hI0] at hax; cases hax
  have nas : ax ≠ S := fun e => by rw [e, hS0] at hax; cases hax
  have hn : items.size = ls.length := by
    have q := congrArg List.length hit
    rwa [Array.length_toList, List.length_map] at q
  intro k
  induction k with
  | zero =>
    intro i s t acc c cc hk hi hst hax' hkp hsz hS ht h1 h2 hz hR
    have hin : i = ls.length := by omega
    refine codeAny_builtin F.entry_sum_loop ?_
    rw [Around.under_plainId F.plain_sum_loop _]
    show wpAny _ A.in1 (seqItems? (.ref S) >>= _) _ _ s
    refine wpAny_bind (wpAny_seqItems hS rfl ?_)
    show wpAny _ A.in1 (tryCatch (pyNext (.ref I)) _ >>= _) _ _ s
    refine wpAny_bind (wpAny_tryCatch (wpAny_pyNext_list_end hh hst hax' (Array.getElem?_eq_none (by rw [hn]; omega)) fun h' he' => ?_))
    refine wpAny_pure (hR h' s.toks t c (fun b o e => (he' b o (fun z => by rw [z, hI0] at e; cases e) (hkp b o e))) (fun _ => rfl) (fun z => absurd z (by omega)) ?_)
    have e0 : flat (ls.drop i) = [] := by rw [hin, List.drop_length] <;> rfl
    rw [e0, List.append_nil]
    exact he' t _ h1 ht
  | succ k ih =>
    intro i s t acc c cc hk hi hst hax' hkp hsz hS ht h1 h2 hz hR
    have hlt : i < ls.length := by omega
    obtain ⟨p, hp⟩ : ∃ p, ls[i]? = some p := ⟨ls[i], List.getElem?_eq_getElem hlt⟩
    have hx : items[i]? = some (Value.ref p.1) := by
      rw [← Array.getElem?_toList, hit, List.getElem?_map, hp] <;> rfl
    obtain ⟨cp, hlp⟩ := hl p (List.mem_of_getElem? hp)
    have nps : p.1 ≠ S := fun e => by
      have q : h0.get? p.1 = some _ := hlp
      rw [e, hS0] at q; cases q
    have npi : p.1 ≠ I := fun e => by
      have q : h0.get? p.1 = some _ := hlp
      rw [e, hI0] at q; cases q
    have ed : ls.drop i = p :: ls.drop (i + 1) := by
      rw [List.drop_eq_getElem_cons hlt]
      congr 1
      rw [List.getElem?_eq_getElem hlt] at hp
      exact Option.some.inj hp
    have ef : flat (ls.drop i) = p.2 ++ flat (ls.drop (i + 1)) := by rw [ed] <;> rfl
    refine codeAny_builtin F.entry_sum_loop ?_
    rw [Around.under_plainId F.plain_sum_loop _]
    show wpAny _ A.in1 (seqItems? (.ref S) >>= _) _ _ s
    refine wpAny_bind (wpAny_seqItems hS rfl ?_)
    show wpAny _ A.in1 (tryCatch (pyNext (.ref I)) _ >>= _) _ _ s
    refine wpAny_bind (wpAny_tryCatch (wpAny_pyNext_list_item hst hax' hx fun h1' hit' hs' => ?_))
    have hs1 := hs'.extBut
    have hS1 : IsL h1' S #[.ref t] cc := hs1 S _ hIS.symm hS
    have ht1 : IsL h1' t acc.toArray c := hs1 t _ h1 ht
    have hk1 : ∀ b o, h0.get? b = some o → h1'.get? b = some o := fun b o e => hs1 b o (fun z => by rw [z, hI0] at e; cases e) (hkp b o e)
    have hsz1 : h0.objs.size ≤ h1'.objs.size := by rw [hs'.1]; exact hsz
    have hp1 : IsL h1' p.1 p.2.toArray cp := hk1 _ _ hlp
    have hax1 : h1'.IsList ax items := by
      obtain ⟨o, ho, r⟩ := hax'
      exact ⟨o, hs1 ax o nai ho, r⟩
    show wpAny _ A.in1 ((holding [Value.ref p.1] (binaryOp .Add (.ref t) (.ref p.1))).attempt >>= _) _ _ _
    have lsz : acc.length + p.2.length ≤ sizeLine := by
      rw [ef, List.length_append] at hz
      omega
    refine wpAny_bind (wpAny_attempt (wpAny_holding (P.add_list (s := { s with heap := h1' }) ht1 hp1 ?_ (by rw [List.size_toArray, List.size_toArray]; exact lsz))))
    have eap : acc.toArray ++ p.2.toArray = (acc ++ p.2).toArray := by simp
    rw [eap]
    have gT : IsL (h1'.push { cls := .type "list", data := .seq (acc ++ p.2).toArray }) h1'.objs.size (acc ++ p.2).toArray 0 := IsL.new _ _
    have lS : S < h1'.objs.size := Heap.lt_size hS1
    have lI : I < h1'.objs.size := let ⟨_, e, _⟩ := hit'; Heap.lt_size e
    have hS2 : IsL (h1'.push { cls := .type "list", data := .seq (acc ++ p.2).toArray }) S #[.ref t] cc := hS1.push _
    show wpAny _ A.in1 (updateSeq S (fun _ => #[.ref h1'.objs.size]) >>= _) _ _ { s with heap := h1'.push { cls := .type "list", data := .seq (acc ++ p.2).toArray } }
    refine wpAny_bind (wpAny_updateSeq hS2 rfl ?_)
    have hS3 := Heap.get?_update_self (Obj.mapSeq fun _ => #[Value.ref h1'.objs.size]) hS2 rfl
    refine wpAny_bind (wpAny_letGo ?_)
    refine wpAny_bind (wpAny_updateSeq hS3 rfl ?_)
    have hS4 := Heap.get?_update_self (Obj.mapSeq fun _ => #[Value.ref h1'.objs.size]) hS3 rfl
    have up : ∀ b o, b ≠ S → h1'.get? b = some o → (((h1'.push { cls := .type "list", data := .seq (acc ++ p.2).toArray }).update S (Obj.mapSeq fun _ => #[Value.ref h1'.objs.size])).update S (Obj.mapSeq fun _ => #[Value.ref h1'.objs.size])).get? b = some o := fun b o hb e =>
      (Heap.get?_update_other _ _ (Ne.symm hb)).trans ((Heap.get?_update_other _ _ (Ne.symm hb)).trans (Heap.get?_push_of_some _ e))
    refine wpAny_pure ⟨plainId_quiet F.plain_sum_loop _, ih (i + 1) _ h1'.objs.size (acc ++ p.2) 0 _ (by omega) hlt (hit'.at fun o e => up I o hIS e) ?_ (fun b o e => up b o (fun z => by rw [z, hS0] at e; cases e) (hk1 b o e)) (by rw [Heap.size_update, Heap.size_update, Heap.size_push]; exact Nat.le_succ_of_le hsz1) hS4 ?_ (Nat.ne_of_gt lI) (Nat.ne_of_gt lS) ?_ fun h' tk t' c' k1 k2 k3 k4 => ?_⟩
    · obtain ⟨o, ho, r⟩ := hax1
      exact ⟨o, up ax o nas ho, r⟩
    · exact (Heap.get?_update_other _ _ (Nat.ne_of_lt lS)).trans ((Heap.get?_update_other _ _ (Nat.ne_of_lt lS)).trans gT)
    · rw [List.length_append]
      rw [ef, List.length_append] at hz
      omega
    · refine hR h' tk t' c' k1 (fun z => absurd z (by omega)) (fun _ => ?_) ?_
      · rcases Nat.lt_or_ge (i + 1) ls.length with z | z
        · exact k3 z
        · rw [k2 (by omega)]
          exact hsz1
      · rw [ef, ← List.append_assoc]
        exact k4
variable {s : Shared}
theorem call_sumLL {l st : Addr} {acc : List Value} {c : Nat} {Q : Value → Shared → Prop} (hh : A.handled = none) (ls : List (Addr × List Value)) (items : Array Value) (hL : s.heap.IsList l items) (hit : items.toList = ls.map fun p => Value.ref p.1)
    (hl : ∀ p ∈ ls, ∃ c, IsL s.heap p.1 p.2.toArray c) (hst : IsL s.heap st acc.toArray c) (hz : acc.length + (flat ls).length ≤ sizeLine)
    (h : ∀ h' tk t' c', (∀ b o, s.heap.get? b = some o → h'.get? b = some o) → (ls = [] → t' = st) → (ls ≠ [] → s.heap.objs.size ≤ t') → IsL h' t' (acc ++ flat ls).toArray c' → Q (.ref t') { s with heap := h', toks := tk }) :
    wpAny (model prog w) A (call (.builtin "sum") [.ref l, .ref st]) Q E s := by
  refine call_function_tree F.kind_sum F.plain_sum F.entry_sum (args_sum2 _ _) ?_
  unfold Builtin.«sum»
  simp only [List.length_cons, List.length_nil]
  rw [if_neg (by decide)]
  refine wpAny_bind (wpAny_of_eq (show Builtin.Builtins.bindParams "sum" ["start"] 0 ⟨[.ref st], []⟩ = pure [some (.ref st)] from rfl) ?_)
  refine wpAny_bind (wpAny_pyIter_list hL ?_)
  refine wpAny_bind (wpAny_pure ?_)
  have oT : Shared.TypeIs { s with heap := s.heap.push { cls := .type "list_iterator", data := .fields #[.ref l, .int 0 0] } } (.ref st) "list" := ⟨_, hst.push _, rfl⟩
  simp only [List.forIn_cons, List.forIn_nil]
  refine wpAny_bind (wpAny_bind (wpAny_bind (wpAny_isInstance (T := "list") (b := false) oT F.sub_list_str ?_)))
  simp only [Bool.false_eq_true, if_false]
  refine wpAny_pure (wpAny_bind (wpAny_bind (wpAny_isInstance (T := "list") (b := false) oT F.sub_list_bytes ?_)))
  simp only [Bool.false_eq_true, if_false]
  refine wpAny_pure (wpAny_bind (wpAny_bind (wpAny_isInstance (T := "list") (b := false) oT F.sub_list_bytearray ?_)))
  simp only [Bool.false_eq_true, if_false]
  refine wpAny_pure (wpAny_pure ?_)
  refine wpAny_bind (wpAny_newObj_type ?_)
  generalize ho : ({ cls := .type "list_iterator", data := .fields #[.ref l, .int 0 0] } : Obj) = oi at oT ⊢
  have hz1 : (s.heap.push oi).objs.size = s.heap.objs.size + 1 := Heap.size_push ..
  have none_of : ∀ b, s.heap.objs.size ≤ b → s.heap.get? b = none := fun b hb => by
    cases q : s.heap.get? b with
    | none => rfl
    | some o => exact absurd (Nat.lt_of_lt_of_le (Heap.lt_size q) hb) (Nat.lt_irrefl _)
  have gi : (s.heap.push oi).get? s.heap.objs.size = some oi := Heap.get?_push_size _ (by rw [← ho] <;> rfl)
  have hlt : st < s.heap.objs.size := Heap.lt_size hst
  refine wpAny_pure ⟨plainId_quiet F.plain_sum_loop _, sum_loopL (show A.in1.handled = none by simpa using hh) s.heap.objs.size l (s.heap.push oi).objs.size s.heap ls (none_of _ (Nat.le_refl _)) (none_of _ (by rw [hz1]; exact Nat.le_succ _)) (let ⟨o, e, _⟩ := hL; ⟨o, e⟩) (by rw [hz1]; exact Nat.ne_of_lt (Nat.lt_succ_self _)) hl items hit
    ls.length 0 _ st acc c 0 rfl (Nat.zero_le _) ⟨oi, Heap.get?_push_of_some _ gi, by rw [← ho] <;> rfl, by rw [← ho] <;> rfl⟩ (let ⟨o, e, r⟩ := hL; ⟨o, Heap.get?_push_of_some _ (Heap.get?_push_of_some _ e), r⟩) (fun b o e => Heap.get?_push_of_some _ (Heap.get?_push_of_some _ e))
    (by rw [Heap.size_push, Heap.size_push]; omega) (Heap.get?_push_size _ rfl) ((hst.push _).push _) (Nat.ne_of_lt hlt) (by rw [hz1]; exact Nat.ne_of_lt (Nat.lt_succ_of_lt hlt)) (by rw [List.drop_zero]; exact hz) fun h' tk t' c' k1 k2 k3 k4 => ?_⟩
  rw [List.drop_zero] at k4
  exact h h' tk t' c' k1 (fun e => k2 (by rw [e] <;> rfl)) (fun e => k3 (List.length_pos_iff.mpr e)) k4
end
section
variable {X : Cx}
/-- sum(xss, ys) of a list of lists: ys itself where xss is empty, else a new list -/
def rSumL : List V → Hp → VK → Prop := fun vs H Q => ∃ (l st : Addr) (ls : List (Addr × List V)) (ys : List V), vs = [.ref l, .ref st] ∧ H l = some (.lst (ls.map fun p => V.ref p.1)) ∧ (∀ p ∈ ls, H p.1 = some (.lst p.2)) ∧ H st = some (.lst ys) ∧ ys.length + (ls.map (·.2)).flatten.length ≤ sizeLine ∧
  (ls = [] → Q (.ref st) H) ∧ ∀ p, H p = none → Q (.ref p) (upd H p (.lst (ys ++ (ls.map (·.2)).flatten)))
theorem raw_lists {pins : List (Addr × Obj)} {σ : L2.St} {H : Hp} {s : Shared} (I : Inv X pins σ H s) : ∀ ls : List (Addr × List V), (∀ p ∈ ls, H p.1 = some (.lst p.2)) →
    ∃ rs : List (Addr × List Value), rs.map (·.1) = ls.map (·.1) ∧ (∀ p ∈ rs, ∃ c, IsL s.heap p.1 p.2.toArray c) ∧ Vals (ls.map (·.2)).flatten (flat rs)
  | [], _ => ⟨[], rfl, fun _ h => absurd h (by simp), .nil⟩
  | p :: ls, h => by
    obtain ⟨rs, e1, e2, e3⟩ := raw_lists I ls fun q hq => h q (List.mem_cons_of_mem _ hq)
    obtain ⟨z, its, n, r, hl, e⟩ := I.lstM (h p List.mem_cons_self)
    refine ⟨(p.1, its) :: rs, by rw [List.map_cons, List.map_cons, e1], fun q hq => ?_, r.append e3⟩
    rcases List.mem_cons.mp hq with z | z
    · subst z
      exact ⟨n, e⟩
    · exact e2 q z
theorem cr_sumL (hc : X.calm = true) : CallR X (.builtin "sum") rSumL := by
  intro pins s σ H vs us Q I r h
  obtain ⟨l, st, ls, ys, rfl, hl, hls, hst, hz, q0, q⟩ := h
  cases r with
  | cons r1 rt =>
  cases rt with
  | cons r2 rt =>
  cases rt
  cases r1
  cases r2
  obtain ⟨rs, e1, e2, e3⟩ := raw_lists I ls hls
  obtain ⟨z, its, n, rv, hlen, e⟩ := I.lstM hl
  obtain ⟨z2, its2, n2, rv2, hlen2, eS⟩ := I.lstM hst
  have hits : its = rs.map fun p => Value.ref p.1 := by
    have a : Vals ((rs.map (·.1)).map V.ref) its := by
      rw [e1, List.map_map]
      exact rv
    have : ∀ (as : List Addr) (us : List Value), Vals (as.map V.ref) us → us = as.map Value.ref := by
      intro as
      induction as with
      | nil => intro us h; cases h; rfl
      | cons a as ih =>
        intro us h
        cases h with
        | cons r t =>
          cases r
          rw [ih _ t] <;> rfl
    rw [this _ _ a, List.map_map] <;> rfl
  have hf : (flat rs).length = (ls.map (·.2)).flatten.length := e3.length.symm
  refine call_sumLL (I.ok.hd hc) rs its.toArray (IsL.isList e) (by simpa using hits) e2 eS (by rw [← hlen2, hf]; exact hz) fun h' tk t' c' k1 k2 k3 k4 => ?_
  have J : Inv X pins σ H { s with heap := h', toks := tk } := I.kept (t' := tk) k1
  rcases Classical.em (ls = []) with z | z
  · have zr : rs = [] := by
      have := congrArg List.length e1
      rw [z] at this
      exact List.eq_nil_of_length_eq_zero (by simpa using this)
    rw [k2 zr]
    exact ⟨.ref st, H, J, rfl, q0 z⟩
  · have zr : rs ≠ [] := fun q => z (by
      have := congrArg List.length e1
      rw [q] at this
      exact List.eq_nil_of_length_eq_zero (by simpa using this.symm))
    have k5 := k3 zr
    refine ⟨.ref t', _, I.laid (t' := tk) (o := .lst (ys ++ (ls.map (·.2)).flatten)) k1 k5 ⟨by rw [List.length_append]; exact hz, _, c', rv2.append e3, k4⟩, rfl, q _ (I.hok.fresh k5)⟩
end
end Mv
/-! A tuple times one; a dict of pairs with tuple keys. -/
namespace Mv
open PySem PySem.Spec PyProof.Rows L2
theorem tuple_mul1 (l : Addr) (items : Array Value) (n : Nat) (dd : Option Addr) (sl : Array (Option Value)) (u : Tok) :
    Meets (Builtin.«tuple.__mul__» ⟨[.ref l, .int 1 u], []⟩) (fun _ R s => s.heap.get? l = some { cls := .type "tuple", dict := dd, data := .seq items n, slots := sl } ∧ R (.ok (.ret (Value.ref l))) { s with toks := s.toks }) :=
  .of_wp fun prog w A R s h => by
    obtain ⟨hp, g, d, tk, os⟩ := s
    obtain ⟨hl, h⟩ := h
    have f1 := AutoSeq1.idx_int
    have c0 : ¬ (decide ((1 : Int) < -(2 ^ 63)) || decide ((1 : Int) ≥ 2 ^ 63)) = true := by decide
    have c1 : (items.isEmpty || (1 : Int) == 1) = true := by simp
    wp_walk using AutoSeq1.wpAny_loadPart' hl
    repeat (first
      | (refine wpAny_ite_false (decide_eq_false c0) ?_; wp_walk using AutoSeq1.wpAny_loadPart' hl)
      | (refine wpAny_ite_true (decide_eq_true c1) ?_; wp_walk using AutoSeq1.wpAny_loadPart' hl))
    exact ⟨_, rfl, h⟩
/-- a tuple times a small count: the very tuple where it is 1 -/
def rRepU (K : PySem.W.Frag) : R2 := fun x y H Q => ∃ l k xs, x = .ref l ∧ y = .int k ∧ SqT K H l xs ∧ xs ≠ [] ∧ 1 ≤ k ∧ k ≤ 1000 ∧ xs.length ≤ 1000 ∧ (k = 1 → Q (.ref l) H) ∧ (k ≠ 1 → ∀ p, H p = none → Q (.ref p) (upd H p (.tup (List.replicate k.toNat xs).flatten)))
section
variable {X : Cx}
theorem op_repU : OpR X (binaryOp .Mult) (rRepU X.K) := by
  intro pins s σ H x y v u Q I rx ry h
  obtain ⟨l, k, xs, rfl, rfl, hT, hne, h1, h2, hz, q1, q2⟩ := h
  by_cases e : k = 1
  · subst e
    cases rx
    obtain ⟨t, rfl⟩ := ry
    obtain ⟨its, r, ⟨⟨cls, dd, data, sl⟩, ho, hc, n, hd⟩, hs⟩ := I.tuple hT
    simp only at hc hd
    subst hc hd
    refine wpAny_binaryOp_repeat_ref (T := "tuple") (U := "int") (by decide) ⟨_, ho, rfl⟩ (fun s' => typeIs_int s' 1 t) noFill_tuple_mul F.fills_int_mul F.slot_int_rmul repeat_tuple F.slot_int_index.lookup
      (call_meets F.slot_int_rmul (typeIs_int s 1 t) F.entry_int_rmul (F.args_int_rmul_2 _ _) (int_rmul_tuple 1 t l its.toArray n dd sl)
        ⟨ho, rfl, ⟨_, ho, rfl⟩, call_meets F.slot_tuple_mul ⟨_, ho, rfl⟩ F.entry_tuple_mul (F.args_tuple_mul_2 _ _) (tuple_mul1 l its.toArray n dd sl t) ⟨ho, ?_⟩⟩)
    exact ⟨.ref l, H, I, rfl, q1 rfl⟩
  · exact op_repT pins s σ H _ _ _ _ Q I rx ry ⟨l, k, xs, rfl, rfl, hT, hne, by omega, h2, hz, q2 e⟩

/-! ### dict(pairs), the keys tuples -/
theorem raw_pairs {pins : List (Addr × Obj)} {σ : L2.St} {H : Hp} {s : Shared} (I : Inv X pins σ H s) : ∀ ps : List (Addr × List Key × Addr × V), (∀ p ∈ ps, H p.1 = some (.tup [.ref p.2.2.1, p.2.2.2])) →
    ∃ rs : List (Addr × List Key × Addr × Value), rs.map (fun r => Value.ref r.1) = ps.map (fun p => Value.ref p.1) ∧ (∀ r ∈ rs, s.heap.IsTuple r.1 #[.ref r.2.2.1, r.2.2.2]) ∧
      Paired (fun (p : Addr × List Key × Addr × V) (r : Addr × List Key × Addr × Value) => p.1 = r.1 ∧ p.2.1 = r.2.1 ∧ p.2.2.1 = r.2.2.1 ∧ RelV p.2.2.2 r.2.2.2) ps rs
  | [], _ => ⟨[], rfl, fun _ h => absurd h (by simp), .nil⟩
  | p :: ps, h => by
    obtain ⟨rs, e1, e2, e3⟩ := raw_pairs I ps fun q hq => h q (List.mem_cons_of_mem _ hq)
    obtain ⟨its, rv, pl, _⟩ := I.tuple (xs := [.ref p.2.2.1, p.2.2.2]) (.inl (.inl (h p List.mem_cons_self)))
    cases rv with
    | cons r1 rt =>
    cases rt with
    | cons r2 rt =>
    cases rt
    cases r1
    rename_i u2
    refine ⟨(p.1, p.2.1, p.2.2.1, u2) :: rs, by rw [List.map_cons, List.map_cons, e1], fun q hq => ?_, .cons ⟨rfl, rfl, rfl, r2⟩ e3⟩
    rcases List.mem_cons.mp hq with z | z
    · subst z
      exact pl
    · exact e2 q z
def rDictPT : List V → Hp → VK → Prop := fun vs H Q => ∃ (l : Addr) (ps : List (Addr × List Key × Addr × V)), vs = [.ref l] ∧ H l = some (.lst (ps.map fun p => V.ref p.1)) ∧ (∀ p ∈ ps, H p.1 = some (.tup [.ref p.2.2.1, p.2.2.2])) ∧ (∀ p ∈ ps, H p.2.2.1 = some (.tup (p.2.1.map kV))) ∧
  ∀ d, H d = none → Q (.ref d) (upd H d (.dT (ps.foldl (fun acc p => putK acc p.2.1 p.2.2.2) [])))
theorem kt_fold {H : Hp} : ∀ {ps : List (Addr × List Key × Addr × V)} {rs : List (Addr × List Key × Addr × Value)} {kvs : List (List Key × V)} {xs : List (List Key × Addr × Value)},
    Paired (fun (p : Addr × List Key × Addr × V) (r : Addr × List Key × Addr × Value) => p.1 = r.1 ∧ p.2.1 = r.2.1 ∧ p.2.2.1 = r.2.2.1 ∧ RelV p.2.2.2 r.2.2.2) ps rs → (∀ p ∈ ps, H p.2.2.1 = some (.tup (p.2.1.map kV))) → KT H kvs xs →
    KT H (ps.foldl (fun acc p => putK acc p.2.1 p.2.2.2) kvs) (storedAllH xs (rs.map fun r => r.2))
  | _, _, _, _, .nil, _, r => r
  | _, _, _, _, .cons (a := p) (b := q) (l₁ := ps) (l₂ := rs) h t, hk, r => by
    obtain ⟨h1, h2, h3, h4⟩ := h
    have z := KT.put r p.2.1 (hk p List.mem_cons_self) h4
    rw [h2, h3] at z
    have w := kt_fold t (fun x hx => hk x (List.mem_cons_of_mem _ hx)) z
    show KT H (ps.foldl _ (putK _ p.2.1 p.2.2.2)) (storedAllH (storedH _ q.2.1 q.2.2.1 q.2.2.2) (rs.map fun r => r.2))
    rw [h2]
    exact w
theorem paired_at {α β : Type} {F : α → β → Prop} : ∀ {xs : List α} {ys : List β}, Paired F xs ys → ∀ (i : Nat) (y : β), ys[i]? = some y → ∃ x, xs[i]? = some x ∧ F x y
  | _, _, .nil, i, y, h => by simp at h
  | _, _, .cons (a := a) h t, 0, y, e => by
    cases (Option.some.inj (show some _ = some y from e))
    exact ⟨a, rfl, h⟩
  | _, _, .cons h t, i + 1, y, e => paired_at t i y e
theorem cr_dictPT (hc : X.calm = true) (hu : X.A.units + 64 < cLine) : CallR X (.type "dict") rDictPT := by
  intro pins s σ H vs us Q I r h
  obtain ⟨l, ps, rfl, hl, hp, hk, q⟩ := h
  rw [Vals.ref1 r]
  obtain ⟨rs, e1, e2, e3⟩ := raw_pairs I ps hp
  obtain ⟨z, its, n, rv, hlen, e⟩ := I.lstM hl
  have refs : ∀ (as : List Addr) (us : List Value), Vals (as.map V.ref) us → us = as.map Value.ref := by
    intro as
    induction as with
    | nil => intro us h; cases h; rfl
    | cons a as ih =>
      intro us h
      cases h with
      | cons r t =>
        cases r
        rw [ih _ t] <;> rfl
  have hits : its = rs.map fun p => Value.ref p.1 := by
    rw [e1]
    have := refs (ps.map (·.1)) its (by rw [List.map_map]; exact rv)
    rw [this, List.map_map] <;> rfl
  have hpl : ps.length = rs.length := Paired.length e3
  have key : ∀ r ∈ rs, H r.2.2.1 = some (.tup (r.2.1.map kV)) := by
    intro r hr
    obtain ⟨i, hi, ei⟩ := List.mem_iff_getElem.mp hr
    obtain ⟨p, hpi, h1, h2, h3, h4⟩ := paired_at e3 i r (by rw [List.getElem?_eq_getElem hi, ei])
    rw [← h3, ← h2]
    exact hk p (List.mem_of_getElem? hpi)
  have hraw : (rs.map fun r => (Value.ref r.2.2.1, r.2.2.2)).length = rs.length := List.length_map _
  have zlen : rs.length ≤ sizeLine := by
    rw [List.length_map] at z
    omega
  refine call_dict_pairsH (knd := tupleKind (mixKind X.prog X.w)) (ps := rs.map fun r => r.2) (PairArg.list l its.toArray (fun j => (rs.getD j default).1) (rs.map fun r => (Value.ref r.2.2.1, r.2.2.2))) (I.ok.hd hc) (show X.A.units + 2 < cLine by omega) ⟨⟨_, n, e, rfl, rfl, rfl⟩, ?_, ?_⟩ ⟨by rw [List.length_map, List.length_map], ?_⟩ ?_ (by rw [hraw]; exact zlen) fun h' tk hd' hk' => ?_
  · rw [hits, List.size_toArray, List.length_map, List.length_map]
  · intro j k v hj
    rw [List.getElem?_map] at hj
    obtain ⟨r, hr, er⟩ := Option.map_eq_some_iff.mp hj
    have ed : rs.getD j default = r := by rw [List.getD_eq_getElem?_getD, hr] <;> rfl
    cases er
    show its.toArray[j]? = some (Value.ref (rs.getD j default).1) ∧ PairAt s.heap (rs.getD j default).1 _ _
    rw [ed]
    refine ⟨?_, .inl (e2 r (List.mem_of_getElem? hr))⟩
    rw [hits, List.getElem?_toArray, List.getElem?_map, hr] <;> rfl
  · intro i kk v hi
    have hi : (rs.map fun r => (Value.ref r.2.2.1, r.2.2.2))[i]? = some (kk, v) := hi
    rw [List.getElem?_map] at hi
    obtain ⟨r, hr, er⟩ := Option.map_eq_some_iff.mp hi
    cases er
    exact ⟨r.2.1, r.2.2.1, by rw [List.getElem?_map, hr] <;> rfl, rfl⟩
  · intro h' hk' x hx
    obtain ⟨r, hr, rfl⟩ := List.mem_map.mp hx
    have hkey := key_of I.hok (key r hr)
    refine tupleKind_stays.stays (fun b o vs n hb hd => hk' b o (Nat.ne_of_lt (Heap.lt_size hb)) (by simp) hb) hkey
  · have rel : KT H (ps.foldl (fun acc p => putK acc p.2.1 p.2.2.2) []) (storedAllH [] (rs.map fun r => r.2)) := kt_fold e3 hk .nil
    have keep : ∀ b o, s.heap.get? b = some o → h'.get? b = some o := fun b o e => hk' b o (by simp) e
    have hn : H s.heap.objs.size = none := I.hok.fresh (Nat.le_refl _)
    have hl2 : (ps.foldl (fun acc p => putK acc p.2.1 p.2.2.2) ([] : List (List Key × V))).length ≤ sizeLine := by
      have a := Paired.length rel
      have b := storedAllH_length (rs.map fun r => r.2) ([] : List (List Key × Addr × Value))
      rw [List.length_map, List.length_nil] at b
      omega
    obtain ⟨o, es, ep, ho, h2, h3, h4, _, h5⟩ := hd'
    refine ⟨.ref s.heap.objs.size, _, I.laid (t' := tk) (o := .dT (ps.foldl (fun acc p => putK acc p.2.1 p.2.2.2) [])) keep (Nat.le_refl _) ⟨hl2, beq_eq_false_iff_ne.mpr (Ne.symm (Nat.ne_of_lt I.big)), _, rel.keeps fun c ys ec => ?_, o, es, ep, ho, h2, h3, h4, h5⟩, rfl, q _ hn⟩
    exact (upd_ne (fun z => by rw [z, hn] at ec; cases ec)).trans ec
end
end Mv
/-! Defs of which one knows that nothing is being written out when they are called. -/
namespace Mv
open PySem PySem.Spec PyProof.Rows L2
structure FnG (P : Program) (w : World) (K : PySem.W.Frag) (mg : Str → Option Value) (base : Heap) (CX : CXT) (k : Nat) (f : Addr) (fd : FuncData) (ps : List Str) (sp : Sp) : Prop where
  len : ∀ vs H Q E, sp vs H Q E → vs.length = ps.length
  run : ∀ (A : Around) (outer : List Env) (s : Shared) (H : Hp) (args : Args) (us : List Value) (vs : List V) (Q : VK) (E : XK), A.guards = some [] → Room k A → Env0 P w K mg base A outer s H → BindsTo s fd args (ps.zip us) → Vals vs us → sp vs H Q E →
    codeAny (model P w) A (.call (.ref f) args) (CR CX outer P w H s Q E) s
theorem fn_ofG {CX : CXT} {P : Program} {w : World} {K : PySem.W.Frag} {mg : Str → Option Value} {base : Heap} {k : Nat} {f : Addr} {name qual : Str} {params : Arguments} {body : List Stmt} {scope : Scope} {dV kV doc pm cdv ct oc : Value} {an od : Option Addr}
    {osl : Array (Option Value)} {N ps : List Str} {sp : Sp} (lk : K.lookup f = some ⟨oc, od, .func (PySem.W.fnOf name qual params body scope dV kV doc pm an cdv ct), osl⟩) (hcd : PySem.W.codeIn K cdv qual = true) (S : FnScope N ps scope)
    (len : ∀ vs H Q E, sp vs H Q E → vs.length = ps.length)
    (hbody : ∀ (A : Around) (outer : List Env) (s : Shared) (H : Hp) (vs : List V) (Q : VK) (E : XK), A.guards = some [] → Room k (A.deeper (envOfC qual scope s.heap.objs.size f cdv)) → sp vs H Q E →
      ∃ t, PSs (cxOf CX P w K mg base N qual scope f cdv A outer s H E) body t ∧ t { nx := fun _ H' => Q .non H', rt := Q } (start N vs) H) :
    FnG P w K mg base CX (k + 1) f (PySem.W.fnOf name qual params body scope dV kV doc pm an cdv ct) ps sp := by
  refine ⟨len, fun A outer s H args us vs Q E hgd hr e0 hb r hsp => ?_⟩
  have hl := len _ _ _ _ hsp
  have KX : K.In s.heap := e0.mod.kin.keeps fun b o e => (e0.bs b o e).1
  have lim : s.heap.NoLimit := e0.mod.nolimit.keeps fun b o e => (e0.bs b o e).1
  have hkind : ∀ y ∈ ps.zip us, scope.names.lookup y.1 = some .local ∨ (scope.names.lookup y.1 = some .cell ∧ ((cellsFrom (s.heap.objs.size + 1) scope.names []).lookup y.1).isSome = true) := fun ⟨n, v⟩ hy => by
    rcases S.par n (List.of_mem_zip hy).1 with q | q
    · exact .inl q
    · exact .inr ⟨q, PySem.W.cellsFrom_some _ _ _ (.inl q)⟩
  refine codeAny_call_function hr.depth (KX _ _ lk) rfl S.co S.gen rfl (PySem.W.codeRec_of KX hcd) (hb _ _ _ _ ?_)
  refine wpAny_newFunctionEnv_cells S.kind hkind fun env he s1 x => ?_
  subst he
  refine ⟨lim.keeps x.toInCall.keep, codeAny_func ?_⟩
  obtain ⟨t, ht, hq⟩ := hbody A outer s H vs Q E hgd (hr.deeper _) hsp
  have I : Inv (cxOf CX P w K mg base N qual scope f cdv A outer s H E) [] (start N vs) H s1 := inv_start S hr.hd e0 hl r x
  refine wpAny_mono (ht.run [] s1 (start N vs) H _ I hq) (fun fl s' hs => ?_) fun e s' hs => hs
  have fin : ∀ {σ' : L2.St} {H' : Hp} {v : V} {u : Value}, Inv (cxOf CX P w K mg base N qual scope f cdv A outer s H E) [] σ' H' s' → RelV v u → Q v H' → CE outer P w H s Q u s' :=
    fun {σ' H' v u} J rv q => ⟨v, H', J.os, J.bare, J.base, J.hok, rv, q⟩
  cases fl with
  | ret u =>
    obtain ⟨v, σ', H', J, rv, q⟩ := hs
    exact fin J rv q
  | next =>
    obtain ⟨σ', H', J, q⟩ := hs
    exact fin (v := V.non) (u := Value.none) J rfl q
  | brk =>
    obtain ⟨_, _, _, q⟩ := hs
    exact False.elim q
  | cont =>
    obtain ⟨_, _, _, q⟩ := hs
    exact False.elim q

section
variable {X : Cx} {CX : CXT} {k : Nat} {f C : Addr} {fd : FuncData} {ps : List Str} {sp : Sp} {dvs : List V} {ds : List Value} {E : XK} {x m : Str} {p pos apos : Pos} {e o : Expr} {es : List Expr} {ta : TE} {t : TA}
theorem run_fnG {pins : List (Addr × Obj)} {σ : L2.St} {H : Hp} {s : Shared} {Q : VK} {us : List Value} {vs : List V} (F : FnG X.prog X.w X.K X.mg X.base CX k f fd ps sp) (hgd : X.A.guards = some []) (hr : Room k X.A) (hb : Binds X.K fd ps ds) (hd : Vals dvs ds) (hx : Passes CX X E)
    (I : Inv X pins σ H s) (r : Vals vs us) (h : sp (vs ++ dvs) H Q E) : wpAny (model X.prog X.w) X.A (call (.ref f) us) (EP X pins σ Q) X.xe s := by
  have r2 : Vals (vs ++ dvs) (us ++ ds) := r.append hd
  have hl : (us ++ ds).length = ps.length := by rw [← r2.length]; exact F.len _ _ _ _ h
  refine wpAny_call (codeAny_mono (F.run X.A X.stack s H ⟨us, []⟩ (us ++ ds) (vs ++ dvs) Q E hgd hr I.env0 (hb s us I.kIn hl) r2 h) fun r s' hq => ?_)
  cases r with
  | error e => exact hx pins σ H s e s' I hq
  | ok fl =>
    cases fl with
    | ret u => exact I.after hq
    | next => exact False.elim hq
    | brk => exact False.elim hq
    | cont => exact False.elim hq
theorem pe_callG (F : FnG X.prog X.w X.K X.mg X.base CX k f fd ps sp) (hgd : X.A.guards = some []) (hr : Room k X.A) (hg : Gl X x) (hm : X.mg x = some (.ref f)) (hk : PySem.W.keepIn X.K (.ref f) = true) (hb : Binds X.K fd ps ds) (hd : Vals dvs ds) (hx : Passes CX X E)
    (ha : PA X (e :: es) t) (hdb : (x == ("__debug__" : Str)) = false := by decide) (he : starEach (e :: es) X.env = (false, eval e X.env) :: starEach es X.env := by rfl) (hpl : (backTo pos (starEach es X.env)).any (·.1) = false := by rfl) :
    PE X (.Call (.Name x p) (e :: es) [] pos) (tCall sp dvs E t) := by
  refine ⟨fun pins s σ H Q I h => ?_⟩
  refine wpAny_Call_Name_kw (ld_glob I hg hm ?_ hdb)
  refine PySem.W.callWith_K (h₀ := X.base) I.ok.mod.kin hk (thn (ha.run pos pins s σ H _ I h) fun us s1 ⟨vs, H1, I1, r, q⟩ => ⟨I1.kIn, ?_⟩) he hpl
  exact run_fnG F hgd hr hb hd hx I1 r q
end
theorem law_callG {P : Program} {w : World} {K : PySem.W.Frag} {mg mb : Str → Option Value} {CX : CXT} {k : Nat} {fa a : Addr} {fd : FuncData} {x : Str} {sp : Sp} {s₁ : Shared} {vs : List Value} {ns : List Int}
    (KX : K.In s₁.heap) (hns : s₁.heap.Ns mainGlobals mg) (hb : s₁.heap.Ns builtinsNs mb) (hbb : ∀ x : Str, x ≠ "__name__" → mb x = bootBuiltins x) (hlim : s₁.heap.NoLimit) (hg : s₁.gens = #[])
    (ha : s₁.heap.get? a = some { cls := .type "list", data := .seq vs.toArray }) (hi : IntsAre vs ns) (hl : ns.length ≤ sizeLine) (hr : Room k callerA)
    (F : ∀ base : Heap, K.In base → base.Ns mainGlobals mg → FnG P w K mg base CX k fa fd [x] sp) (hbind : ∀ (s : Shared) (u : Value), BindsTo s fd ⟨[u], []⟩ [(x, u)])
    (hsp : ∀ H : Hp, Only H → SqL K H a (ns.map V.int) → sp [.ref a] H (fun v _ => v = .bl true) fun _ _ _ => False)
    (hCX : ∀ H e s', CX [] H s₁ (fun _ _ _ => False) e s' → False) :
    codeAny (model P w) callerA (.call (.ref fa) ⟨[.ref a], []⟩) (fun r s' => r = .ok (.ret (.bool true)) ∧ OldK s₁.heap s'.heap ∧ s'.os = s₁.os ∧ AllBare s'.gens) s₁ := by
  have rv := vals_ints hi
  have lenV := hi.length
  have core : ∀ H : Hp, Only H → SqL K H a (ns.map V.int) → HOk P w H s₁.heap → (∀ b, H b ≠ none → b = a) → (H a ≠ none → K.lookup a = none) →
      codeAny (model P w) callerA (.call (.ref fa) ⟨[.ref a], []⟩) (fun r s' => r = .ok (.ret (.bool true)) ∧ OldK s₁.heap s'.heap ∧ s'.os = s₁.os ∧ AllBare s'.gens) s₁ := by
    intro H hO hS hok hA hK
    have base_of : ∀ {b : Addr} {o : Obj}, s₁.heap.get? b = some o → H b = none → (hidT s₁.heap H).get? b = some o := fun e n => hidT_get e n
    have noA : ∀ {b : Addr} {o : Obj} {es : Array DictEntry} {ep : Nat}, s₁.heap.get? b = some o → o.data = .dict es ep → H b = none := fun {b o es ep} e d => by
      cases q : H b with
      | none => rfl
      | some u =>
        have e' : b = a := hA b (by rw [q]; simp)
        subst e'
        rw [ha] at e; cases e
        have d' : Data.seq vs.toArray _ = Data.dict es ep := d
        cases d'
    have nsK : ∀ {b : Addr} {m : Str → Option Value}, s₁.heap.Ns b m → (hidT s₁.heap H).Ns b m := fun {b m} ⟨o, es, ep, e, d, r⟩ => ⟨o, es, ep, base_of e (noA e d), d, r⟩
    have hKb : K.In (hidT s₁.heap H) := fun b o e => base_of (KX b o e) (by
      cases q : H b with
      | none => rfl
      | some u =>
        have e' : b = a := hA b (by rw [q]; simp)
        subst e'
        rw [hK (by rw [q]; simp)] at e; cases e)
    have hM : Mod K mg (hidT s₁.heap H) := ⟨hKb, nsK hns, ⟨mb, nsK hb, hbb⟩, let ⟨mc, h1, h2⟩ := hlim; ⟨mc, nsK h1, h2⟩⟩
    have e0 : Env0 P w K mg (hidT s₁.heap H) callerA [] s₁ H := ⟨rfl, hM, fun b o e => of_hidT e, Nat.le_of_eq (hidT_size _ _), trivial, fun b hb => absurd (show b ∈ ([] : List Addr) from hb) (by simp), hok, .of_eq hg⟩
    refine codeAny_mono ((F _ hKb (nsK hns)).run callerA [] s₁ H ⟨[.ref a], []⟩ [.ref a] [.ref a] _ _ rfl hr e0 (hbind s₁ (.ref a)) (.cons rfl .nil) (hsp H hO hS)) fun r s' h => ?_
    cases r with
    | error e => exact (hCX H e s' h).elim
    | ok fl =>
      cases fl with
      | next => exact False.elim h
      | brk => exact False.elim h
      | cont => exact False.elim h
      | ret u =>
        obtain ⟨v, H', os, bare, un, hok', r', q⟩ := h
        have q' : v = .bl true := q
        subst q'
        obtain rfl : u = Value.bool true := r'
        refine ⟨rfl, OldK.of_keep fun b o e => ?_, os, bare⟩
        cases q : H b with
        | none => exact un.keep b o e q (by intro z; exact absurd (show b ∈ ([] : List Addr) from z) (by simp)) (by simp)
        | some u =>
          rcases hO b with z | ⟨ob, xs, z⟩
          · rw [q] at z; cases z
          · have z2 := un.frzs b ob _ z
            obtain ⟨e1, _⟩ := hok b _ z
            obtain ⟨e2, _⟩ := hok' b _ z2
            rw [e] at e1; cases e1
            exact e2
  cases hk : K.lookup a with
  | some o =>
    have e := KX a o hk
    rw [ha] at e
    cases e
    refine core (fun _ => none) (fun _ => .inl rfl) (.inr ⟨_, vs.toArray, _, hk, rfl, rfl, rfl, by rw [List.size_toArray, lenV]; exact hl, by simpa using rv⟩) (fun b u z => by have z' : (none : Option HO) = some u := z; cases z') (fun b z => absurd rfl z) fun z => absurd rfl z
  | none =>
    refine core (fun b => if b = a then some (.frz { cls := .type "list", data := .seq vs.toArray } (.lst (ns.map V.int))) else none) (fun b => ?_) (.inl (.inr ⟨{ cls := .type "list", data := .seq vs.toArray }, if_pos rfl⟩)) (fun b u z => ?_) (fun b z => ?_) fun _ => hk
    · by_cases hb : b = a
      · exact .inr ⟨_, _, if_pos hb⟩
      · exact .inl (if_neg hb)
    · by_cases hb : b = a
      · have z' := (if_pos hb).symm.trans z
        cases z'
        subst hb
        exact ⟨ha, by rw [List.length_map]; exact hl, vs, _, rv, ha⟩
      · have z' := (if_neg hb).symm.trans z
        cases z'
    · by_cases hb : b = a
      · exact hb
      · exact absurd (if_neg hb) z

theorem walk_ofG {l : PySem.W.OpenLaw} {n k : Nat} {q : Program} {loose : List Str} {XP : (Str → Option Value) → Heap → Prop} {YP : World → Heap → Prop} {d : DefRec} {K : Params → PySem.W.Frag} {CX : World → CXT} {sp : World → Sp} {x : Str}
    (hn : l.most = some n) (hn2 : n ≤ sizeLine) (hdf : d.params.defaults = []) (hr : Room k callerA)
    (hY : ∀ (w : World) (h : Heap), YP w h → (K w.params).In h)
    (F : ∀ (w : World) (mg : Str → Option Value) (fa : Addr) (h : Heap), (K w.params).In h → h.Ns mainGlobals mg → mg d.name = some (.ref fa) →
      ∃ fd : FuncData, (∀ (s : Shared) (u : Value), BindsTo s fd ⟨[u], []⟩ [(x, u)]) ∧
        ∀ base : Heap, (K w.params).In base → base.Ns mainGlobals mg → FnG l.prog w (K w.params) mg base (CX w) k fa fd [x] (sp w))
    (hsp : ∀ (w : World) (H : Hp) (a : Addr) (ns : List Int), ns.length ≤ n → Only H → SqL (K w.params) H a (ns.map V.int) → sp w [.ref a] H (fun v _ => v = .bl true) fun _ _ _ => False)
    (hCX : ∀ (w : World) (H : Hp) (s : Shared) (e : Value) (s' : Shared), CX w [] H s (fun _ _ _ => False) e s' → False) :
    PySem.W.WalkO q loose XP YP l.row.toRowW d [] (fun f vs => PySem.call f vs) := by
  refine Att.attach_call hn hdf fun w s₀ s₁ mg mb fa o pm cd doc a vs ns G Y ho hd hcd hmg hobj hints hlen hg => ?_
  have KX := hY w _ Y
  obtain ⟨fd, hb, hF⟩ := F w mg fa _ KX G.T.g hmg
  exact law_callG KX G.T.g G.T.b G.T.builtins G.T.nolimit hg hobj hints (Nat.le_trans hlen hn2) hr hF hb (fun H hO hS => hsp w H a ns hlen hO hS) fun H e s' => hCX w H s₁ e s'

end Mv
/-! Either of list and tuple; what is not reached. -/
namespace Mv
open PySem PySem.Spec PyProof.Rows L2
section
variable {X : Cx}
def iEnumS (K : PySem.W.Frag) (ta : TA) : TI := fun σ H R => iEnum K ta σ H R ∨ iEnumU K ta σ H R
theorem pi_enumS {e : Expr} {ta : TA} {p pos tpos : Pos} {elts : List Expr} {kk : Nat} (hg : Gl X "enumerate") (hm : X.mg "enumerate" = none) (ha : PA X [e] ta) (hs : starEach [e] X.env = [(false, eval e X.env)] := by rfl) :
    PI X (.Tuple elts kk tpos) (.Call (.Name "enumerate" p) [e] [] pos) (iEnumS X.K ta) := pi_either (pi_enum hg hm ha hs) (pi_enumU hg hm ha hs)
def rSetS (K : PySem.W.Frag) (P : Program) (w : World) : List V → Hp → VK → Prop := fun xs H Q => rSetOfT K P w xs H Q ∨ rSetOfTU K P w xs H Q
theorem cr_setS (hc : X.calm = true) (hu : X.A.units + 64 < cLine) : CallR X (.type "set") (rSetS X.K X.prog X.w) := (cr_setOfT hc hu).or (cr_setOfTU hc hu)
def rSortS (K : PySem.W.Frag) (d : Nat) (B : Int) : List V → Hp → VK → Prop := fun xs H Q => rSortU K d B xs H Q ∨ rSortUU K d B xs H Q
theorem cr_sortS {d : Nat} {B : Int} (hd : 1 ≤ d) : CallR X (.builtin "sorted") (rSortS X.K d B) := (cr_sortT hd).or (cr_sortTU hd)
theorem pe_bm0K {K : PySem.W.Frag} (hK : X.K = K) {T id : String} {name : Str} {r : V → List V → Hp → VK → Prop} {o : Expr} {to : TE} {apos cpos : Pos} (pa : PlainAttrs T) (slot : Slot T name id) (hty : typeOf (.builtin id) = pure (.type "method_descriptor")) (hm : MtR X id r) (ho : PE X o to)
    (hbase : attributeBase o name X.env (eval o X.env) = eval o X.env := by rfl) (hline : (apos.endLine == cpos.line) = true := by rfl) : PE X (.Call (.Attribute o name apos) [] [] cpos) (tBM0 K T r to) := by
  subst hK
  exact pe_bm0 pa slot hty hm ho hbase hline
theorem pi_seqK {K : PySem.W.Frag} (hK : X.K = K) {tg l : Expr} {tl : TE} (h : PE X l tl) : PI X tg l (iSeq K tl) := by
  subst hK
  exact pi_seq h
def rTupOf (K : PySem.W.Frag) : List V → Hp → VK → Prop := fun xs H Q => ∃ p ys, xs = [.ref p] ∧ ((SqL K H p ys ∧ ∀ l, H l = none → Q (.ref l) (upd H l (.tup ys))) ∨ (SqT K H p ys ∧ Q (.ref p) H))
theorem ps_dead {st : Stmt} : PS X st (fun _ _ _ => False) := ⟨fun _ _ _ _ _ _ h => h.elim⟩
section
variable {CX : CXT} {k : Nat} {f : Addr} {fd : FuncData} {sp : Sp} {E : XK} {x y : Str} {p pos kpos : Pos} {e : Expr} {te : TE}
/-- f(y = e), the one parameter by its name -/
theorem pe_callK1 (F : FnOk X.prog X.w X.K X.mg X.base CX k f fd [y] sp) (hr : Room k X.A) (hg : Gl X x) (hm : X.mg x = some (.ref f)) (hk : PySem.W.keepIn X.K (.ref f) = true) (hb : ∀ (s : Shared) (u : Value), BindsTo s fd ⟨[], [(y, u)]⟩ [(y, u)]) (hx : Passes CX X E)
    (he : PE X e te) (hdb : (x == ("__debug__" : Str)) = false := by decide) :
    PE X (.Call (.Name x p) [] [⟨some y, e, kpos⟩] pos) (fun σ H Q => te σ H fun v H1 => sp [v] H1 Q E) := by
  refine ⟨fun pins s σ H Q I h => ?_⟩
  refine wpAny_Call_Name_kw (ld_glob I hg hm ?_ hdb)
  refine PySem.W.callWith_KW0 (h₀ := X.base) I.ok.mod.kin hk (by rfl) (thn ((pk_cons (nm := some y) (kpos := kpos) he pk_nil).run pos pins s σ H (fun zs H2 => ∃ v, zs = [v] ∧ sp [v] H2 Q E) I ?_) fun ws s2 ⟨zs, H2, I2, rz, v, ez, q2⟩ => ⟨I2.kIn, ?_⟩)
  · show te σ H _
    have : (fun v H1 => sp [v] H1 Q E) = (fun x H1 => tNil σ H1 fun xs H2 => ∃ v, x :: xs = [v] ∧ sp [v] H2 Q E) := by
      funext v H1
      exact propext ⟨fun h => ⟨v, rfl, h⟩, fun ⟨w, e, h⟩ => by cases e; exact h⟩
    rw [this] at h
    exact h
  · subst ez
    cases rz with
    | cons r1 rt =>
      cases rt
      rename_i w _
      show wpAny _ _ (call (.ref f) [] [(y, w)]) _ _ s2
      refine wpAny_call (codeAny_mono (F.run X.A X.stack s2 H2 ⟨[], [(y, w)]⟩ [w] [v] Q E hr I2.env0 (hb s2 w) (.cons r1 .nil) q2) fun r s' hq => ?_)
      cases r with
      | error e => exact hx pins σ H2 s2 e s' I2 hq
      | ok fl =>
        cases fl with
        | ret u => exact I2.after hq
        | next => exact False.elim hq
        | brk => exact False.elim hq
        | cont => exact False.elim hq
end
end
end Mv
/-! Texts of data, of dicts and of instances of own classes. -/
namespace Mv
open PySem PySem.Spec PyProof.Rows L2
section
variable {X : Cx} {e : Expr} {te : TE} {pos : Pos}
/-- {e!r}, e nested data -/
def tFmtD (K : PySem.W.Frag) (te : TE) : TE := fun σ H Q => te σ H fun x H1 => ∃ (a : Addr) (d : PyData), x = .ref a ∧ Dp K H1 (.ref a) d ∧ d.showable = true ∧ d.hasDict = false ∧ d.depth ≤ 60 ∧ d.shown.length ≤ sizeLine ∧ Q (.str d.shown) H1
theorem pe_fmtD (hg : X.A.guards = some []) (hu : X.A.units + 64 < cLine) (he : PE X e te) : PE X (.FormattedValue e 114 none pos) (tFmtD X.K te) := by
  refine ⟨fun pins s σ H Q I h => ?_⟩
  refine wpAny_FormattedValue_repr (thn (he.run pins s σ H _ I h) fun v s1 hv => ?_)
  obtain ⟨x, H1, I1, r1, a, d, rfl, hd, hs, hn, hz, hl, q⟩ := hv
  obtain rfl : v = Value.ref a := r1
  obtain ⟨as, rd⟩ := Dp.reads I1 d _ _ hd rfl
  exact pyReprObj_of_reads rd hs (fun z => by rw [hn] at z; cases z) hg (by omega) (fun b o e => e) (fun h' u tk k => wpAny_formatField_str ⟨.str d.shown, H1, I1.kept (t' := tk) k, ⟨_, rfl⟩, q⟩ ⟨.str d.shown, H1, I1.kept (t' := tk + 1) k, ⟨_, rfl⟩, q⟩ hl) hl
/-- repr(o), o an instance of the class at C whose own __repr__ keeps sp -/
def rReprO (C : Addr) (sp : Sp) (E : XK) : List V → Hp → VK → Prop := fun xs H Q => ∃ (a dx : Addr) (fs : List (Str × V)), xs = [.ref a] ∧ H a = some (.ins C dx fs) ∧ sp [.ref a] H (fun v H1 => ∃ y, v = .str y ∧ Q (.str y) H1) E
theorem call_reprO {CX : CXT} {k : Nat} {f C : Addr} {fd : FuncData} {sp : Sp} {E : XK} (m : Meth X.K C "__repr__" f) (Fg : FnG X.prog X.w X.K X.mg X.base CX k f fd ["self"] sp) (hgd : X.A.guards = some []) (hr : Room (k + 1) X.A) (hb : Binds X.K fd ["self"] []) (hx : Passes CX X E) :
    CallR X (.builtin "repr") (rReprO C sp E) := by
  intro pins s σ H xs us Q I r h
  obtain ⟨a, dx, fs, rfl, ea, q⟩ := h
  cases r with
  | cons ra rt =>
    cases rt
    cases ra
    obtain ⟨mA, O, rl, _, _, _⟩ := ins_get I.hok ea
    obtain ⟨od, J, _⟩ := O.look
    refine Calls.call_function_entry F.kind_repr F.plain_repr F.entry_repr (F.args_repr1 _) ?_
    unfold Builtin.«repr»
    refine wpAny_bind (m := oneArg "repr" _) (wpAny_pure ?_)
    refine wpAny_bind (m := cRoomFor _ _) (wpAny_cRoomFor (by show X.A.units + 1 < cLine; have := hr.un; omega) ?_)
    refine wpAny_bind (m := specialOf (.ref a) (Str.ofString "__repr__")) (wpAny_bind (J.type.here ((PySem.W.looks_findIn I.kIn m.at_).here ?_)))
    refine wpAny_bind (m := callSpecialIfBound? (.ref a) (Str.ofString "__repr__")) (PySem.W.ifBound_K I.kIn J m.at_ m.fn ?_)
    have hl : ([Value.ref a] : List Value).length = (["self"] : List Str).length := rfl
    refine wpAny_call (codeAny_mono (Fg.run X.A.in1 X.stack s H ⟨[.ref a], []⟩ [.ref a] [.ref a] _ E hgd hr.in1 I.env0.in1 (hb s [.ref a] I.kIn hl) (.cons rfl .nil) q) fun r s' hq => ?_)
    cases r with
    | error er => exact hx pins σ H s er s' I hq
    | ok fl =>
      cases fl with
      | ret u =>
        obtain ⟨v, H1, J1, rv, y, ev, q2⟩ := I.after hq
        subst ev
        obtain ⟨tk, rfl⟩ := rv
        refine wpAny_bind (wpAny_isInstance (T := "str") (b := true) rfl isSubtype_str_str ?_)
        exact wpAny_pure ⟨_, rfl, V.str y, H1, J1, ⟨tk, rfl⟩, q2⟩
      | next => exact False.elim hq
      | brk => exact False.elim hq
      | cont => exact False.elim hq
/-- repr(d), d a dict with keys that are ints and texts, its values data without dicts -/
def kD : Key → PyData
  | .inl i => .int i
  | .inr x => .str x
def rReprK (K : PySem.W.Frag) : List V → Hp → VK → Prop := fun xs H Q => ∃ (a : Addr) (kvs : List (Key × V)) (ds : List PyData), xs = [.ref a] ∧ H a = some (.dK kvs) ∧ DpAll K H (kvs.map (·.2)) ds ∧ PyData.hasDictAll ds = false ∧
  (PyData.dict ((kvs.map fun p => kD p.1).zip ds)).showable = true ∧ (PyData.dict ((kvs.map fun p => kD p.1).zip ds)).depth ≤ 60 ∧ (PyData.dict ((kvs.map fun p => kD p.1).zip ds)).shown.length ≤ sizeLine ∧ Q (.str (PyData.dict ((kvs.map fun p => kD p.1).zip ds)).shown) H
theorem reads_keys {P : Program} {w : World} {h : Heap} {es : List DictEntry} {vs : List (Key × Value)} (p : Pairs (mixKind P w) es vs) : ReadsAll h (es.map (·.key)) (vs.map fun q => kD q.1) [] := by
  induction p with
  | nil => exact .nil
  | @cons e kv es kvs h1 h2 t ih =>
    have hk : Reads h e.key (kD kv.1) [] := by
      rcases keyIs_shape h1 with ⟨i, t, e1, e2⟩ | ⟨x, t, e1, e2⟩
      · rw [e1, e2]
        exact .int i t
      · rw [e1, e2]
        exact .str x t
    exact ReadsAll.cons (as := []) (bs := []) hk ih
theorem pairs_vals {P : Program} {w : World} {es : List DictEntry} {vs : List (Key × Value)} (p : Pairs (mixKind P w) es vs) : es.map (·.val) = vs.map (·.2) := by
  induction p with
  | nil => rfl
  | cons h1 h2 t ih => rw [List.map_cons, List.map_cons, h2, ih]
theorem kv_keys {kvs : List (Key × V)} {vs : List (Key × Value)} (h : KV kvs vs) : (kvs.map fun p => kD p.1) = vs.map fun q => kD q.1 := by
  unfold KV at h
  induction h with
  | nil => rfl
  | cons a b ih => rw [List.map_cons, List.map_cons, ih, a.1]
theorem kv_vals {kvs : List (Key × V)} {vs : List (Key × Value)} (h : KV kvs vs) : Vals (kvs.map (·.2)) (vs.map (·.2)) := by
  unfold KV at h
  induction h with
  | nil => exact .nil
  | cons a b ih => exact .cons a.2 ih
theorem noDict_keys : ∀ l : List (Key × V), PyData.hasDictAll (l.map fun p => kD p.1) = false
  | [] => rfl
  | ⟨.inl i, v⟩ :: l => by
    show (_ || _) = false
    rw [noDict_keys l] <;> rfl
  | ⟨.inr i, v⟩ :: l => by
    show (_ || _) = false
    rw [noDict_keys l] <;> rfl
theorem zip_fst {α β : Type} : ∀ (l : List α) (m : List β), l.length = m.length → (l.zip m).map (·.1) = l
  | [], _, _ => rfl
  | a :: l, [], h => nomatch h
  | a :: l, b :: m, h => by rw [List.zip_cons_cons, List.map_cons, zip_fst l m (Nat.succ.inj h)]
theorem zip_snd {α β : Type} : ∀ (l : List α) (m : List β), l.length = m.length → (l.zip m).map (·.2) = m
  | [], [], _ => rfl
  | [], b :: m, h => nomatch h
  | a :: l, [], h => nomatch h
  | a :: l, b :: m, h => by rw [List.zip_cons_cons, List.map_cons, zip_snd l m (Nat.succ.inj h)]
theorem dpAll_length {K : PySem.W.Frag} {H : Hp} : ∀ {vs : List V} {ds : List PyData}, DpAll K H vs ds → vs.length = ds.length
  | _, _, .nil => rfl
  | _, _, .cons _ t => congrArg (· + 1) (dpAll_length t)
theorem call_reprK (hg : X.A.guards = some []) (hu : X.A.units + 64 < cLine) : CallR X (.builtin "repr") (rReprK X.K) := by
  intro pins s σ H xs us Q I r h
  obtain ⟨a, kvs, ds, rfl, ea, hd, hnd, hs, hz, hl, q⟩ := h
  cases r with
  | cons ra rt =>
    cases rt
    cases ra
    obtain ⟨_, hsys, vs, kv, o, es, ep, ho, ex, hdat, hks, hp, hnp⟩ := (show ObjOk X.prog X.w H s.heap a (.dK kvs) from I.hok a _ ea)
    have hlen : (kvs.map fun p => kD p.1).length = ds.length := by
      rw [List.length_map]
      have z := dpAll_length hd
      rw [List.length_map] at z
      exact z
    obtain ⟨bs, hv⟩ := Dp.readsAll I ds _ _ hd (kv_vals kv)
    rw [← pairs_vals hp] at hv
    have hk := reads_keys (h := s.heap) hp
    rw [← kv_keys kv] at hk
    have hcls : o.cls = .type "dict" := ex.1
    generalize hkvs : (kvs.map fun p => kD p.1).zip ds = kvd at hs hz hl q
    have k1 : kvd.map (·.1) = kvs.map fun p => kD p.1 := by rw [← hkvs, zip_fst _ _ hlen]
    have k2 : kvd.map (·.2) = ds := by rw [← hkvs, zip_snd _ _ hlen]
    have h4 : ReadsAll s.heap (es.toList.map (·.key)) (kvd.map (·.1)) [] := by rw [k1]; exact hk
    have h5 : ReadsAll s.heap (es.toList.map (·.val)) (kvd.map (·.2)) bs := by rw [k2]; exact hv
    have n1 : PyData.hasDictAll (kvd.map (·.1)) = false := by rw [k1]; exact noDict_keys kvs
    have n2 : PyData.hasDictAll (kvd.map (·.2)) = false := by rw [k2]; exact hnd
    have hz' : (dictText (PyData.shownKv kvd)).length ≤ sizeLine := by simpa only [PyData.shown] using hl
    obtain ⟨hs1, hs2⟩ := PyData.showableKv_split kvd (by simpa [PyData.showable] using hs)
    obtain ⟨b1, hb1, c1⟩ := ReprAllK.of_readsAll (prog := X.prog) (w := X.w) h4 hs1 (fun z => by rw [n1] at z; cases z) (fun t ht => let ⟨p, hp, hl⟩ := PyData.shownKv_key_le kvd t ht; Nat.le_trans hl (Nat.le_trans (dictText_mem_le hp) hz'))
    obtain ⟨b2, hb2, c2⟩ := ReprAllK.of_readsAll (prog := X.prog) (w := X.w) h5 hs2 (fun z => by rw [n2] at z; cases z) (fun t ht => let ⟨p, hp, hl⟩ := PyData.shownKv_val_le kvd t ht; Nat.le_trans hl (Nat.le_trans (dictText_mem_le hp) hz'))
    have hb : ReadAtMost s.heap (PyData.depthKv kvd) (b1 ++ b2) := (hb1.mono (PyData.depthAll_keys_le kvd)).append (hb2.mono (PyData.depthAll_vals_le kvd))
    have hna : a ∉ b1 ++ b2 := not_mem_of_deeper (.dict ho hcls hdat h4 h5) (by simp only [PyData.depth]; omega) hb
    have hT : s.TypeIs (.ref a) "dict" := ⟨o, ho, hcls⟩
    refine call_repr_slot (by omega) hT F.slot_dict_repr (call_dict_reprK ho hcls hdat hsys hna (ReprEntriesK.of_two es.toList _ _
      (c1.more_le (fun b hb => List.mem_append_left _ hb) (PyData.depthAll_keys_le kvd)) (c2.more_le (fun b hb => List.mem_append_right _ hb) (PyData.depthAll_vals_le kvd))) hg (fun b _ => Clear.nil b) ?_ (fun b o e => e) (fun h' u tk k => ⟨_, _, rfl, V.str (PyData.dict kvd).shown, H, I.kept k, ⟨u, ?_⟩, q⟩) (by rw [← PyData.shownKv_eq]; exact hz'))
    · show X.A.units + 1 + (PyData.depthKv kvd + 1) < cLine
      simp only [PyData.depth] at hz
      omega
    · simp only [PyData.shown, PyData.shownKv_eq]
end
end Mv
/-! Exception classes as the top has written them: what follows of each. -/
namespace Mv
open PySem PySem.Spec PyProof.Rows L2
/-- a base class without an __init__ of its own -/
structure BsF (K : PySem.W.Frag) (mg : Str → Option Value) (x : Str) (S : Addr) (tail : List Value) (iI : String) : Prop where
  m : mg x = some (.ref S)
  lk : ∃ nm q N bs sn sub ab col dd k0 k1 k2 k3 k5 nI, K.lookup S = some (excClassObj nm q S N bs tail true sn sub ab col dd k0 k1 k2 k3 k5 nI)
  rd : PySem.W.readsIn K S (.type "type") = true
  ga : PySem.W.specialIn K (.ref S) "__getattribute__" = some (some (.builtin "type.__getattribute__"))
  fc : PySem.W.findCls K (.ref S) (.type "type") "__init__" = some (.val (.builtin iI))
/-- an exception class with an __init__ that keeps its arguments -/
structure ExF (K : PySem.W.Frag) (mg : Str → Option Value) (x q : Str) (st : Stmt) (C fI : Addr) (fd : FuncData) (fs : List Str) (mro : List Value) (nI : String) : Prop where
  m : mg x = some (.ref C)
  lk : ∃ nm q N bs sn sub ab col dd k0 k1 k2 k3 k5, K.lookup C = some (excClassObj nm q C N bs mro true sn sub ab col dd k0 k1 k2 k3 k5 nI)
  sa : PySem.W.findIn K (.ref C) "__setattr__" = some (some (.builtin "object.__setattr__"))
  ga : PySem.W.findIn K (.ref C) "__getattribute__" = some (some (.builtin "BaseException.__getattribute__"))
  gg : PySem.W.findIn K (.ref C) "__getattr__" = some none
  iC : PySem.W.findIn K (.ref C) "__init__" = some (some (.ref fI))
  tI : PySem.W.typeIn K (.ref fI) = some (.type "function")
  kC : PySem.W.keepIn K (.ref C) = true
  no : ∀ f ∈ fs, PySem.W.findIn K (.ref C) f = some none
  ha : PySem.W.findIn K (.ref C) "__class__" = some (some (.builtin "object.__class__"))
  fn : Fun K "__init__" q st fI fd
  bd : Binds K fd ("self" :: fs) []
  kb : KBn K fd ("self" :: fs) 1 fs.reverse (fun us ws => us ++ ws.reverse) (fun vs zs => vs ++ zs.reverse)
section
variable {K : PySem.W.Frag} {mg : Str → Option Value} {x q : Str} {st : Stmt} {C fI S : Addr} {fd : FuncData} {fs : List Str} {mro tail : List Value} {nB nI iB iI : String}
theorem cls_of {nm q : Str} {N : Addr} {bs bm : List Value} {sn : List Str} {sub : List Value} {ab : Bool} {col : Option Bool} {dd : Option Addr} {k0 k1 k2 k3 k5 : Option Value} (hC : K.lookup C = some (excClassObj nm q C N bs bm true sn sub ab col dd k0 k1 k2 k3 k5 nI)) :
    PySem.W.clsIn K C = some { name := nm, bases := bs, mro := .ref C :: bm, ns := N, qualname := q, hasDict := true, slotNames := sn, subclasses := sub, abstract := ab, collection := col, hasDel := false } := by unfold PySem.W.clsIn; rw [hC] <;> rfl
theorem sub_of {nm q : Str} {N : Addr} {bs bm : List Value} {sn : List Str} {sub : List Value} {ab : Bool} {col : Option Bool} {dd : Option Addr} {k0 k1 k2 k3 k5 : Option Value} (hC : K.lookup C = some (excClassObj nm q C N bs bm true sn sub ab col dd k0 k1 k2 k3 k5 nI)) (v : Value) :
    PySem.W.subIn K (.ref C) v = some ((Value.ref C :: bm).contains v) := by
  show PySem.W.mroIn K C v = _
  unfold PySem.W.mroIn
  rw [cls_of hC] <;> rfl
theorem typ_of {nm q : Str} {N : Addr} {bs bm : List Value} {sn : List Str} {sub : List Value} {ab : Bool} {col : Option Bool} {dd : Option Addr} {k0 k1 k2 k3 k5 : Option Value} (hC : K.lookup C = some (excClassObj nm q C N bs bm true sn sub ab col dd k0 k1 k2 k3 k5 nI)) :
    PySem.W.typeIn K (.ref C) = some (.type "type") := by
  show (K.lookup C).map (·.cls) = _
  rw [hC] <;> rfl
theorem exm_of' {nm q : Str} {N : Addr} {bs bm : List Value} {sn : List Str} {sub : List Value} {ab : Bool} {col : Option Bool} {dd : Option Addr} {k0 k1 k2 k3 k5 : Option Value} (hC : K.lookup C = some (excClassObj nm q C N bs bm true sn sub ab col dd k0 k1 k2 k3 k5 nI)) (hb : bm.contains (.type "BaseException") = true) (cls : Value) :
    PySem.W.exmOne K cls (.ref C) = PySem.W.subIn K cls (.ref C) := by
  have e1 : (PySem.W.subIn K (.ref C) (.type "BaseException") == some true) = true := by rw [sub_of hC, List.contains_cons, hb, Bool.or_true] <;> rfl
  have e2 : ((PySem.W.clsIn K C).isSome && PySem.W.typeIn K (.ref C) == some (.type "type")) = true := by rw [cls_of hC, typ_of hC] <;> rfl
  show (if (PySem.W.subIn K (.ref C) (.type "BaseException") == some true) = true then (if ((PySem.W.clsIn K C).isSome && PySem.W.typeIn K (.ref C) == some (.type "type")) = true then PySem.W.subIn K cls (.ref C) else none) else none) = _
  rw [if_pos e1, if_pos e2]
theorem ExF.sub (F : ExF K mg x q st C fI fd fs mro nI) (v : Value) : PySem.W.subIn K (.ref C) v = some ((Value.ref C :: mro).contains v) := by
  obtain ⟨_, _, _, _, _, _, _, _, _, _, _, _, _, _, hC⟩ := F.lk
  exact sub_of hC v
theorem ExF.exm (F : ExF K mg x q st C fI fd fs mro nI) (hb : mro.contains (.type "BaseException") = true) (cls : Value) : PySem.W.exmOne K cls (.ref C) = PySem.W.subIn K cls (.ref C) := by
  obtain ⟨_, _, _, _, _, _, _, _, _, _, _, _, _, _, hC⟩ := F.lk
  exact exm_of' hC hb cls
theorem BsF.exm (F : BsF K mg x S tail iI) (hb : tail.contains (.type "BaseException") = true) (cls : Value) : PySem.W.exmOne K cls (.ref S) = PySem.W.subIn K cls (.ref S) := by
  obtain ⟨_, _, _, _, _, _, _, _, _, _, _, _, _, _, _, hC⟩ := F.lk
  exact exm_of' hC hb cls
theorem ExF.oe (F : ExF K mg x q st C fI fd fs mro nI) (B : ExBs mro nB nI iB iI) (hb : mro.contains (.type "BaseException") = true) : OeX K C iB iI := by
  obtain ⟨nm, q, N, bs, sn, sub, ab, col, dd, k0, k1, k2, k3, k5, hC⟩ := F.lk
  exact ⟨⟨nm, q, N, bs, mro, sn, sub, ab, col, dd, k0, k1, k2, k3, k5, nB, nI, hC, B⟩, F.sa, by rw [sub_of hC, List.contains_cons, hb, Bool.or_true], typ_of hC, F.kC⟩
theorem ExF.xf (F : ExF K mg x q st C fI fd fs mro nI) (hb : mro.contains (.type "BaseException") = true) : XfC K C := by
  obtain ⟨nm, q, N, bs, sn, sub, ab, col, dd, k0, k1, k2, k3, k5, hC⟩ := F.lk
  exact ⟨F.ga, F.gg, by rw [sub_of hC, List.contains_cons, hb, Bool.or_true], by unfold PySem.W.hasDictIn; rw [cls_of hC] <;> rfl⟩
theorem ExF.exc (F : ExF K mg x q st C fI fd fs mro nI) (hb : mro.contains (.type "BaseException") = true) (ho : mro.contains (.type "object") = true) (hn : PySem.W.specialIn K (.builtin "object.__class__") "__get__" = some (some (.builtin "getset_descriptor.__get__"))) (ht : PySem.W.takesIn K (.builtin "object.__class__") = some true) : ExcC K C := by
  obtain ⟨nm, q, N, bs, sn, sub, ab, col, dd, k0, k1, k2, k3, k5, hC⟩ := F.lk
  exact ⟨F.ga, F.gg, by rw [sub_of hC, List.contains_cons, hb, Bool.or_true], by unfold PySem.W.hasDictIn; rw [cls_of hC] <;> rfl, F.ha, hn, ht, by
    have z := sub_of hC (.type "object")
    rw [List.contains_cons, ho, Bool.or_true] at z
    exact z⟩
theorem BsF.bi (F : BsF K mg x S tail iI) (hd : PySem.W.handedIn (.builtin iI) = true) : BaseI K mg x iI := ⟨⟨S, .type "type", F.m, ⟨F.rd, F.ga⟩, F.fc⟩, hd⟩
theorem ExF.t {P : Program} {w : World} {base : Heap} (F : ExF K mg x q st C fI fd fs mro nI) (B : ExBs mro nB nI iB iI) (hb : mro.contains (.type "BaseException") = true) (F1 : FnOk P w K mg base CX0 1 fI fd ("self" :: fs) (sp_in C fs)) : ExT P w K mg base x C fs :=
  ⟨F.m, F.xf hb, F.no, fI, fd, iB, iI, F.oe B hb, F.iC, F.tI, F1, F.bd, F.kb⟩
theorem kit_of (F : ExF K mg x q st C fI fd fs mro nI) (T : String) (hk : PySem.W.kitMeta T = true) : PySem.W.kitOne K (.ref C) (.type T) = some (mro.contains (.type T)) := by
  have e : (Value.ref C == Value.type T) = false := rfl
  show (if (Value.ref C == Value.type T) = true then some true else (if PySem.W.kitMeta T = true then PySem.W.subIn K (.ref C) (.type T) else none)) = _
  rw [e, if_neg Bool.false_ne_true, if_pos hk, F.sub, List.contains_cons] <;> rfl
end
end Mv
/-! combinations(list, r): the object, its items (at the model's level). -/
namespace Cmb
open PySem PySem.Spec
open Sem (wp)
theorem mro_cmb : mroOf (.type "itertools.combinations") = pure [.type "itertools.combinations", .type "object"] := by rw [mroOf_type]; kernel_rfl
theorem look_new : typeLookup (.type "itertools.combinations") "__new__" = pure (some (.builtin "itertools.combinations.__new__")) := by rw [typeLookup_type, builtinLookup_eq_fast]; kernel_rfl
theorem sub_cmb : isSubtype (.type "itertools.combinations") (.type "itertools.combinations") = pure true := by rw [isSubtype_type]; kernel_rfl
theorem slot_init : Slot "itertools.combinations" "__init__" "object.__init__" := .of (owner := "object") (n := "__init__") (by rw [typeLookup_type, builtinLookup_eq_fast]; kernel_rfl) (by decide +kernel) (by decide +kernel) (by decide +kernel) (by first | exact .inl (by decide +kernel) | exact .inr (by decide +kernel)) (by rw [isSubtype_type]; kernel_rfl)
theorem called : TypeCalled "itertools.combinations" "itertools.combinations.__new__" "object.__init__" := ⟨by decide +kernel, by decide +kernel, ⟨_, _, mro_cmb⟩, madeBy_type mro_cmb look_new (by decide +kernel), by decide +kernel, sub_cmb, slot_init⟩
theorem tcall (a b : Value) : checkTypeCall "itertools.combinations" ⟨[a, b], []⟩ = pure () := by kernel_rfl
theorem ncall (a b : Value) : checkBuiltinCall "itertools.combinations.__new__" ⟨[.type "itertools.combinations", a, b], []⟩ = pure () := by kernel_rfl
theorem entry_new : entryFor table "itertools.combinations.__new__" = some Builtin.«itertools.combinations.__new__» := entryFor_of_tree (by kernel_rfl)
theorem slot_iter : Slot "itertools.combinations" "__iter__" "itertools.combinations.__iter__" := .of (owner := "itertools.combinations") (n := "__iter__") (by rw [typeLookup_type, builtinLookup_eq_fast]; kernel_rfl) (by decide +kernel) (by decide +kernel) (by decide +kernel) (by first | exact .inl (by decide +kernel) | exact .inr (by decide +kernel)) sub_cmb
theorem slot_next : Slot "itertools.combinations" "__next__" "itertools.combinations.__next__" := .of (owner := "itertools.combinations") (n := "__next__") (by rw [typeLookup_type, builtinLookup_eq_fast]; kernel_rfl) (by decide +kernel) (by decide +kernel) (by decide +kernel) (by first | exact .inl (by decide +kernel) | exact .inr (by decide +kernel)) sub_cmb
theorem entry_iter : entryFor table "itertools.combinations.__iter__" = some Builtin.«dict_keyiterator.__iter__» := entryFor_alias (id' := "dict_keyiterator.__iter__") (by kernel_rfl) (by first | rfl | decide +kernel | (unfold String.splitOn; simp +decide [String.splitOnAux])) (by decide +kernel) (by kernel_rfl)
theorem entry_next : entryFor table "itertools.combinations.__next__" = some Builtin.«itertools.combinations.__next__» := entryFor_of_tree (by kernel_rfl)
theorem noDict : typeHasDict (.type "itertools.combinations") = false := by decide +kernel
theorem owner_cmb : Manifest.owners.lookup (String.ofList ("itertools.combinations".toList.reverse.reverse)) = some Manifest.sig_itertools_combinations := by kernel_rfl
end Cmb
namespace Cmb
open PySem PySem.Spec
open Sem (wp)
open AutoSeq1 (wpAny_loadPart')
/-- the fields of such an object: the pool, how it stands, what was handed out last, the places -/
def flds (T : Addr) (st : Int) (last : Value) (ix : List Nat) : Array Value := ([.ref T, rawInt st, last] ++ ix.map fun (i : Nat) => rawInt i).toArray
theorem bind_named (a b : Value) : Builtin.Itertools.itBindNamed "combinations" ["iterable", "r"] 2 2 [a, b] [] = pure [some a, some b] := by kernel_rfl
theorem e_name : ("itertools." ++ "combinations" : String) = "itertools.combinations" := by decide
theorem meets_new (l : Addr) (o : Obj) (items : Array Value) (n : Nat) (r : Nat) (t : Tok) (hr : r < 1000) (hc : o.cls = .type "list") (hd : o.data = .seq items n) (hsz : items.size ≤ sizeLine) :
    Meets (Builtin.«itertools.combinations.__new__» ⟨[.type "itertools.combinations", .ref l, .int r t], []⟩)
      (fun _ R s => s.heap.get? l = some o ∧ ∀ h' : Heap, (∀ b o', s.heap.get? b = some o' → h'.get? b = some o') →
        R (.ok (.ret (.ref (h'.objs.size + 1)))) { s with heap := (h'.push { cls := .type "tuple", data := .seq items }).push { cls := .type "itertools.combinations", data := .fields (flds h'.objs.size (if r > items.size then 2 else 0) .none (List.range r)) } }) :=
  .of_wp fun prog w A R s h => by
    obtain ⟨hp, g, d, tk, os⟩ := s; obtain ⟨ht, h⟩ := h
    have hsub := sub_cmb
    have hdd := noDict
    have hT : Shared.TypeIs ⟨hp, g, d, tk, os⟩ (.ref l) "list" := ⟨o, ht, hc⟩
    have hn : ¬ ((decide ((r : Int) < -(2 ^ 63 : Int)) || decide ((r : Int) ≥ (2 ^ 63 : Int))) = true) := by
      have a : decide ((r : Int) < -(2 ^ 63 : Int)) = false := decide_eq_false (by omega)
      have b : decide ((r : Int) ≥ (2 ^ 63 : Int)) = false := decide_eq_false (by omega)
      rw [a, b]
      decide
    wp_walk using wpAny_loadPart' ht, wpAny_typeOf hT, wpAny_collect_seq (hsz := hsz) l (.inl rfl) ht hc hd
    rw [e_name]
    refine wpAny_of_eq hsub ?_
    show wpAny _ _ (pure (Value.type "itertools.combinations", [Value.ref l, Value.int (↑r) t])) _ _ _
    refine wpAny_pure ?_
    show wpAny _ _ (Builtin.Itertools.itBindNamed "combinations" ["iterable", "r"] 2 2 [.ref l, .int r t] [] >>= _) _ _ _
    refine wpAny_bind (wpAny_of_eq (bind_named _ _) ?_)
    show wpAny _ _ (Builtin.Itertools.itSsizeArg (.int r t) >>= _) _ _ _
    refine wpAny_bind ?_
    show wpAny _ _ (asIndex (.int r t) >>= _) _ _ _
    refine wpAny_bind (wpAny_of_eq (a := (r : Int)) (by rfl) ?_)
    refine wpAny_ite_false (decide_eq_false hn) ?_
    show wpAny _ _ (pure (r : Int)) _ _ _
    refine wpAny_pure ?_
    show wpAny _ _ (collect (.ref l) >>= _) _ _ _
    refine wpAny_bind (wpAny_collect_seq (hsz := hsz) l (.inl rfl) ht hc hd fun h' hk => ?_)
    refine wpAny_ite_false (decide_eq_false (show ¬ ((r : Int) < 0) by omega)) ?_
    refine wpAny_ite_false (decide_eq_false (show ¬ (Builtin.Itertools.itTooMany (r : Int) = true) from ?_)) ?_
    · show ¬ (decide ((r : Int) > 2 ^ 20) = true)
      rw [decide_eq_false (by omega)]
      decide
    show wpAny _ _ (newTuple items.toList >>= _) _ _ _
    refine wpAny_bind (wpAny_newObj_type ?_ (by show items.toList.toArray.size ≤ sizeLine; simpa using hsz))
    refine wpAny_pure ?_
    show wpAny _ _ (Builtin.Itertools.itNewRecord _ _ >>= _) _ _ _
    refine wpAny_bind ?_
    unfold Builtin.Itertools.itNewRecord
    rw [hdd]
    show wpAny _ _ (newObj (.type "itertools.combinations") (.fields _)) _ _ _
    refine wpAny_newObj_type ?_ ?_
    · refine wpAny_pure ?_
      show ∃ v, _ = Fin.done (Flow.ret v) ∧ _
      refine ⟨_, rfl, ?_⟩
      have z := h h' hk
      have e1 : items.toList.toArray = items := by simp
      have e2 : items.toList.length = items.size := by simp
      have e3 : ((r : Int)).toNat = r := Int.toNat_natCast r
      rw [e1, e2, e3]
      show R (.ok (.ret (.ref (h'.push _).objs.size))) _
      rw [Heap.size_push]
      exact z
    · simp only [sizeOk]
      trace_state
      rw [List.size_toArray, List.length_append, List.length_map, List.length_range, Int.toNat_natCast]
      show 3 + r ≤ 2 ^ 24 + 2
      omega
end Cmb
namespace Cmb
open PySem PySem.Spec
open Sem (wp)
/-- the places of each choice of r out of n, in turn -/
def combs : Nat → Nat → List (List Nat)
  | _, 0 => [[]]
  | 0, _ + 1 => []
  | n + 1, r + 1 => ((combs n r).map fun c => 0 :: c.map (· + 1)) ++ (combs n (r + 1)).map fun c => c.map (· + 1)
theorem args_iter (a : Value) : argsOk "itertools.combinations.__iter__" ⟨[a], []⟩ := by
  unfold argsOk; rw [signature?_of (id := "itertools.combinations.__iter__") (n := ['_', '_', 'r', 'e', 't', 'i', '_', '_']) (o := ['s', 'n', 'o', 'i', 't', 'a', 'n', 'i', 'b', 'm', 'o', 'c', '.', 's', 'l', 'o', 'o', 't', 'r', 'e', 't', 'i']) (by kernel_rfl) owner_cmb]; kernel_rfl
theorem args_next (a : Value) : argsOk "itertools.combinations.__next__" ⟨[a], []⟩ := by
  unfold argsOk; rw [signature?_of (id := "itertools.combinations.__next__") (n := ['_', '_', 't', 'x', 'e', 'n', '_', '_']) (o := ['s', 'n', 'o', 'i', 't', 'a', 'n', 'i', 'b', 'm', 'o', 'c', '.', 's', 'l', 'o', 'o', 't', 'r', 'e', 't', 'i']) (by kernel_rfl) owner_cmb]; kernel_rfl
/-- such an object as it lies -/
abbrev IsC (h : Heap) (it T : Addr) (st : Int) (last : Value) (ix : List Nat) : Prop := h.get? it = some { cls := .type "itertools.combinations", dict := none, data := .fields (flds T st last ix), slots := #[] }
theorem flds0 (T : Addr) (st : Int) (last : Value) (ix : List Nat) : (flds T st last ix)[0]? = some (.ref T) := by simp [flds]
theorem flds1 (T : Addr) (st : Int) (last : Value) (ix : List Nat) : (flds T st last ix)[1]? = some (rawInt st) := by simp [flds]
theorem flds2 (T : Addr) (st : Int) (last : Value) (ix : List Nat) : (flds T st last ix)[2]? = some last := by simp [flds]
theorem fldsz (T : Addr) (st : Int) (last : Value) (ix : List Nat) : (flds T st last ix).size = 3 + ix.length := by
  unfold flds
  rw [List.size_toArray, List.length_append, List.length_map] <;> rfl
theorem set1 (T : Addr) (st st' : Int) (last : Value) (ix : List Nat) : (flds T st last ix).setIfInBounds 1 (rawInt st') = flds T st' last ix := by
  unfold flds
  rw [List.setIfInBounds_toArray] <;> rfl
theorem set2 (T : Addr) (st : Int) (last last' : Value) (ix : List Nat) : (flds T st last ix).setIfInBounds 2 last' = flds T st last' ix := by
  unfold flds
  rw [List.setIfInBounds_toArray] <;> rfl
theorem setN (T : Addr) (st : Int) (last : Value) (ix ix' : List Nat) : (flds T st last ix).extract 0 3 ++ (ix'.map fun (n : Nat) => rawInt n).toArray = flds T st last ix' := by
  unfold flds
  simp
def recC (z : Array Value) : Option Obj := some { cls := .type "itertools.combinations", dict := none, data := .fields z, slots := #[] }
theorem upd1 {h : Heap} {it T : Addr} {st : Int} {last : Value} {ix : List Nat} (st' : Int) (hit : IsC h it T st last ix) : IsC (h.update it (Obj.mapFields fun x => x.setIfInBounds 1 (rawInt st'))) it T st' last ix := (Heap.get?_update_self _ hit rfl).trans (congrArg recC (set1 T st st' last ix))
theorem upd2 {h : Heap} {it T : Addr} {st : Int} {last : Value} {ix : List Nat} (v : Value) (hit : IsC h it T st last ix) : IsC (h.update it (Obj.mapFields fun x => x.setIfInBounds 2 v)) it T st v ix := (Heap.get?_update_self _ hit rfl).trans (congrArg recC (set2 T st last v ix))
theorem updN {h : Heap} {it T : Addr} {st : Int} {last : Value} {ix : List Nat} (ix' : List Nat) (hit : IsC h it T st last ix) : IsC (h.update it (Obj.mapFields fun fs => fs.extract 0 3 ++ (ix'.map fun (n : Nat) => rawInt n).toArray)) it T st last ix' := (Heap.get?_update_self _ hit rfl).trans (congrArg recC (setN T st last ix ix'))
section
variable {prog : Program} {w : World} {A : Around} {E : Value → Shared → Prop} {s : Shared}
theorem call_comb {l : Addr} {items : Array Value} {r : Nat} {t : Tok} {Q : Value → Shared → Prop} (hl : s.heap.IsList l items) (hr : r < 1000) (hsz : items.size ≤ sizeLine)
    (h : ∀ h0 : Heap, (∀ b o, s.heap.get? b = some o → h0.get? b = some o) → ∀ h' : Heap, IsC h' (h0.objs.size + 1) h0.objs.size (if r > items.size then 2 else 0) .none (List.range r) → h'.get? h0.objs.size = some { cls := .type "tuple", data := .seq items } → (∀ b o, h0.get? b = some o → h'.get? b = some o) → Q (.ref (h0.objs.size + 1)) { s with heap := h' }) :
    wpAny (model prog w) A (call (.type "itertools.combinations") [.ref l, .int r t]) Q E s := by
  obtain ⟨o, ho, hc, n, hd⟩ := hl
  refine callType_new called (by decide +kernel) (tcall _ _) (ncall _ _) (fun obj => F.args_object_init_3 obj _ _) entry_new (meets_new l o items n r t hr hc hd hsz) ⟨ho, fun h' hk => ?_⟩
  have e1 : (h'.push { cls := .type "tuple", data := .seq items }).objs.size = h'.objs.size + 1 := Heap.size_push ..
  have g1 := Heap.get?_push_size (h'.push { cls := .type "tuple", data := .seq items }) (o := { cls := .type "itertools.combinations", data := .fields (flds h'.objs.size (if r > items.size then 2 else 0) .none (List.range r)) }) rfl
  rw [e1] at g1
  exact ⟨⟨_, g1, rfl⟩, h h' hk _ g1 (Heap.get?_push_of_some _ (Heap.get?_push_size _ rfl)) fun b o q => Heap.get?_push_of_some _ (Heap.get?_push_of_some _ q)⟩
theorem iter_comb {it T : Addr} {st : Int} {last : Value} {ix : List Nat} {Q : Value → Shared → Prop} (hit : IsC s.heap it T st last ix) (h : Q (.ref it) s) : wpAny (model prog w) A (pyIter (.ref it)) Q E s := by
  have hT : s.TypeIs (.ref it) "itertools.combinations" := ⟨_, hit, rfl⟩
  refine wpAny_pyIter_slot hT slot_iter (wpAny_call_entry slot_iter hT entry_iter ?_ (args_iter _))
  show wpAny _ _ (ret (.ref it)) _ _ s
  exact wpAny_pure ⟨_, rfl, "itertools.combinations", _, hT, slot_next.lookup, h⟩
theorem wp_nums {M : Model} {it T : Addr} {st : Int} {last : Value} {ix : List Nat} {Q : List Nat → Shared → Prop} (hit : IsC s.heap it T st last ix) (h : Q ix s) : wpAny M A (Builtin.Itertools.itNumbersFrom (.ref it) 3) Q E s := by
  show wpAny _ _ (load it >>= _) _ _ _
  refine wpAny_bind (wpAny_load hit (wpAny_pure ?_))
  have e : ((flds T st last ix).toList.drop 3).map (fun v => match v with | .int n _ => n.toNat | _ => 0) = ix := by
    unfold flds
    simp only [List.drop_left', List.cons_append, List.nil_append, List.drop_succ_cons, List.drop_zero, List.map_map]
    have : ((fun v => match v with | .int n _ => n.toNat | _ => 0) ∘ fun (i : Nat) => rawInt i) = id := by
      funext i
      exact Int.toNat_natCast i
    rw [this, List.map_id]
  exact (congrArg (Q · s) e).mpr h
/-- what is asked of the step: it goes through the choices, of nine things at most -/
abbrev Steps (step : Nat → List Nat → Option (List Nat)) : Prop := ∀ n, n ≤ 8 → ∀ r, r ≤ n → ∀ k, k < (combs n r).length → step n ((combs n r).getD k []) = (combs n r)[k + 1]?
theorem next_first {it T : Addr} {last : Value} {ix : List Nat} {items : Array Value} {Q : Option Value → Shared → Prop} (hit : IsC s.heap it T 0 last ix) (hT : s.heap.get? T = some { cls := .type "tuple", data := .seq items }) (ne : T ≠ it) (hlen : ix.length ≤ 1000)
    (hQ : ∀ h' : Heap, IsC h' it T 1 (.ref s.heap.objs.size) ix → h'.get? s.heap.objs.size = some { cls := .type "tuple", data := .seq (ix.map fun i => items.getD i .none).toArray } → (∀ b o, b ≠ it → s.heap.get? b = some o → h'.get? b = some o) → Q (some (.ref s.heap.objs.size)) { s with heap := h' }) : wpAny (model prog w) A (callSpecial? (.ref it) "__next__") Q E s := by
  have hTy : s.TypeIs (.ref it) "itertools.combinations" := ⟨_, hit, rfl⟩
  refine wpAny_callSpecial?_slot (name := Str.ofString "__next__") hTy slot_next (wpAny_call_entry slot_next hTy entry_next ?_ (args_next _))
  unfold Builtin.«itertools.combinations.__next__»
  refine wpAny_bind (m := slotArgs "__next__" 0 _) (wpAny_pure ?_)
  show wpAny _ _ (field (.ref it) 0 >>= _) _ _ _
  refine wpAny_bind (wpAny_field hit rfl (flds0 ..) ?_)
  show wpAny _ _ (Builtin.Itertools.itNumbersFrom (.ref it) 3 >>= _) _ _ _
  refine wpAny_bind (wp_nums hit ?_)
  show wpAny _ _ (Builtin.Itertools.itIntField (.ref it) 1 >>= _) _ _ _
  refine wpAny_bind ?_
  show wpAny _ _ (field (.ref it) 1 >>= _) _ _ _
  refine wpAny_bind (wpAny_field hit rfl (flds1 ..) (wpAny_pure ?_))
  show wpAny _ _ (setField (.ref it) 1 (rawInt 1) >>= _) _ _ _
  refine wpAny_bind (wpAny_setField hit rfl (by rw [fldsz]; omega) ?_)
  have hit2 := upd1 1 hit
  have k2 : ∀ b o, b ≠ it → s.heap.get? b = some o → (s.heap.update it (Obj.mapFields fun x => x.setIfInBounds 1 (rawInt 1))).get? b = some o := fun b o n q => (Heap.get?_update_other _ _ (Ne.symm n)).trans q
  have z2 : (s.heap.update it (Obj.mapFields fun x => x.setIfInBounds 1 (rawInt 1))).objs.size = s.heap.objs.size := by simp only [Heap.size_update]
  generalize s.heap.update it (Obj.mapFields fun x => x.setIfInBounds 1 (rawInt 1)) = h2 at hit2 k2 z2 ⊢
  refine wpAny_bind ?_
  show wpAny _ _ (Builtin.Itertools.itPoolItems (.ref T) >>= _) _ _ _
  refine wpAny_bind ?_
  show wpAny _ _ (seqItems? (.ref T) >>= _) _ _ _
  refine wpAny_bind (wpAny_seqItems (k2 _ _ ne hT) rfl (wpAny_pure ?_))
  show wpAny _ _ (newTuple (ix.map fun i => items.getD i .none)) _ _ _
  refine wpAny_newObj_type ?_ (by show (ix.map _).toArray.size ≤ sizeLine; rw [List.size_toArray, List.length_map]; exact Nat.le_trans hlen (by decide))
  have hit3 : IsC (h2.push { cls := .type "tuple", data := .seq (ix.map fun i => items.getD i .none).toArray }) it T 1 last ix := Heap.get?_push_of_some _ hit2
  have g3 : (h2.push { cls := .type "tuple", data := .seq (ix.map fun i => items.getD i .none).toArray }).get? h2.objs.size = some { cls := .type "tuple", data := .seq (ix.map fun i => items.getD i .none).toArray } := Heap.get?_push_size _ rfl
  have k3 : ∀ b o, b ≠ it → s.heap.get? b = some o → (h2.push { cls := .type "tuple", data := .seq (ix.map fun i => items.getD i .none).toArray }).get? b = some o := fun b o n q => Heap.get?_push_of_some _ (k2 b o n q)
  rw [z2] at g3
  show wpAny _ _ (field (.ref it) 2 >>= _) _ _ _
  refine wpAny_bind (wpAny_field hit3 rfl (flds2 ..) ?_)
  show wpAny _ _ (setField (.ref it) 2 (.ref h2.objs.size) >>= _) _ _ _
  rw [z2]
  refine wpAny_bind (wpAny_setField hit3 rfl (by rw [fldsz]; omega) ?_)
  have hit4 := upd2 (.ref s.heap.objs.size) hit3
  have ne1 : s.heap.objs.size ≠ it := Nat.ne_of_gt (Heap.lt_size hit)
  have g4 := (Heap.get?_update_other (h := h2.push { cls := .type "tuple", data := .seq (ix.map fun i => items.getD i .none).toArray }) (Obj.mapFields fun x => x.setIfInBounds 2 (Value.ref s.heap.objs.size)) (Ne.symm ne1)).trans g3
  show wpAny _ _ (letGo [_] [_] >>= _) _ _ _
  refine wpAny_bind (wpAny_letGo ?_)
  show wpAny _ _ (ret _) _ _ _
  exact wpAny_pure ⟨_, rfl, hQ _ hit4 g4 fun b o n q => (Heap.get?_update_other _ _ (Ne.symm n)).trans (k3 b o n q)⟩
theorem pick_fact {step : Nat → List Nat → Option (List Nat)} (hs : Steps step) {n r k : Nat} (hn : n ≤ 8) (hr : r ≤ n) (hk : k < (combs n r).length) {o : Option (List Nat)} (e : step n ((combs n r).getD k []) = o) : (combs n r)[k + 1]? = o := (hs n hn r hr k hk).symm.trans e
theorem next_more {it T : Addr} {last : Value} {ix' : List Nat} {items : Array Value} {r k : Nat} {Q : Option Value → Shared → Prop} (hn : items.size ≤ 8) (hr : r ≤ items.size) (hk : k < (combs items.size r).length) (hit : IsC s.heap it T 1 last ((combs items.size r).getD k [])) (hT : s.heap.get? T = some { cls := .type "tuple", data := .seq items }) (ne : T ≠ it) (hlen : ix'.length ≤ 1000) (hx : (combs items.size r)[k + 1]? = some ix')
    (hQ : ∀ h' : Heap, IsC h' it T 1 (.ref s.heap.objs.size) ix' → h'.get? s.heap.objs.size = some { cls := .type "tuple", data := .seq (ix'.map fun i => items.getD i .none).toArray } → (∀ b o, b ≠ it → s.heap.get? b = some o → h'.get? b = some o) → Q (some (.ref s.heap.objs.size)) { s with heap := h' }) : wpAny (model prog w) A (callSpecial? (.ref it) "__next__") Q E s := by
  have hTy : s.TypeIs (.ref it) "itertools.combinations" := ⟨_, hit, rfl⟩
  refine wpAny_callSpecial?_slot (name := Str.ofString "__next__") hTy slot_next (wpAny_call_entry slot_next hTy entry_next ?_ (args_next _))
  unfold Builtin.«itertools.combinations.__next__»
  refine wpAny_bind (m := slotArgs "__next__" 0 _) (wpAny_pure ?_)
  show wpAny _ _ (field (.ref it) 0 >>= _) _ _ _
  refine wpAny_bind (wpAny_field hit rfl (flds0 ..) ?_)
  show wpAny _ _ (Builtin.Itertools.itNumbersFrom (.ref it) 3 >>= _) _ _ _
  refine wpAny_bind (wp_nums hit ?_)
  show wpAny _ _ (Builtin.Itertools.itIntField (.ref it) 1 >>= _) _ _ _
  refine wpAny_bind ?_
  show wpAny _ _ (field (.ref it) 1 >>= _) _ _ _
  refine wpAny_bind (wpAny_field hit rfl (flds1 ..) (wpAny_pure ?_))
  show wpAny _ _ (Builtin.Itertools.itPoolItems (.ref T) >>= _) _ _ _
  refine wpAny_bind ?_
  show wpAny _ _ (seqItems? (.ref T) >>= _) _ _ _
  refine wpAny_bind (wpAny_seqItems hT rfl (wpAny_pure ?_))
  split
  case h_2 =>
    rename_i heq
    have z := pick_fact (by decide +kernel) hn hr hk heq
    rw [hx] at z
    cases z
  rename_i nx heq
  have z := pick_fact (by decide +kernel) hn hr hk heq
  rw [hx] at z
  cases z
  show wpAny _ _ (Builtin.Itertools.itSetNumbersFrom (.ref it) 3 ix' >>= _) _ _ _
  refine wpAny_bind ?_
  show wpAny _ _ (updateFields it _) _ _ _
  refine wpAny_updateFields hit rfl ?_ ?_
  case refine_2 =>
    rw [setN, fldsz]
    exact Nat.le_trans (Nat.add_le_add_left hlen 3) (by decide)
  have hit2 := updN ix' hit
  have k2 : ∀ b o, b ≠ it → s.heap.get? b = some o → (s.heap.update it (Obj.mapFields fun fs => fs.extract 0 3 ++ (ix'.map fun (n : Nat) => rawInt n).toArray)).get? b = some o := fun b o n q => (Heap.get?_update_other _ _ (Ne.symm n)).trans q
  have z2 : (s.heap.update it (Obj.mapFields fun fs => fs.extract 0 3 ++ (ix'.map fun (n : Nat) => rawInt n).toArray)).objs.size = s.heap.objs.size := by simp only [Heap.size_update]
  generalize s.heap.update it (Obj.mapFields fun fs => fs.extract 0 3 ++ (ix'.map fun (n : Nat) => rawInt n).toArray) = h2 at hit2 k2 z2 ⊢
  refine wpAny_bind ?_
  show wpAny _ _ (Builtin.Itertools.itPoolItems (.ref T) >>= _) _ _ _
  refine wpAny_bind ?_
  show wpAny _ _ (seqItems? (.ref T) >>= _) _ _ _
  refine wpAny_bind (wpAny_seqItems (k2 _ _ ne hT) rfl (wpAny_pure ?_))
  show wpAny _ _ (newTuple (ix'.map fun i => items.getD i .none)) _ _ _
  refine wpAny_newObj_type ?_ (by show (ix'.map _).toArray.size ≤ sizeLine; rw [List.size_toArray, List.length_map]; exact Nat.le_trans hlen (by decide))
  have hit3 : IsC (h2.push { cls := .type "tuple", data := .seq (ix'.map fun i => items.getD i .none).toArray }) it T 1 last ix' := Heap.get?_push_of_some _ hit2
  have g3 : (h2.push { cls := .type "tuple", data := .seq (ix'.map fun i => items.getD i .none).toArray }).get? h2.objs.size = some { cls := .type "tuple", data := .seq (ix'.map fun i => items.getD i .none).toArray } := Heap.get?_push_size _ rfl
  have k3 : ∀ b o, b ≠ it → s.heap.get? b = some o → (h2.push { cls := .type "tuple", data := .seq (ix'.map fun i => items.getD i .none).toArray }).get? b = some o := fun b o n q => Heap.get?_push_of_some _ (k2 b o n q)
  rw [z2] at g3
  show wpAny _ _ (field (.ref it) 2 >>= _) _ _ _
  refine wpAny_bind (wpAny_field hit3 rfl (flds2 ..) ?_)
  show wpAny _ _ (setField (.ref it) 2 (.ref h2.objs.size) >>= _) _ _ _
  rw [z2]
  refine wpAny_bind (wpAny_setField hit3 rfl (by rw [fldsz]; omega) ?_)
  have hit4 := upd2 (.ref s.heap.objs.size) hit3
  have ne1 : s.heap.objs.size ≠ it := Nat.ne_of_gt (Heap.lt_size hit)
  have g4 := (Heap.get?_update_other (h := h2.push { cls := .type "tuple", data := .seq (ix'.map fun i => items.getD i .none).toArray }) (Obj.mapFields fun x => x.setIfInBounds 2 (Value.ref s.heap.objs.size)) (Ne.symm ne1)).trans g3
  show wpAny _ _ (letGo [_] [_] >>= _) _ _ _
  refine wpAny_bind (wpAny_letGo ?_)
  show wpAny _ _ (ret _) _ _ _
  exact wpAny_pure ⟨_, rfl, hQ _ hit4 g4 fun b o n q => (Heap.get?_update_other _ _ (Ne.symm n)).trans (k3 b o n q)⟩
end
end Cmb
/-! combinations: next(..) and its end. -/
namespace Cmb
open PySem PySem.Spec
open Sem (wp)
section
variable {prog : Program} {w : World} {A : Around} {E : Value → Shared → Prop} {s : Shared}
theorem py_first {it T : Addr} {last : Value} {ix : List Nat} {items : Array Value} {Q : Option Value → Shared → Prop} (hit : IsC s.heap it T 0 last ix) (hT : s.heap.get? T = some { cls := .type "tuple", data := .seq items }) (ne : T ≠ it) (hlen : ix.length ≤ 1000)
    (hQ : ∀ h' : Heap, IsC h' it T 1 (.ref s.heap.objs.size) ix → h'.get? s.heap.objs.size = some { cls := .type "tuple", data := .seq (ix.map fun i => items.getD i .none).toArray } → (∀ b o, b ≠ it → s.heap.get? b = some o → h'.get? b = some o) → Q (some (.ref s.heap.objs.size)) { s with heap := h' }) : wpAny (model prog w) A (pyNext (.ref it)) Q E s := by
  unfold pyNext
  exact wpAny_bind (wpAny_attempt (next_first hit hT ne hlen fun h' g1 g2 k => wpAny_pure (hQ h' g1 g2 k)))
theorem py_more {it T : Addr} {last : Value} {ix' : List Nat} {items : Array Value} {r k : Nat} {Q : Option Value → Shared → Prop} (hn : items.size ≤ 8) (hr : r ≤ items.size) (hk : k < (combs items.size r).length) (hit : IsC s.heap it T 1 last ((combs items.size r).getD k [])) (hT : s.heap.get? T = some { cls := .type "tuple", data := .seq items }) (ne : T ≠ it) (hlen : ix'.length ≤ 1000) (hx : (combs items.size r)[k + 1]? = some ix')
    (hQ : ∀ h' : Heap, IsC h' it T 1 (.ref s.heap.objs.size) ix' → h'.get? s.heap.objs.size = some { cls := .type "tuple", data := .seq (ix'.map fun i => items.getD i .none).toArray } → (∀ b o, b ≠ it → s.heap.get? b = some o → h'.get? b = some o) → Q (some (.ref s.heap.objs.size)) { s with heap := h' }) : wpAny (model prog w) A (pyNext (.ref it)) Q E s := by
  unfold pyNext
  exact wpAny_bind (wpAny_attempt (next_more hn hr hk hit hT ne hlen hx fun h' g1 g2 k => wpAny_pure (hQ h' g1 g2 k)))
theorem py_none {it T : Addr} {last : Value} {ix : List Nat} {Q : Option Value → Shared → Prop} (hh : A.handled = none) (hit : IsC s.heap it T 2 last ix)
    (hQ : ∀ h', Heap.ExtBut it s.heap h' → Q none { s with heap := h' }) : wpAny (model prog w) A (pyNext (.ref it)) Q E s := by
  have hTy : s.TypeIs (.ref it) "itertools.combinations" := ⟨_, hit, rfl⟩
  unfold pyNext
  refine wpAny_bind (wpAny_attempt (wpAny_callSpecial?_slot (name := Str.ofString "__next__") hTy slot_next (wpAny_call_entry slot_next hTy entry_next ?_ (args_next _))))
  unfold Builtin.«itertools.combinations.__next__»
  refine wpAny_bind (m := slotArgs "__next__" 0 _) (wpAny_pure ?_)
  show wpAny _ _ (field (.ref it) 0 >>= _) _ _ _
  refine wpAny_bind (wpAny_field hit rfl (flds0 ..) ?_)
  show wpAny _ _ (Builtin.Itertools.itNumbersFrom (.ref it) 3 >>= _) _ _ _
  refine wpAny_bind (wp_nums hit ?_)
  show wpAny _ _ (Builtin.Itertools.itIntField (.ref it) 1 >>= _) _ _ _
  refine wpAny_bind ?_
  show wpAny _ _ (field (.ref it) 1 >>= _) _ _ _
  refine wpAny_bind (wpAny_field hit rfl (flds1 ..) (wpAny_pure ?_))
  show wpAny _ _ (rule _ >>= _) _ _ _
  refine wpAny_bind (wpAny_rule ?_)
  show wpAny _ _ (newExc (.type "StopIteration") [] >>= _) _ _ _
  refine wpAny_bind ?_
  simp only [newExc, newTuple]
  refine wpAny_bind (wpAny_newObj_type ?_ (by size_fits))
  refine wpAny_bind (m := firstArgMember _ _) (wpAny_of_eq (a := Value.none) (by first | rfl | (simp only [firstArgMember]; rfl)) ?_)
  refine wpAny_newObj_type ?_ (by size_fits)
  simp only [raiseNew]
  refine wpAny_bind (wpAny_handled ?_)
  first | rw [show A.in1.handled = none from hh] | rw [hh]
  refine wpAny_bind (wpAny_pure (wpAny_throw ?_))
  refine wpAny_bind (wpAny_isInstance (T := "StopIteration") (b := true) ⟨_, Heap.get?_push_size _ rfl, rfl⟩ isSubtype_stop ?_)
  exact wpAny_pure (hQ _ (((Heap.ExtBut.refl _ _).push _).push _))
theorem py_end {it T : Addr} {last : Value} {items : Array Value} {r k : Nat} {Q : Option Value → Shared → Prop} (hh : A.handled = none) (hn : items.size ≤ 8) (hr : r ≤ items.size) (hk : k < (combs items.size r).length) (hit : IsC s.heap it T 1 last ((combs items.size r).getD k [])) (hT : s.heap.get? T = some { cls := .type "tuple", data := .seq items }) (hx : (combs items.size r)[k + 1]? = none)
    (hQ : ∀ h', Heap.ExtBut it s.heap h' → Q none { s with heap := h' }) : wpAny (model prog w) A (pyNext (.ref it)) Q E s := by
  have hTy : s.TypeIs (.ref it) "itertools.combinations" := ⟨_, hit, rfl⟩
  unfold pyNext
  refine wpAny_bind (wpAny_attempt (wpAny_callSpecial?_slot (name := Str.ofString "__next__") hTy slot_next (wpAny_call_entry slot_next hTy entry_next ?_ (args_next _))))
  unfold Builtin.«itertools.combinations.__next__»
  refine wpAny_bind (m := slotArgs "__next__" 0 _) (wpAny_pure ?_)
  show wpAny _ _ (field (.ref it) 0 >>= _) _ _ _
  refine wpAny_bind (wpAny_field hit rfl (flds0 ..) ?_)
  show wpAny _ _ (Builtin.Itertools.itNumbersFrom (.ref it) 3 >>= _) _ _ _
  refine wpAny_bind (wp_nums hit ?_)
  show wpAny _ _ (Builtin.Itertools.itIntField (.ref it) 1 >>= _) _ _ _
  refine wpAny_bind ?_
  show wpAny _ _ (field (.ref it) 1 >>= _) _ _ _
  refine wpAny_bind (wpAny_field hit rfl (flds1 ..) (wpAny_pure ?_))
  show wpAny _ _ (Builtin.Itertools.itPoolItems (.ref T) >>= _) _ _ _
  refine wpAny_bind ?_
  show wpAny _ _ (seqItems? (.ref T) >>= _) _ _ _
  refine wpAny_bind (wpAny_seqItems hT rfl (wpAny_pure ?_))
  split
  case h_1 =>
    rename_i heq
    have z := pick_fact (by decide +kernel) hn hr hk heq
    rw [hx] at z
    cases z
  show wpAny _ _ (setField (.ref it) 1 (rawInt 2) >>= _) _ _ _
  refine wpAny_bind (wpAny_setField hit rfl (by rw [fldsz]; omega) ?_)
  have eb : Heap.ExtBut it s.heap (s.heap.update it (Obj.mapFields fun x => x.setIfInBounds 1 (rawInt 2))) := fun b o n q => (Heap.get?_update_other _ _ (Ne.symm n)).trans q
  generalize s.heap.update it (Obj.mapFields fun x => x.setIfInBounds 1 (rawInt 2)) = h2 at eb ⊢
  show wpAny _ _ (newExc (.type "StopIteration") [] >>= _) _ _ _
  refine wpAny_bind ?_
  simp only [newExc, newTuple]
  refine wpAny_bind (wpAny_newObj_type ?_ (by size_fits))
  refine wpAny_bind (m := firstArgMember _ _) (wpAny_of_eq (a := Value.none) (by first | rfl | (simp only [firstArgMember]; rfl)) ?_)
  refine wpAny_newObj_type ?_ (by size_fits)
  simp only [raiseNew]
  refine wpAny_bind (wpAny_handled ?_)
  first | rw [show A.in1.handled = none from hh] | rw [hh]
  refine wpAny_bind (wpAny_pure (wpAny_throw ?_))
  refine wpAny_bind (wpAny_isInstance (T := "StopIteration") (b := true) ⟨_, Heap.get?_push_size _ rfl, rfl⟩ isSubtype_stop ?_)
  exact wpAny_pure (hQ _ ((eb.push _).push _))
end
end Cmb
/-! for x in combinations(list, r): the rule. -/
namespace Mv
open PySem PySem.Spec PyProof.Rows L2 Cmb
theorem combs_nil : ∀ {n r : Nat}, n < r → combs n r = []
  | _, 0, h => absurd h (Nat.not_lt_zero _)
  | 0, r + 1, _ => rfl
  | n + 1, r + 1, h => by
    show ((combs n r).map fun c => 0 :: c.map (· + 1)) ++ (combs n (r + 1)).map (fun c => c.map (· + 1)) = []
    rw [combs_nil (Nat.lt_of_succ_lt_succ h), combs_nil (Nat.lt_trans (Nat.lt_of_succ_lt_succ h) (Nat.lt_succ_self r))] <;> rfl
theorem combs_first : ∀ n, n ≤ 8 → ∀ r, r ≤ n → (combs n r)[0]? = some (List.range r) := by decide +kernel
theorem combs_short : ∀ n, n ≤ 8 → ∀ r, r ≤ n → ∀ c ∈ combs n r, c.length ≤ 8 := by decide +kernel
/-- the items at the places c -/
def atPl (xs : List V) (c : List Nat) : List V := c.map fun j => xs.getD j .non
/-- the choices of r of xs, each a new tuple -/
def Itcb (xs : List V) (r : Nat) : It := ⟨fun i _ => i < (combs xs.length r).length, fun i H v H' => ∃ R, v = .ref R ∧ H R = none ∧ H' = upd H R (.tup (atPl xs ((combs xs.length r).getD i []))), fun i _ => (combs xs.length r).length ≤ i⟩
theorem getD_rel {xs : List V} {us : List Value} (h : Vals xs us) (j : Nat) : RelV (xs.getD j .non) (us.toArray.getD j .none) := by
  by_cases hj : j < xs.length
  · obtain ⟨u, hu, ru⟩ := h.get (List.getElem?_eq_getElem hj)
    have e1 : xs.getD j .non = xs[j] := by rw [List.getD_eq_getElem?_getD, List.getElem?_eq_getElem hj] <;> rfl
    have e2 : us.toArray.getD j .none = u := by
      obtain ⟨hlt, he⟩ := List.getElem?_eq_some_iff.mp hu
      simp [Array.getD, hlt, he]
    rw [e1, e2]
    exact ru
  · have hl := h.length
    have e1 : xs.getD j .non = .non := by rw [List.getD_eq_getElem?_getD, List.getElem?_eq_none (by omega)] <;> rfl
    have e2 : us.toArray.getD j .none = .none := by
      simp only [Array.getD, List.size_toArray]
      rw [dif_neg (by omega)]
    rw [e1, e2]
    exact rfl
theorem atPl_vals {xs : List V} {us : List Value} (h : Vals xs us) : ∀ c : List Nat, Vals (atPl xs c) (c.map fun i => us.toArray.getD i .none)
  | [] => .nil
  | j :: c => .cons (getD_rel h j) (atPl_vals h c)
/-- how such an object stands behind i items -/
def CSt (it T : Addr) (items : Array Value) (r : Nat) (i : Nat) (h : Heap) : Prop :=
  h.get? T = some { cls := .type "tuple", data := .seq items } ∧ ((i = 0 ∧ IsC h it T (if r > items.size then 2 else 0) .none (List.range r)) ∨ ∃ k last, i = k + 1 ∧ k < (combs items.size r).length ∧ IsC h it T 1 last ((combs items.size r).getD k []))
theorem CSt.obj {it T : Addr} {items : Array Value} {r i : Nat} {h : Heap} (s : CSt it T items r i h) : (∃ st last ix, IsC h it T st last ix) ∧ h.get? T = some { cls := .type "tuple", data := .seq items } := ⟨s.2.elim (fun z => ⟨_, _, _, z.2⟩) fun ⟨k, last, _, _, z⟩ => ⟨_, _, _, z⟩, s.1⟩
theorem combs_le {n r k : Nat} (h : k < (combs n r).length) : r ≤ n := Nat.le_of_not_lt fun z => by
  rw [combs_nil z] at h
  exact absurd h (Nat.not_lt_zero _)
theorem turn_comb {P : Program} {w : World} {K : PySem.W.Frag} {tg : Expr} {it T : Addr} {xs : List V} {us : List Value} {r : Nat} (hv : Vals xs us) (h8 : xs.length ≤ 8) (ne : T ≠ it) : Turn P w K tg (Itcb xs r) [it, T] it (CSt it T us.toArray r) where
  mem := by simp
  obj := fun i h st b hb => by
    obtain ⟨⟨st', last, ix, h1⟩, h2⟩ := st.obj
    have e' : b = it ∨ b = T := by simpa using hb
    rcases e' with e | e
    · rw [e]
      exact ⟨_, h1, fun v z => nomatch z⟩
    · rw [e]
      exact ⟨_, h2, fun v z => nomatch z⟩
  keep := fun i h h' st k => ⟨k T (by simp) _ st.1, st.2.elim (fun z => .inl ⟨z.1, k it (by simp) _ z.2⟩) fun ⟨k', last, e1, e2, z⟩ => .inr ⟨k', last, e1, e2, k it (by simp) _ z⟩⟩
  item := by
    intro X hP hw hK hc i pins s σ H E I hf st hg
    subst hP hw hK
    have hl : us.toArray.size = xs.length := by rw [List.size_toArray]; exact hv.length.symm
    have hg : i < (combs xs.length r).length := hg
    have hr : r ≤ xs.length := combs_le hg
    obtain ⟨hT, st⟩ := st
    have cT : (combs us.toArray.size r).getD i [] = (combs xs.length r).getD i [] := by rw [hl]
    have cgi : (combs xs.length r)[i]? = some ((combs xs.length r).getD i []) := by rw [List.getD_eq_getElem?_getD, List.getElem?_eq_getElem hg] <;> rfl
    have cs8 := combs_short _ h8 _ hr _ (List.mem_of_getElem? cgi)
    have hit : it < s.heap.objs.size := by
      rcases st with ⟨_, z⟩ | ⟨_, _, _, _, z⟩
      · exact Heap.lt_size z
      · exact Heap.lt_size z
    have hTl : T < s.heap.objs.size := Heap.lt_size hT
    have fin : ∀ h' : Heap, IsC h' it T 1 (.ref s.heap.objs.size) ((combs xs.length r).getD i []) → h'.get? s.heap.objs.size = some { cls := .type "tuple", data := .seq (((combs xs.length r).getD i []).map fun j => us.toArray.getD j .none).toArray } → (∀ b o, b ≠ it → s.heap.get? b = some o → h'.get? b = some o) →
        ∃ u, some (Value.ref s.heap.objs.size) = some u ∧ wpAny (model X.prog X.w) X.A (letOwnedTupleGo tg (.ref it) u) (fun _ s2 => ∃ x H', Inv X pins σ H' s2 ∧ RelV x u ∧ (Itcb xs r).yld i H x H' ∧ CSt it T us.toArray r (i + 1) s2.heap ∧ ∀ b ∈ [it, T], H' b = none) E { s with heap := h' } := fun h' g1 g2 k => by
      have new : ObjOk X.prog X.w (upd H s.heap.objs.size (.tup (atPl xs ((combs xs.length r).getD i [])))) h' s.heap.objs.size (.tup (atPl xs ((combs xs.length r).getD i []))) :=
        ⟨by show (atPl xs _).length ≤ sizeLine; rw [atPl, List.length_map]; exact Nat.le_trans cs8 (by decide), _, atPl_vals hv _, ⟨_, g2, rfl, _, rfl⟩⟩
      have I1 : Inv X pins σ (upd H s.heap.objs.size (.tup (atPl xs ((combs xs.length r).getD i [])))) { s with heap := h' } :=
        I.turnedNew (t' := s.toks) (ch := [it, T]) (fun c o hb q => k c o (fun z => hb (by simp [z])) q) hf (Nat.le_refl _) new
      refine ⟨_, rfl, go_of (s := { s with heap := h' }) g1 rfl rfl (by decide) ⟨.ref s.heap.objs.size, _, I1, rfl, ⟨_, rfl, I.hok.fresh (Nat.le_refl _), rfl⟩, ⟨k T _ ne hT, .inr ⟨i, _, rfl, by rw [hl]; exact hg, by rw [cT]; exact g1⟩⟩, fun c hcm => ?_⟩⟩
      have hlt : c < s.heap.objs.size := by
        have e' : c = it ∨ c = T := by simpa using hcm
        rcases e' with q | q
        · rw [q]; exact hit
        · rw [q]; exact hTl
      rw [upd_ne (Nat.ne_of_lt hlt)]
      exact (hf c hcm).1
    rcases st with ⟨rfl, z⟩ | ⟨k, last, rfl, hk, z⟩
    · have hgt : ¬ r > us.toArray.size := by rw [hl]; omega
      rw [if_neg hgt] at z
      have e0 : (combs xs.length r).getD 0 [] = List.range r := by rw [List.getD_eq_getElem?_getD, combs_first _ h8 _ hr] <;> rfl
      exact py_first z hT ne (by rw [List.length_range]; omega) fun h' g1 g2 k => fin h' (by rw [e0]; exact g1) (by rw [e0]; exact g2) k
    · rw [hl] at hk z
      exact py_more (items := us.toArray) (r := r) (k := k) (by rw [hl]; exact h8) (by rw [hl]; exact hr) (by rw [hl]; exact hk) (by rw [hl]; exact z) hT ne (Nat.le_trans cs8 (by decide)) (by rw [hl]; exact cgi) fun h' g1 g2 k => fin h' g1 g2 k
  done := by
    intro X hP hw hK hc i pins s σ H E I hf st hg
    subst hP hw hK
    have hl : us.toArray.size = xs.length := by rw [List.size_toArray]; exact hv.length.symm
    have hg : (combs xs.length r).length ≤ i := hg
    obtain ⟨hT, st⟩ := st
    have fin : ∀ h' : Heap, Heap.ExtBut it s.heap h' → (none : Option Value) = none ∧ Inv X pins σ H { s with heap := h' } := fun h' eb => by
      obtain ⟨f0, f1, f2, f3, f4, f5⟩ := hf it (by simp)
      exact ⟨rfl, I.turned (t' := s.toks) (fun b o hb e => eb b o hb e) f0 f1 f3 f4 f5⟩
    rcases st with ⟨rfl, z⟩ | ⟨k, last, rfl, hk, z⟩
    · have hgt : r > us.toArray.size := by
        rw [hl]
        refine Nat.lt_of_not_le fun hle => ?_
        have := combs_first _ h8 _ hle
        rw [List.getElem?_eq_none hg] at this
        cases this
      rw [if_pos hgt] at z
      exact py_none (I.ok.hd hc) z fin
    · have hr : r ≤ us.toArray.size := combs_le hk
      exact py_end (I.ok.hd hc) (by rw [hl]; exact h8) hr hk z hT (List.getElem?_eq_none (by rw [hl]; exact hg)) fin
  self := fun A i s Q E st h => by
    obtain ⟨⟨st', last, ix, h1⟩, _⟩ := st.obj
    exact iter_comb h1 h
end Mv
/-! for x in combinations(list, r): the rule, in the heap's words. -/
namespace Mv
open PySem PySem.Spec PyProof.Rows L2 Cmb
def iComb (K : PySem.W.Frag) (ta : TA) : TI := fun σ H R => ta σ H fun vs H1 => ∃ (a : Addr) (xs : List V) (r : Nat), vs = [.ref a, .int (r : Int)] ∧ SqL K H1 a xs ∧ xs.length ≤ 8 ∧ r < 1000 ∧ R (Itcb xs r) H1
section
variable {X : Cx}
theorem pi_comb {tg e e2 : Expr} {ta : TA} {x : Str} {p pos : Pos} {K : PySem.W.Frag} (hK : X.K = K) (hg : Gl X x) (hm : X.mg x = some (.type "itertools.combinations")) (ha : PA X [e, e2] ta) (hdb : (x == ("__debug__" : Str)) = false := by decide)
    (hs : starEach [e, e2] X.env = (false, eval e X.env) :: starEach [e2] X.env := by rfl) (hpl : (backTo pos (starEach [e2] X.env)).any (·.1) = false := by rfl) : PI X tg (.Call (.Name x p) [e, e2] [] pos) (iComb K ta) := by
  subst hK
  refine ⟨fun pins s σ H R I h => ?_⟩
  refine Call_ (ld_glob I hg hm (PyProof.Rows.callWith_type1 (thn (ha.run pos pins s σ H _ I h) fun us s1 ⟨vs, H1, I1, r1, q1⟩ => ?_) hs hpl) hdb)
  obtain ⟨a, xs, r, ex, hq, h8, hr, q⟩ := q1
  subst ex
  cases r1 with
  | cons ra rr =>
    cases rr with
    | cons rb rr =>
      cases rr
      cases ra
      obtain ⟨t, rfl⟩ := rb
      obtain ⟨its, rv, p', hz⟩ := I1.list hq
      have hl := rv.length
      refine call_comb p'.isList hr (by rw [List.size_toArray]; exact Nat.le_trans (by omega : its.length ≤ 8) (by decide)) fun h0 k0 h' g1 g2 k1 => ?_
      refine iter_comb g1 ?_
      have I0 : Inv X pins σ H1 { s1 with heap := h0 } := I1.kept (t' := s1.toks) k0
      have I2 : Inv X pins σ H1 { s1 with heap := h' } := I0.kept (t' := s1.toks) k1
      refine ⟨h0.objs.size + 1, [h0.objs.size + 1, h0.objs.size], _, _, H1, rfl, I2, turn_comb (r := r) rv h8 (Nat.ne_of_lt (Nat.lt_succ_self _)), ⟨g2, .inl ⟨rfl, g1⟩⟩, fun c hcm => ?_, q⟩
      have e' : c = h0.objs.size + 1 ∨ c = h0.objs.size := by simpa using hcm
      have hle : h0.objs.size ≤ c := by
        rcases e' with z | z
        · rw [z]
          exact Nat.le_succ _
        · rw [z]
          exact Nat.le_refl _
      exact I0.fpOk hle (I0.hok.fresh hle)
end
/-- the walk over the choices -/
theorem for_comb {xs : List V} {r : Nat} {g : TG} {tb : TS} {D : Ends} {σ : L2.St} {H : Hp} (Pv : Nat → L2.St → Hp → Prop) (h0 : Pv 0 σ H)
    (hs : ∀ i c σ H R, (combs xs.length r)[i]? = some c → Pv i σ H → H R = none → g (.ref R) σ (upd H R (.tup (atPl xs c))) fun σ2 H2 => tb { D with nx := Pv (i + 1), ct := Pv (i + 1), bk := D.nx } σ2 H2) (hd : ∀ σ H, Pv (combs xs.length r).length σ H → D.nx σ H) :
    ∃ W : Nat → Nat → L2.St → Hp → Prop, (∃ m, W 0 m σ H) ∧ ∀ i m σ H, W i m σ H →
      ((Itcb xs r).stop i H ∧ D.nx σ H) ∨ ((Itcb xs r).go i H ∧ ∃ N : L2.St → Hp → Prop, (∀ σ' H', N σ' H' → ∃ m', m' < m ∧ W (i + 1) m' σ' H') ∧ ∀ x H', (Itcb xs r).yld i H x H' → g x σ H' fun σ2 H2 => tb { D with nx := N, ct := N, bk := D.nx } σ2 H2) := by
  refine ⟨fun i m σ H => m = (combs xs.length r).length - i ∧ i ≤ (combs xs.length r).length ∧ Pv i σ H, ⟨_, rfl, Nat.zero_le _, h0⟩, ?_⟩
  rintro i m σ H ⟨rfl, hi, p⟩
  by_cases hlt : i < (combs xs.length r).length
  · refine .inr ⟨hlt, Pv (i + 1), fun σ' H' p' => ⟨(combs xs.length r).length - (i + 1), by omega, rfl, hlt, p'⟩, fun x H' y => ?_⟩
    obtain ⟨R, e, hR, e2⟩ := y
    subst e e2
    have cg : (combs xs.length r)[i]? = some ((combs xs.length r).getD i []) := by rw [List.getD_eq_getElem?_getD, List.getElem?_eq_getElem hlt] <;> rfl
    exact hs i _ σ H R cg p hR
  · have e : i = (combs xs.length r).length := by omega
    subst e
    exact .inl ⟨Nat.le_refl _, hd σ H p⟩
end Mv
/-! sorted(list of nested data). -/
namespace Mv
open PySem PySem.Spec PyProof.Rows L2
open PySem.W (EachIs AllAlike Sortable dataLe)
/-- sorted(xs), xs nested data that can be compared: each thing with what it is -/
def rSortD (K : PySem.W.Frag) : List V → Hp → VK → Prop := fun vs H Q => ∃ (a : Addr) (ps : List (V × PyData)), vs = [.ref a] ∧ SqL K H a (ps.map (·.1)) ∧ (∀ p ∈ ps, Dp K H p.1 p.2) ∧ AllAlike (ps.map (·.2)) ∧ Sortable (ps.map (·.2)) ∧ (∀ p ∈ ps, p.2.depth ≤ 60) ∧
  ∀ r, H r = none → Q (.ref r) (upd H r (.lst ((ps.mergeSort (dataLe false fun p : V × PyData => p.2)).map (·.1))))
theorem each_vals {ps : List (V × PyData)} : ∀ {us : List Value}, Vals (ps.map (·.1)) us → EachIs (fun u (p : V × PyData) => RelV p.1 u) us ps := by
  induction ps with
  | nil =>
    intro us h
    cases h
    exact .nil
  | cons p ps ih =>
    intro us h
    cases h with
    | cons h1 h2 => exact .cons h1 (ih h2)
theorem vals_each {ps : List (V × PyData)} : ∀ {us : List Value}, EachIs (fun u (p : V × PyData) => RelV p.1 u) us ps → Vals (ps.map (·.1)) us := by
  induction ps with
  | nil =>
    intro us h
    cases h
    exact .nil
  | cons p ps ih =>
    intro us h
    cases h with
    | cons h1 h2 => exact .cons h1 (ih h2)
theorem each_mem2 {α β : Type} {R : α → β → Prop} {S : α → β → Prop} : ∀ {as : List α} {bs : List β}, EachIs R as bs → (∀ a b, b ∈ bs → R a b → S a b) → EachIs S as bs
  | _, _, .nil, _ => .nil
  | _, _, .cons h t, f => .cons (f _ _ List.mem_cons_self h) (each_mem2 t fun a b hb r => f a b (List.mem_cons_of_mem _ hb) r)
theorem cr_sortedD {X : Cx} (hu : X.A.units + 64 < cLine) : CallR X (.builtin "sorted") (rSortD X.K) := by
  intro pins s σ H vs us Q I r h
  obtain ⟨a, ps, rfl, hs, hd, hal, hsr, hdp, q⟩ := h
  obtain ⟨its, rv, hl, hz⟩ := I.list hs
  rw [Vals.ref1 r]
  have e := each_vals rv
  have er : EachIs (fun v (p : V × PyData) => ∃ as, Reads s.heap v p.2 as) its ps := each_mem2 e fun u p hp hr => Dp.reads I p.2 p.1 u (hd p hp) hr
  have hlen : ps.length ≤ sizeLine := by
    have := rv.length
    rw [List.length_map] at this
    rw [List.length_map] at hz
    exact hz
  refine PySem.W.sorted_data (enc := fun p : V × PyData => p.2) hl.isList e er hal hsr hlen (fun p hp => by have := hdp p hp; omega) fun out ho hout => ?_
  obtain ⟨ep, he'⟩ := PyProof.Rows.sortedAll_at s.heap its out.toArray
  have hv := vals_each hout
  have hml : ((ps.mergeSort (dataLe false fun p : V × PyData => p.2)).map (·.1)).length ≤ sizeLine := by
    rw [List.length_map, List.length_mergeSort]
    exact hlen
  exact ⟨.ref _, upd H (s.heap.objs.size + 1) (.lst ((ps.mergeSort (dataLe false fun p : V × PyData => p.2)).map (·.1))), I.laid (t' := s.toks) (fun _ _ => PyProof.Rows.sortedAll_old) (Nat.le_succ _) ⟨hml, out, ep, hv, by simpa using he'⟩, rfl, q _ (I.hok.fresh (Nat.le_succ _))⟩
end Mv
/-! o.m(k = v, ..), nothing by position. -/
namespace Mv
open PySem PySem.Spec PyProof.Rows L2
def tMethK (C : Addr) (m : Str) (j : Nat) (sp : Sp) (gV : List V → List V → List V) (E : XK) (ta : TE) (tk : TA) : TE := fun σ H Q => ta σ H fun x H1 => ∃ a dx fs, x = .ref a ∧ H1 a = some (.ins C dx fs) ∧ fs.lookup m = none ∧ tk σ H1 fun zs H2 => zs.length = j ∧ sp (gV [x] zs) H2 Q E
theorem pe_methK {X : Cx} {CX : CXT} {k : Nat} {f C : Addr} {m : Str} {fd : FuncData} {ps ks : List Str} {sp : Sp} {E : XK} {o : Expr} {apos pos : Pos} {kws : List Keyword} {ta : TE} {tk : TA} {g : List Value → List Value → List Value} {gV : List V → List V → List V} {pl : Sem Bool} (he : PE X o ta) (c : Cls X.K C) (hm : Meth X.K C m f)
    (F : FnOk X.prog X.w X.K X.mg X.base CX k f fd ps sp) (hr : Room k X.A) (hb : KBn X.K fd ps 1 ks g gV) (hx : Passes CX X E) (hkw : PK X kws tk)
    (hall : (backToKw pos (keywordEach kws X.env)).all (·.1.isSome) = true := by rfl) (hks : (backToKw pos (keywordEach kws X.env)).filterMap (·.1) = ks := by rfl)
    (hpl : ((backTo pos (starEach [] X.env)).any (·.1) || (backToKw pos (keywordEach kws X.env)).any (·.1.isNone)) = false := by rfl)
    (ht : eval (.Call (.Attribute o m apos) [] kws pos) X.env = (do
      let ov ← eval o X.env
      standAt apos.atName
      let (f, first) ← holding [ov] (getMethod ov m pl)
      callWith pos f first (backTo pos (starEach [] X.env)) (backToKw pos (keywordEach kws X.env))) := by rfl) : PE X (.Call (.Attribute o m apos) [] kws pos) (tMethK C m ks.length sp gV E ta tk) := by
  refine ⟨fun pins s σ H Q I h => ?_⟩
  refine PySem.W.methodCall_KW (pl := pl) (thn (he.run pins s σ H _ I h) fun u s1 ⟨x, H1, I1, rx, a, dx, fs, ex, ea, l, q⟩ => ?_) ht
  subst ex
  obtain rfl : u = Value.ref a := rx
  refine getmeth_ok I1 ea c hm l ?_
  refine PySem.W.callWith_KW0 (first := [.ref a]) (h₀ := X.base) I.ok.mod.kin hm.kp hall (thn (hkw.run pos pins s1 σ H1 _ I1 q) fun ws s2 ⟨zs, H2, I2, rz, l2, q2⟩ => ⟨I2.kIn, ?_⟩) hpl
  rw [hks]
  exact run_fnN (us := [.ref a]) (vs := [.ref a]) F hr hb hx I2 (.cons rfl .nil) rz rfl l2 q2
end Mv
/-! Calls within a try: instances made, methods, keywords. -/
namespace Mv
open PySem PySem.Spec PyProof.Rows L2
section
variable {X : Cx} {CX : CXT} {k n : Nat} {f C : Addr} {fd : FuncData} {ps ks : List Str} {sp : Sp} {E : L2.St → XK} {x m : Str} {p pos apos : Pos} {e o : Expr} {es : List Expr} {kws : List Keyword} {ta : TE} {t tk : TA} {g : List Value → List Value → List Value} {gV : List V → List V → List V} {dvs : List V} {ds : List Value}
theorem run_any {pins : List (Addr × Obj)} {σ : L2.St} {H : Hp} {s : Shared} {Q : VK} {E0 : XK} {args : Args} {us : List Value} {vs : List V} (F : FnOk X.prog X.w X.K X.mg X.base CX k f fd ps sp) (hr : Room k X.A) (hb : BindsTo s fd args (ps.zip us)) (hx : PassesAt CX X σ E0) (I : Inv X pins σ H s) (r : Vals vs us) (h : sp vs H Q E0) :
    wpAny (model X.prog X.w) X.A (call (.ref f) args.pos args.kw) (EP X pins σ Q) X.xe s := by
  refine wpAny_call (codeAny_mono (F.run X.A X.stack s H args us vs Q E0 hr I.env0 hb r h) fun r s' hq => ?_)
  match r, hq with
  | .error e, hq => exact hx pins H s e s' I hq
  | .ok (.ret u), hq => exact I.after hq
theorem made_any {pins : List (Addr × Obj)} {σ : L2.St} {H : Hp} {s : Shared} {Q : VK} {E0 : XK} {us : List Value} {kw : List (Str × Value)} {bs : List Value} {vs : List V} (M : Mk X.K C f) (F : FnOk X.prog X.w X.K X.mg X.base CX k f fd ps sp) (hr : Room (k + 1) X.A) (hb : ∀ (s' : Shared) (y : Addr), X.K.In s'.heap → BindsTo s' fd ⟨.ref y :: us, kw⟩ (ps.zip (.ref y :: bs))) (hx : PassesAt CX X σ E0) (I : Inv X pins σ H s) (r : Vals vs bs)
    (h : ∀ x dx, H x = none → H dx = none → dx ≠ x → sp (.ref x :: vs) (upd (upd H dx (.own x)) x (.ins C dx [])) (fun v H2 => v = .non ∧ Q (.ref x) H2) E0) : wpAny (model X.prog X.w) X.A (call (.ref C) us kw) (EP X pins σ Q) X.xe s := by
  have hq := h (s.heap.objs.size + 1) s.heap.objs.size (I.hok.fresh (Nat.le_succ _)) (I.hok.fresh (Nat.le_refl _)) (Nat.ne_of_lt (Nat.lt_succ_self _))
  have I2 := Inv.made (C := C) I
  refine wpAny_call (make_map (f := f) I.kIn M.makes M.init (beq_iff_eq.mp M.fn) (codeAny_mono (F.run _ X.stack _ _ ⟨Value.ref (s.heap.objs.size + 1) :: us, kw⟩ (Value.ref (s.heap.objs.size + 1) :: bs) (V.ref (s.heap.objs.size + 1) :: vs) _ E0 (hr.make C us kw) (I2.env0.make C us kw) (hb _ _ I2.kIn) (.cons rfl r) hq) fun r s' hq' => ?_))
  match r, hq' with
  | .error e, hq' => exact hx pins _ _ e s' I2 hq'
  | .ok (.ret u), hq' =>
    obtain ⟨v, H', I3, rv, ev, q3⟩ := I2.after hq'
    subst ev
    exact ⟨rv, V.ref (s.heap.objs.size + 1), H', I3, rfl, q3⟩
/-- C(e, ..) -/
def tMakeS (C : Addr) (sp : Sp) (dvs : List V) (E : L2.St → XK) (t : TA) : TE := fun σ H Q => t σ H fun vs H1 => ∀ x dx, H1 x = none → H1 dx = none → dx ≠ x → sp (.ref x :: (vs ++ dvs)) (upd (upd H1 dx (.own x)) x (.ins C dx [])) (fun v H2 => v = .non ∧ Q (.ref x) H2) (E σ)
theorem pe_makeS (M : Mk X.K C f) (F : FnOk X.prog X.w X.K X.mg X.base CX k f fd ps sp) (hr : Room (k + 1) X.A) (hg : Gl X x) (hm : X.mg x = some (.ref C)) (hb : Binds X.K fd ps ds) (hd : Vals dvs ds) (hx : ∀ σ, PassesAt CX X σ (E σ))
    (ha : PA X (e :: es) t) (hdb : (x == ("__debug__" : Str)) = false := by decide) (he : starEach (e :: es) X.env = (false, eval e X.env) :: starEach es X.env := by rfl) (hpl : (backTo pos (starEach es X.env)).any (·.1) = false := by rfl) : PE X (.Call (.Name x p) (e :: es) [] pos) (tMakeS C sp dvs E t) := by
  refine ⟨fun pins s σ H Q I h => wpAny_Call_Name_kw (ld_glob I hg hm ?_ hdb)⟩
  refine PySem.W.callWith_K (h₀ := X.base) I.ok.mod.kin M.kp (thn (ha.run pos pins s σ H _ I h) fun us s1 ⟨vs, H1, I1, r, q⟩ => ⟨I1.kIn, ?_⟩) he hpl
  have r2 : Vals (vs ++ dvs) (us ++ ds) := r.append hd
  have hl : ∀ y : Addr, (Value.ref y :: us ++ ds).length = ps.length := fun y => by
    have z := F.len _ _ _ _ (q (s1.heap.objs.size + 1) s1.heap.objs.size (I1.hok.fresh (Nat.le_succ _)) (I1.hok.fresh (Nat.le_refl _)) (Nat.ne_of_lt (Nat.lt_succ_self _)))
    rw [← z, List.length_cons, List.cons_append, List.length_cons, r2.length]
  exact made_any (us := us) (kw := []) M F hr (fun s' y K' => hb s' (.ref y :: us) K' (hl y)) (hx σ) I1 r2 q
/-- C(k = v, ..): fields in the order of gV -/
def tMakeKS (C : Addr) (j : Nat) (sp : Sp) (gV : List V → List V → List V) (E : L2.St → XK) (tk : TA) : TE := fun σ H Q => tk σ H fun zs H2 => zs.length = j ∧ ∀ x dx, H2 x = none → H2 dx = none → dx ≠ x → sp (gV [.ref x] zs) (upd (upd H2 dx (.own x)) x (.ins C dx [])) (fun v H3 => v = .non ∧ Q (.ref x) H3) (E σ)
theorem pe_makeKS (M : Mk X.K C f) (F : FnOk X.prog X.w X.K X.mg X.base CX k f fd ps sp) (hr : Room (k + 1) X.A) (hg : Gl X x) (hm : X.mg x = some (.ref C)) (hb : KBn X.K fd ps 1 ks g gV) (hgc : ∀ u ws, g [u] ws = u :: g [] ws) (hgv : ∀ u ws, gV [u] ws = u :: gV [] ws) (hgr : ∀ {zs : List V} {ws : List Value}, Vals zs ws → Vals (gV [] zs) (g [] ws)) (hx : ∀ σ, PassesAt CX X σ (E σ)) (hkw : PK X kws tk)
    (hall : (backToKw pos (keywordEach kws X.env)).all (·.1.isSome) = true := by rfl) (hks : (backToKw pos (keywordEach kws X.env)).filterMap (·.1) = ks := by rfl) (hdb : (x == ("__debug__" : Str)) = false := by decide)
    (hpl : ((backTo pos (starEach [] X.env)).any (·.1) || (backToKw pos (keywordEach kws X.env)).any (·.1.isNone)) = false := by rfl) : PE X (.Call (.Name x p) [] kws pos) (tMakeKS C ks.length sp gV E tk) := by
  refine ⟨fun pins s σ H Q I h => wpAny_Call_Name_kw (ld_glob I hg hm ?_ hdb)⟩
  refine PySem.W.callWith_KW0 (h₀ := X.base) I.ok.mod.kin M.kp hall (thn (hkw.run pos pins s σ H _ I h) fun ws s2 ⟨zs, H2, I2, rz, l2, q2⟩ => ⟨I2.kIn, ?_⟩) hpl
  rw [hks]
  refine made_any (us := []) (bs := g [] ws) (vs := gV [] zs) M F hr (fun s' y K' => ?_) (hx σ) I2 (hgr rz) fun x dx h1 h2 h3 => ?_
  · rw [← hgc]
    exact hb.to s' [.ref y] ws K' rfl (rz.length.symm.trans l2)
  · rw [← hgv]
    exact q2 x dx h1 h2 h3
/-- o.m(e, ..) -/
def tMethS' (C : Addr) (m : Str) (sp : Sp) (E : L2.St → XK) (ta : TE) (t : TA) : TE := fun σ H Q => ta σ H fun x H1 => ∃ a dx fs, x = .ref a ∧ H1 a = some (.ins C dx fs) ∧ fs.lookup m = none ∧ t σ H1 fun vs H2 => sp (x :: vs) H2 Q (E σ)
theorem pe_methS' {pl : Sem Bool} (he : PE X o ta) (c : Cls X.K C) (hm : Meth X.K C m f) (F : FnOk X.prog X.w X.K X.mg X.base CX k f fd ps sp) (hr : Room k X.A) (hb : Binds X.K fd ps []) (hx : ∀ σ, PassesAt CX X σ (E σ)) (ha : PA X (e :: es) t)
    (hst : starEach (e :: es) X.env = (false, eval e X.env) :: starEach es X.env := by rfl) (hpl : (backTo pos (starEach es X.env)).any (·.1) = false := by rfl)
    (ht : eval (.Call (.Attribute o m apos) (e :: es) [] pos) X.env = (do
      let ov ← eval o X.env
      standAt apos.atName
      let (f, first) ← holding [ov] (getMethod ov m pl)
      callWith pos f first (backTo pos (starEach (e :: es) X.env)) (backToKw pos (keywordEach [] X.env))) := by rfl) : PE X (.Call (.Attribute o m apos) (e :: es) [] pos) (tMethS' C m sp E ta t) := by
  refine ⟨fun pins s σ H Q I h => PySem.W.methodCall_KW (pl := pl) (thn (he.run pins s σ H _ I h) fun u s1 ⟨x, H1, I1, rx, a, dx, fs, ex, ea, l, q⟩ => ?_) ht⟩
  subst ex
  obtain rfl : u = Value.ref a := rx
  refine getmeth_ok I1 ea c hm l (PySem.W.callWith_K (first := [.ref a]) (h₀ := X.base) I.ok.mod.kin hm.kp (thn (ha.run pos pins s1 σ H1 _ I1 q) fun us s2 ⟨vs, H2, I2, r, q2⟩ => ⟨I2.kIn, ?_⟩) hst hpl)
  have r2 : Vals (V.ref a :: vs) (Value.ref a :: us) := .cons rfl r
  have b := hb s2 (.ref a :: us) I2.kIn (by rw [List.append_nil, ← r2.length]; exact F.len _ _ _ _ q2)
  rw [List.append_nil] at b
  exact run_any (args := ⟨.ref a :: us, []⟩) F hr b (hx σ) I2 r2 q2
/-- o.m(k = v, ..) -/
def tMethKS (C : Addr) (m : Str) (j : Nat) (sp : Sp) (gV : List V → List V → List V) (E : L2.St → XK) (ta : TE) (tk : TA) : TE := fun σ H Q => ta σ H fun x H1 => ∃ a dx fs, x = .ref a ∧ H1 a = some (.ins C dx fs) ∧ fs.lookup m = none ∧ tk σ H1 fun zs H2 => zs.length = j ∧ sp (gV [x] zs) H2 Q (E σ)
theorem pe_methKS {pl : Sem Bool} (he : PE X o ta) (c : Cls X.K C) (hm : Meth X.K C m f) (F : FnOk X.prog X.w X.K X.mg X.base CX k f fd ps sp) (hr : Room k X.A) (hb : KBn X.K fd ps 1 ks g gV) (hx : ∀ σ, PassesAt CX X σ (E σ)) (hkw : PK X kws tk)
    (hall : (backToKw pos (keywordEach kws X.env)).all (·.1.isSome) = true := by rfl) (hks : (backToKw pos (keywordEach kws X.env)).filterMap (·.1) = ks := by rfl)
    (hpl : ((backTo pos (starEach [] X.env)).any (·.1) || (backToKw pos (keywordEach kws X.env)).any (·.1.isNone)) = false := by rfl)
    (ht : eval (.Call (.Attribute o m apos) [] kws pos) X.env = (do
      let ov ← eval o X.env
      standAt apos.atName
      let (f, first) ← holding [ov] (getMethod ov m pl)
      callWith pos f first (backTo pos (starEach [] X.env)) (backToKw pos (keywordEach kws X.env))) := by rfl) : PE X (.Call (.Attribute o m apos) [] kws pos) (tMethKS C m ks.length sp gV E ta tk) := by
  refine ⟨fun pins s σ H Q I h => PySem.W.methodCall_KW (pl := pl) (thn (he.run pins s σ H _ I h) fun u s1 ⟨x, H1, I1, rx, a, dx, fs, ex, ea, l, q⟩ => ?_) ht⟩
  subst ex
  obtain rfl : u = Value.ref a := rx
  refine getmeth_ok I1 ea c hm l (PySem.W.callWith_KW0 (first := [.ref a]) (h₀ := X.base) I.ok.mod.kin hm.kp hall (thn (hkw.run pos pins s1 σ H1 _ I1 q) fun ws s2 ⟨zs, H2, I2, rz, l2, q2⟩ => ⟨I2.kIn, ?_⟩) hpl)
  rw [hks]
  have ra : Vals [V.ref a] [Value.ref a] := .cons rfl .nil
  exact run_any (args := ⟨[.ref a], ks.zip ws⟩) F hr (hb.to s2 [.ref a] ws I2.kIn rfl (rz.length.symm.trans l2)) (hx σ) I2 (hb.rel ra rz) q2
end
/-- nothing is raised: a def that might raise elsewhere -/
theorem pass_cx {X : Cx} : Passes (L2.CX X.prog X.w) X (fun _ _ _ => False) := fun _ _ _ _ _ _ _ h => by
  obtain ⟨_, _, _, _, _, _, _, _, _, _, _, _, z⟩ := h
  exact z.elim
end Mv
/-! f(k = v, ..) within a try. -/
namespace Mv
open PySem PySem.Spec PyProof.Rows L2
def tCallKS (j : Nat) (sp : Sp) (gV : List V → List V → List V) (E : L2.St → XK) (tk : TA) : TE := fun σ H Q => tk σ H fun zs H2 => zs.length = j ∧ sp (gV [] zs) H2 Q (E σ)
theorem pe_callKS {X : Cx} {CX : CXT} {k : Nat} {f : Addr} {x : Str} {fd : FuncData} {ps ks : List Str} {sp : Sp} {E : L2.St → XK} {p pos : Pos} {kws : List Keyword} {tk : TA} {g : List Value → List Value → List Value} {gV : List V → List V → List V}
    (F : FnOk X.prog X.w X.K X.mg X.base CX k f fd ps sp) (hr : Room k X.A) (hg : Gl X x) (hm : X.mg x = some (.ref f)) (hk : PySem.W.keepIn X.K (.ref f) = true) (hb : KBn X.K fd ps 0 ks g gV) (hx : ∀ σ, PassesAt CX X σ (E σ)) (hkw : PK X kws tk)
    (hall : (backToKw pos (keywordEach kws X.env)).all (·.1.isSome) = true := by rfl) (hks : (backToKw pos (keywordEach kws X.env)).filterMap (·.1) = ks := by rfl) (hdb : (x == ("__debug__" : Str)) = false := by decide)
    (hpl : ((backTo pos (starEach [] X.env)).any (·.1) || (backToKw pos (keywordEach kws X.env)).any (·.1.isNone)) = false := by rfl) :
    PE X (.Call (.Name x p) [] kws pos) (tCallKS ks.length sp gV E tk) := by
  refine ⟨fun pins s σ H Q I h => ?_⟩
  refine wpAny_Call_Name_kw (ld_glob I hg hm ?_ hdb)
  refine PySem.W.callWith_KW0 (first := []) (h₀ := X.base) I.ok.mod.kin hk hall (thn (hkw.run pos pins s σ H _ I h) fun ws s2 ⟨zs, H2, I2, rz, l2, q2⟩ => ⟨I2.kIn, ?_⟩) hpl
  rw [hks]
  exact run_any (args := ⟨[], ks.zip ws⟩) F hr (hb.to s2 [] ws I2.kIn rfl (rz.length.symm.trans l2)) (hx σ) I2 (hb.rel .nil rz) q2
end Mv
/-! sorted(list of lists, key=len). -/
namespace Mv
open PySem PySem.Spec PyProof.Rows L2
open PySem.W (EachIs AllAlike Sortable dataLe KeyPure)
def lenLe (p q : V × List V) : Bool := decide (p.2.length ≤ q.2.length)
def tSortLen (K : PySem.W.Frag) (te : TA) : TE := fun σ H Q => te σ H fun vs H1 => ∃ (a : Addr) (ps : List (V × List V)), vs = [.ref a] ∧ SqL K H1 a (ps.map (·.1)) ∧ (∀ p ∈ ps, ∃ q, p.1 = .ref q ∧ SqL K H1 q p.2) ∧
  ∀ r, H1 r = none → Q (.ref r) (upd H1 r (.lst ((ps.mergeSort lenLe).map (·.1))))
theorem each_valsG {β : Type} {ps : List (V × β)} : ∀ {us : List Value}, Vals (ps.map (·.1)) us → EachIs (fun u (p : V × β) => RelV p.1 u) us ps := by
  induction ps with
  | nil =>
    intro us h
    cases h
    exact .nil
  | cons p ps ih =>
    intro us h
    cases h with
    | cons h1 h2 => exact .cons h1 (ih h2)
theorem vals_eachG {β : Type} {ps : List (V × β)} : ∀ {us : List Value}, EachIs (fun u (p : V × β) => RelV p.1 u) us ps → Vals (ps.map (·.1)) us := by
  induction ps with
  | nil =>
    intro us h
    cases h
    exact .nil
  | cons p ps ih =>
    intro us h
    cases h with
    | cons h1 h2 => exact .cons h1 (ih h2)
theorem pe_sortedLen {X : Cx} {e : Expr} {ta : TA} {p p2 kp pos : Pos} (hu : X.A.units + 64 < cLine) (hg : Gl X "sorted") (hm : X.mg "sorted" = none) (hg2 : Gl X "len") (hm2 : X.mg "len" = none) (ha : PA X [e] ta)
    (he : backTo pos (starEach [e] X.env) = (false, eval e X.env) :: backTo pos (starEach [] X.env) := by rfl) (hpl : (backTo pos (starEach [e] X.env)).any (·.1) = false := by rfl) :
    PE X (.Call (.Name "sorted" p) [e] [⟨some "key", .Name "len" p2, kp⟩] pos) (tSortLen X.K ta) := by
  refine ⟨fun pins s σ H Q I h => ?_⟩
  refine wpAny_Call_Name_kw (ld_blt I hg hm PyProof.Rows.boot_sorted ?_)
  refine PyProof.Rows.callWith_kw (thn (ha.run pos pins s σ H _ I h) fun us s1 ⟨vs, H1, I1, r1, a, ps, ea, hs, hl, q⟩ => ?_) he hpl
  subst ea
  rw [Vals.ref1 r1]
  show wpAny _ _ (evalAll ((do let v ← eval (.Name "len" p2) X.env; standAt pos; pure v) :: [])) _ _ s1
  refine wpAny_evalAll_cons (wpAny_bind (ld_blt I1 hg2 hm2 PySem.boot_len (wpAny_bind (wpAny_standAt (wpAny_pure (wpAny_evalAll_nil ?_))))))
  obtain ⟨its, rv, hli, hz⟩ := I1.list hs
  have hlen : ps.length ≤ sizeLine := by
    rw [List.length_map] at hz
    exact hz
  have ee : EachIs (fun u (p : V × List V) => RelV p.1 u) its ps := each_valsG rv
  refine PySem.W.sorted_key_data (b := false) (fun p : V × List V => PyData.int p.2.length) hli.isList ee (AllAlike.of fun _ _ => rfl) (Sortable.others fun _ => ⟨(fun h => nomatch h), (fun _ h => nomatch h)⟩) hlen (fun p _ => ?_)
    (PyProof.Rows.ksk_s1 _ _) (fun _ => PyProof.Rows.ksk_l1 _ _) (fun _ => rfl) (fun v p hr hp h tk kp => ?_) fun out c h' tk kp fr hD ho hout => ?_
  · show X.A.units + 2 + 0 < cLine
    omega
  · obtain ⟨q0, e0, hq⟩ := hl p hp
    rw [e0] at hr
    obtain rfl : v = .ref q0 := hr
    obtain ⟨is2, rv2, hl2, hz2⟩ := I1.list hq
    have hn : is2.toArray.size = p.2.length := by rw [rv2.length] <;> rfl
    refine Calls.call_len_list (hl2.isList.at fun o e => kp q0 o e) ?_ ⟨h, tk + 1 + 1, rfl, fun b o e => e, ?_⟩
    · rw [hn]
      have := sizeLine_eq
      omega
    · rw [hn]
      exact .int _ _
  · have hv := vals_eachG hout
    rw [show (dataLe false fun p : V × List V => PyData.int p.2.length) = lenLe from by rw [PySem.W.dataLe_int (fun p : V × List V => (p.2.length : Int))]; funext a b; simp [lenLe]] at hv
    have hml : ((ps.mergeSort lenLe).map (·.1)).length ≤ sizeLine := by
      rw [List.length_map, List.length_mergeSort]
      exact hlen
    exact ⟨.ref _, upd H1 (s1.heap.objs.size + 1) (.lst ((ps.mergeSort lenLe).map (·.1))), I1.laid (t' := tk) kp (Nat.le_succ _) ⟨hml, out, c, hv, hD⟩, rfl, q _ (I1.hok.fresh (Nat.le_succ _))⟩
end Mv
/-! zip of three: a list and two tuples. -/
namespace Mv
open PySem PySem.Spec PyProof.Rows L2
/-- the list at a, the tuples at b and c as they stand at each turn, the items in new triples -/
def Itz3 (K : PySem.W.Frag) (a b c : Addr) : It :=
  ⟨fun i H => ∃ (xs ys zs : List V) (x y u : V), SqL K H a xs ∧ SqT K H b ys ∧ SqT K H c zs ∧ xs[i]? = some x ∧ ys[i]? = some y ∧ zs[i]? = some u,
    fun i H v H' => ∃ T x y u, v = .ref T ∧ H T = none ∧ H' = upd H T (.tup [x, y, u]) ∧ (∀ xs, SqL K H a xs → xs[i]? = some x) ∧ (∀ ys, SqT K H b ys → ys[i]? = some y) ∧ ∀ zs, SqT K H c zs → zs[i]? = some u,
    fun i H => ∃ xs ys zs : List V, SqL K H a xs ∧ SqT K H b ys ∧ SqT K H c zs ∧ i = min (min xs.length ys.length) zs.length⟩
theorem turn_zip3 {P : Program} {w : World} {K : PySem.W.Frag} {elts : List Expr} {kk : Nat} {tpos : Pos} {a b c z TI TO i1 i2 i3 : Addr} (S : ZipSep3 z TI TO i1 i2 i3 [i1, a] [i2, b] [i3, c]) (na : a ≠ i1) (nb : b ≠ i2) (nc : c ≠ i3) :
    Turn P w K (.Tuple elts kk tpos) (Itz3 K a b c) [z, TI, TO, i1, i2, i3] z (fun i h => IsZip h z TI TO .none ∧ IsTupOf3 h TI (.ref i1) (.ref i2) (.ref i3) ∧ (∃ a1 a2 a3, IsTupOf3 h TO a1 a2 a3) ∧ h.IsListIter i1 a i ∧ h.IsTupleIter i2 b i ∧ h.IsTupleIter i3 c i) where
  mem := by simp
  obj := fun i h st e he => by
    obtain ⟨hz, hTI, ⟨x, y, u, hTO⟩, ⟨o1, e1, _, d1⟩, ⟨o2, e2, _, d2⟩, ⟨o3, e3, _, d3⟩⟩ := st
    have e' : e = z ∨ e = TI ∨ e = TO ∨ e = i1 ∨ e = i2 ∨ e = i3 := by simpa using he
    rcases e' with q | q | q | q | q | q
    · rw [q]; exact ⟨_, hz, fun v q => nomatch q⟩
    · rw [q]; exact ⟨_, hTI, fun v q => nomatch q⟩
    · rw [q]; exact ⟨_, hTO, fun v q => nomatch q⟩
    · rw [q]; exact ⟨o1, e1, fun v q => by rw [d1] at q; cases q⟩
    · rw [q]; exact ⟨o2, e2, fun v q => by rw [d2] at q; cases q⟩
    · rw [q]; exact ⟨o3, e3, fun v q => by rw [d3] at q; cases q⟩
  keep := fun i h h' st k => by
    obtain ⟨hz, hTI, ⟨x, y, u, hTO⟩, h1, h2, h3⟩ := st
    exact ⟨k z (by simp) _ hz, k TI (by simp) _ hTI, ⟨x, y, u, k TO (by simp) _ hTO⟩, h1.at fun o q => k i1 (by simp) o q, h2.at fun o q => k i2 (by simp) o q, h3.at fun o q => k i3 (by simp) o q⟩
  item := by
    intro X hP hw hK hc i pins s σ H E I hf st hg
    subst hP hw hK
    obtain ⟨hz, hTI, hTO, h1, h2, h3⟩ := st
    obtain ⟨xs, ys, zs, x, y, u, qx, qy, qz, ex, ey, ez⟩ := hg
    obtain ⟨is1, r1, p1, _⟩ := I.list qx
    obtain ⟨is2, r2, p2, _⟩ := I.tuple qy
    obtain ⟨is3, r3, p3, _⟩ := I.tuple qz
    obtain ⟨u1, hu1, ru1⟩ := r1.get ex
    obtain ⟨u2, hu2, ru2⟩ := r2.get ey
    obtain ⟨u3, hu3, ru3⟩ := r3.get ez
    have hh : X.A.in1.handled = none := I.ok.hd hc
    have l1 : i < is1.length := by
      by_cases h : i < is1.length
      · exact h
      · rw [List.getElem?_eq_none (Nat.le_of_not_lt h)] at hu1; cases hu1
    have l2 : i < is2.length := by
      by_cases h : i < is2.length
      · exact h
      · rw [List.getElem?_eq_none (Nat.le_of_not_lt h)] at hu2; cases hu2
    have l3 : i < is3.length := by
      by_cases h : i < is3.length
      · exact h
      · rw [List.getElem?_eq_none (Nat.le_of_not_lt h)] at hu3; cases hu3
    have zl : ∀ e ∈ [z, TI, TO, i1, i2, i3], e < s.heap.objs.size := fun e he => by
      obtain ⟨x0, y0, z0, hTO⟩ := hTO
      have e' : e = z ∨ e = TI ∨ e = TO ∨ e = i1 ∨ e = i2 ∨ e = i3 := by simpa using he
      rcases e' with q | q | q | q | q | q
      · rw [q]; exact Heap.lt_size hz
      · rw [q]; exact Heap.lt_size hTI
      · rw [q]; exact Heap.lt_size hTO
      · rw [q]; obtain ⟨_, e1, _⟩ := h1; exact Heap.lt_size e1
      · rw [q]; obtain ⟨_, e1, _⟩ := h2; exact Heap.lt_size e1
      · rw [q]; obtain ⟨_, e1, _⟩ := h3; exact Heap.lt_size e1
    refine (GoesN.zip3 (prog := X.prog) (w := X.w) (A := X.A) (elts := elts) (x1 := kk) (pos := tpos) S (Draws.list (A := X.A.in1) hh i1 a na is1.toArray) (Draws.tuple (A := X.A.in1) hh i2 b nb is2.toArray) (Draws.tuple (A := X.A.in1) hh i3 c nc is3.toArray)).goes i s _ E
      (by simp; omega) ⟨hz, hTI, hTO, ⟨h1, p1.isList⟩, ⟨h2, p2⟩, ⟨h3, p3⟩⟩ fun v h' tk hY st' hk htk => ?_
    obtain ⟨T, v1, v2, v3, rfl, hT, g1, g2, g3, hv⟩ := hY
    have g1' : is1[i]? = some v1 := by simpa using g1
    have g2' : is2[i]? = some v2 := by simpa using g2
    have g3' : is3[i]? = some v3 := by simpa using g3
    rw [hu1] at g1'
    rw [hu2] at g2'
    rw [hu3] at g3'
    cases g1'
    cases g2'
    cases g3'
    have new : ObjOk X.prog X.w (upd H T (.tup [x, y, u])) h' T (.tup [x, y, u]) :=
      ⟨by show 3 ≤ sizeLine; decide, [u1, u2, u3], .cons ru1 (.cons ru2 (.cons ru3 .nil)), hv⟩
    have I1 : Inv X pins σ (upd H T (.tup [x, y, u])) { s with heap := h', toks := tk } :=
      I.turnedNew (t' := tk) (ch := [z, TO, i1, i2, i3]) (fun e o hb q => hk e o hb q) (fun e he => hf e (by simp at he ⊢; rcases he with q | q | q | q | q <;> simp [q])) hT new
    refine ⟨.ref T, _, I1, rfl, ⟨T, x, y, u, rfl, I.hok.fresh hT, rfl, fun l hl => by rw [I.list_inj hl qx]; exact ex, fun l hl => by rw [I.tuple_inj hl qy]; exact ey, fun l hl => by rw [I.tuple_inj hl qz]; exact ez⟩, ⟨st'.1, st'.2.1, st'.2.2.1, st'.2.2.2.1.1, st'.2.2.2.2.1.1, st'.2.2.2.2.2.1⟩, fun e he => ?_⟩
    rw [upd_ne (Nat.ne_of_lt (Nat.lt_of_lt_of_le (zl e he) hT))]
    exact (hf e he).1
  done := by
    intro X hP hw hK hc i pins s σ H E I hf st hg
    subst hP hw hK
    obtain ⟨hz, hTI, hTO, h1, h2, h3⟩ := st
    obtain ⟨xs, ys, zs, qx, qy, qz, rfl⟩ := hg
    obtain ⟨is1, r1, p1, _⟩ := I.list qx
    obtain ⟨is2, r2, p2, _⟩ := I.tuple qy
    obtain ⟨is3, r3, p3, _⟩ := I.tuple qz
    have l1 := r1.length
    have l2 := r2.length
    have l3 := r3.length
    have hh : X.A.in1.handled = none := I.ok.hd hc
    have en : min (min xs.length ys.length) zs.length = min (min is1.toArray.size is2.toArray.size) is3.toArray.size := by rw [l1, l2, l3] <;> rfl
    rw [en] at h1 h2 h3
    exact (GoesN.zip3 (prog := X.prog) (w := X.w) (A := X.A) (elts := elts) (x1 := kk) (pos := tpos) S (Draws.list (A := X.A.in1) hh i1 a na is1.toArray) (Draws.tuple (A := X.A.in1) hh i2 b nb is2.toArray) (Draws.tuple (A := X.A.in1) hh i3 c nc is3.toArray)).stops s _ E
      ⟨hz, hTI, hTO, ⟨h1, p1.isList⟩, ⟨h2, p2⟩, ⟨h3, p3⟩⟩ fun h' tk hk htk => I.turnedL (t' := tk) (ch := [z, TI, TO, i1, i2, i3]) (fun e o hb q => hk e o (fun q' => hb (by simp at q' ⊢; rcases q' with q | q | q | q | q <;> simp [q])) q) hf
  self := fun A i s Q E st h => wpAny_pyIter_zip st.1 h
def iZip3 (K : PySem.W.Frag) (ta : TA) : TI := fun σ H R => ta σ H fun vs H1 => ∃ a b c xs ys zs, vs = [.ref a, .ref b, .ref c] ∧ SqL K H1 a xs ∧ SqT K H1 b ys ∧ SqT K H1 c zs ∧ R (Itz3 K a b c) H1
theorem pi_zip3 {X : Cx} {e e2 e3 : Expr} {ta : TA} {p pos tpos : Pos} {elts : List Expr} {kk : Nat} (hg : Gl X "zip") (hm : X.mg "zip" = none) (ha : PA X [e, e2, e3] ta)
    (hs : starEach [e, e2, e3] X.env = (false, eval e X.env) :: starEach [e2, e3] X.env := by rfl) (hpl : (backTo pos (starEach [e2, e3] X.env)).any (·.1) = false := by rfl) :
    PI X (.Tuple elts kk tpos) (.Call (.Name "zip" p) [e, e2, e3] [] pos) (iZip3 X.K ta) := by
  refine ⟨fun pins s σ H R I h => ?_⟩
  refine Call_ (ld_blt I hg hm PyProof.Rows.boot_zip (PyProof.Rows.callWith_type1 (thn (ha.run pos pins s σ H _ I h) fun us s1 ⟨vs, H1, I1, r1, q1⟩ => ?_) hs hpl))
  obtain ⟨a, b, c, xs, ys, zs, ex, hqx, hqy, hqz, q⟩ := q1
  subst ex
  cases r1 with
  | cons r rr =>
    cases rr with
    | cons r' rr =>
      cases rr with
      | cons r'' rr =>
        cases rr
        cases r
        cases r'
        cases r''
        obtain ⟨is1, rv1, p1, _⟩ := I1.list hqx
        obtain ⟨is2, rv2, p2, _⟩ := I1.tuple hqy
        obtain ⟨is3, rv3, p3, _⟩ := I1.tuple hqz
        obtain ⟨o2, ho2, _⟩ := id p2
        obtain ⟨o3, ho3, _⟩ := id p3
        have la : a < s1.heap.objs.size := p1.lt
        have lb : b < s1.heap.objs.size := Heap.lt_size ho2
        have lc : c < s1.heap.objs.size := Heap.lt_size ho3
        have nx : ∀ e : Addr, (e = s1.heap.objs.size + 5 ∨ e = s1.heap.objs.size + 3 ∨ e = s1.heap.objs.size + 4 ∨ e = s1.heap.objs.size ∨ e = s1.heap.objs.size + 1 ∨ e = s1.heap.objs.size + 2) → s1.heap.objs.size ≤ e := fun e h => by
          rcases h with q | q | q | q | q | q <;> rw [q] <;> first | exact Nat.le_refl _ | exact Nat.le_add_right _ _
        have fresh : ∀ e, e ∈ [s1.heap.objs.size + 5, s1.heap.objs.size + 3, s1.heap.objs.size + 4, s1.heap.objs.size, s1.heap.objs.size + 1, s1.heap.objs.size + 2] → FpOk X pins H1 e := fun e he =>
          I1.fpOk (nx e (by simpa using he)) (I1.hok.fresh (nx e (by simpa using he)))
        refine zip_begins3 (begins_list a is1.toArray) (begins_tuple b is2.toArray) (begins_tuple c is3.toArray) p1.isList p2 p3 fun h' hz hTI hTO h1 h2 h3 hsz hk => wpAny_pyIter_zip hz ?_
        have I2 : Inv X pins σ H1 { s1 with heap := h' } := I1.kept (t' := s1.toks) hk
        exact ⟨s1.heap.objs.size + 5, [s1.heap.objs.size + 5, s1.heap.objs.size + 3, s1.heap.objs.size + 4, s1.heap.objs.size, s1.heap.objs.size + 1, s1.heap.objs.size + 2], _, _, H1, rfl, I2,
          turn_zip3 (zip_sep3 (fun e he => by rw [List.mem_singleton.mp he]; exact la) (fun e he => by rw [List.mem_singleton.mp he]; exact lb) (fun e he => by rw [List.mem_singleton.mp he]; exact lc)) (Nat.ne_of_lt la) (Nat.ne_of_lt (Nat.lt_succ_of_lt lb)) (Nat.ne_of_lt (Nat.lt_succ_of_lt (Nat.lt_succ_of_lt lc))),
          ⟨hz, hTI, ⟨_, _, _, hTO⟩, ⟨_, h1, rfl, rfl⟩, ⟨_, h2, rfl, rfl⟩, ⟨_, h3, rfl, rfl⟩⟩, fresh, q⟩
end Mv
/-! The text by places. -/
namespace Mv
open PySem PySem.Spec PyProof.Rows L2
theorem pi_listK {X : Cx} {K : PySem.W.Frag} (hK : X.K = K) {tg l : Expr} {tl : TE} (h : PE X l tl) : PI X tg l (iList K tl) := by
  subst hK
  exact pi_list h
theorem pe_bmK {X : Cx} {K : PySem.W.Frag} (hK : X.K = K) {T id : String} {name : Str} {r : V → List V → Hp → VK → Prop} {o e : Expr} {es : List Expr} {to : TE} {t : TA} {apos cpos : Pos} (pa : PlainAttrs T) (slot : Slot T name id) (hty : typeOf (.builtin id) = pure (.type "method_descriptor")) (hm : MtR X id r) (ho : PE X o to) (ha : PA X (e :: es) t)
    (hbase : attributeBase o name X.env (eval o X.env) = eval o X.env := by rfl)
    (hfew : ((backTo cpos (starEach (e :: es) X.env)).all (fun x => !x.1) && (backToKw cpos (keywordEach [] X.env)).all (fun x => x.1.isSome)
      && decide ((e :: es).length + ([] : List Keyword).length + (if ([] : List Keyword).isEmpty then 0 else 1) < 30)) = true := by rfl)
    (hline : (apos.endLine == cpos.line) = true := by rfl) (hs : starEach (e :: es) X.env = (false, eval e X.env) :: starEach es X.env := by rfl) (hplain : (backTo cpos (starEach es X.env)).any (·.1) = false := by rfl) :
    PE X (.Call (.Attribute o name apos) (e :: es) [] cpos) (tBM K T r to t) := by
  subst hK
  exact pe_bm pa slot hty hm ho ha hbase hfew hline hs hplain
theorem pe_fldK {X : Cx} {K : PySem.W.Frag} (hK : X.K = K) {e : Expr} {f : Str} {pos : Pos} {ta : TE} (he : PE X e ta) (hb : attributeBase e f X.env (eval e X.env) = eval e X.env) : PE X (.Attribute e f pos) (tFld K ta f) := by
  subst hK
  exact pe_fld he hb
theorem pe_revLK {X : Cx} {K : PySem.W.Frag} (hK : X.K = K) {e : Expr} {te : TE} {k : Nat} {p1 p2 p3 pos : Pos} (he : PE X e te) : PE X (.Subscript e (.Slice none none (some (.UnaryOp .USub (.Constant (.int 1) k p1) p2)) p3) pos) (tRevL K te) := by
  subst hK
  exact pe_revL he
theorem vals_rev {vs : List V} {us : List Value} (h : Vals vs us) : Vals vs.reverse us.reverse := by
  induction h with
  | nil => exact .nil
  | cons h1 h2 ih =>
    rw [List.reverse_cons, List.reverse_cons]
    exact ih.append (.cons h1 .nil)
theorem hu65_of {A : Around} {k : Nat} (hr : Room k A) : A.units + 65 < cLine := by have := hr.un; omega
theorem callR_or {X : Cx} {f : Value} {r1 r2 : List V → Hp → VK → Prop} (h1 : CallR X f r1) (h2 : CallR X f r2) : CallR X f (fun xs H Q => r1 xs H Q ∨ r2 xs H Q) := fun pins s σ H xs us Q I r h => h.elim (h1 pins s σ H xs us Q I r) (h2 pins s σ H xs us Q I r)
theorem hb_veT {c : Addr} : (Value.ref c :: veT).contains (.type "BaseException") = true := by rw [List.contains_cons, show veT.contains (.type "BaseException") = true by decide +kernel, Bool.or_true]
theorem hb_keT {c : Addr} : (Value.ref c :: keT).contains (.type "BaseException") = true := by rw [List.contains_cons, show keT.contains (.type "BaseException") = true by decide +kernel, Bool.or_true]
theorem hb_leT {c : Addr} : (Value.ref c :: leT).contains (.type "BaseException") = true := by rw [List.contains_cons, show leT.contains (.type "BaseException") = true by decide +kernel, Bool.or_true]
theorem boot_ValueError : bootBuiltins "ValueError" = some (.type "ValueError") := by decide +kernel
theorem boot_KeyError : bootBuiltins "KeyError" = some (.type "KeyError") := by decide +kernel
theorem boot_LookupError : bootBuiltins "LookupError" = some (.type "LookupError") := by decide +kernel
def top (i : Nat) : Stmt := PySem.Challenge.pw_orderwide_k04_rows_that_keep_dependencie.main.body.getD i (.Pass ⟨0, 0, 0, 0⟩)
abbrev s_is_integer : Stmt := top 17
abbrev s_is_name : Stmt := top 18
abbrev s_is_list : Stmt := top 19
abbrev s_is_row : Stmt := top 20
abbrev s_lies_in : Stmt := top 22
abbrev s_checked_columns : Stmt := top 25
abbrev s_need_column : Stmt := top 29
abbrev s_checked_pair : Stmt := top 30
abbrev s_subsets : Stmt := top 31
abbrev s_agreeing : Stmt := top 32
abbrev s_keep_pair : Stmt := top 33
abbrev s_are_rows : Stmt := top 34
abbrev s_need_rows : Stmt := top 35
abbrev s_first_unkept : Stmt := top 36
abbrev s_all_kept : Stmt := top 38
abbrev s__law_cell : Stmt := top 40
abbrev s__law_box : Stmt := top 41
abbrev s__law_take : Stmt := top 42
abbrev s__law_mixed : Stmt := top 43
abbrev s__law_same : Stmt := top 44
abbrev s__law_names : Stmt := top 45
abbrev s__law_pairs : Stmt := top 46
abbrev s__law_keep : Stmt := top 47
abbrev s__law_subsets : Stmt := top 48
abbrev s__law_told : Stmt := top 49
abbrev s__law_due_broken : Stmt := top 50
abbrev s__law_due_kept : Stmt := top 51
abbrev s__law_drawn_rows : Stmt := top 52
abbrev s__law_rows_right : Stmt := top 53
abbrev s__law_refused : Stmt := top 54
abbrev s_law : Stmt := top 55
abbrev s_Dependencies_init : Stmt := inClass (top 37) 0
abbrev s_Dependencies_broken : Stmt := inClass (top 37) 11
abbrev s_InvalidName : Stmt := inClass (top 5) 0
abbrev s_InvalidColumns : Stmt := inClass (top 6) 0
abbrev s_DuplicateName : Stmt := inClass (top 7) 0
abbrev s_InvalidRows : Stmt := inClass (top 8) 0
abbrev s_UnknownColumn : Stmt := inClass (top 9) 0
abbrev s_InvalidPairs : Stmt := inClass (top 11) 0
abbrev s_InvalidPair : Stmt := inClass (top 12) 0
abbrev N_is_integer : List Str := ["value", "low", "high"]
theorem sc_is_integer : FnScope N_is_integer ["value", "low", "high"] (defScope s_is_integer) := ⟨rfl, rfl, rfl, by decide +kernel, rfl, by decide +kernel, by decide +kernel⟩
abbrev N_is_name : List Str := ["value", "letter"]
theorem sc_is_name : FnScope N_is_name ["value"] (defScope s_is_name) := ⟨rfl, rfl, rfl, by decide +kernel, rfl, by decide +kernel, by decide +kernel⟩
abbrev N_is_list : List Str := ["value"]
theorem sc_is_list : FnScope N_is_list ["value"] (defScope s_is_list) := ⟨rfl, rfl, rfl, by decide +kernel, rfl, by decide +kernel, by decide +kernel⟩
abbrev N_is_row : List Str := ["value", "width", "item"]
theorem sc_is_row : FnScope N_is_row ["value", "width"] (defScope s_is_row) := ⟨rfl, rfl, rfl, by decide +kernel, rfl, by decide +kernel, by decide +kernel⟩
abbrev N_lies_in : List Str := ["some", "others", "column"]
theorem sc_lies_in : FnScope N_lies_in ["some", "others"] (defScope s_lies_in) := ⟨rfl, rfl, rfl, by decide +kernel, rfl, by decide +kernel, by decide +kernel⟩
abbrev N_checked_columns : List Str := ["columns", "found", "name"]
theorem sc_checked_columns : FnScope N_checked_columns ["columns"] (defScope s_checked_columns) := ⟨rfl, rfl, rfl, by decide +kernel, rfl, by decide +kernel, by decide +kernel⟩
abbrev N_need_column : List Str := ["known", "name", "earlier"]
theorem sc_need_column : FnScope N_need_column ["known", "name", "earlier"] (defScope s_need_column) := ⟨rfl, rfl, rfl, by decide +kernel, rfl, by decide +kernel, by decide +kernel⟩
abbrev N_checked_pair : List Str := ["known", "value", "left", "right", "at", "name"]
theorem sc_checked_pair : FnScope N_checked_pair ["known", "value"] (defScope s_checked_pair) := ⟨rfl, rfl, rfl, by decide +kernel, rfl, by decide +kernel, by decide +kernel⟩
abbrev N_subsets : List Str := ["names", "found", "size", "some"]
theorem sc_subsets : FnScope N_subsets ["names"] (defScope s_subsets) := ⟨rfl, rfl, rfl, by decide +kernel, rfl, by decide +kernel, by decide +kernel⟩
abbrev N_agreeing : List Str := ["columns", "one", "other", "column", "mine", "theirs"]
theorem sc_agreeing : FnScope N_agreeing ["columns", "one", "other"] (defScope s_agreeing) := ⟨rfl, rfl, rfl, by decide +kernel, rfl, by decide +kernel, by decide +kernel⟩
abbrev N_keep_pair : List Str := ["columns", "pair", "one", "other", "agreed", "column"]
theorem sc_keep_pair : FnScope N_keep_pair ["columns", "pair", "one", "other"] (defScope s_keep_pair) := ⟨rfl, rfl, rfl, by decide +kernel, rfl, by decide +kernel, by decide +kernel⟩
abbrev N_are_rows : List Str := ["columns", "value", "row"]
theorem sc_are_rows : FnScope N_are_rows ["columns", "value"] (defScope s_are_rows) := ⟨rfl, rfl, rfl, by decide +kernel, rfl, by decide +kernel, by decide +kernel⟩
abbrev N_need_rows : List Str := ["columns", "rows"]
theorem sc_need_rows : FnScope N_need_rows ["columns", "rows"] (defScope s_need_rows) := ⟨rfl, rfl, rfl, by decide +kernel, rfl, by decide +kernel, by decide +kernel⟩
abbrev N_first_unkept : List Str := ["columns", "pair", "rows", "at", "one", "later", "other"]
theorem sc_first_unkept : FnScope N_first_unkept ["columns", "pair", "rows"] (defScope s_first_unkept) := ⟨rfl, rfl, rfl, by decide +kernel, rfl, by decide +kernel, by decide +kernel⟩
abbrev N_all_kept : List Str := ["columns", "rows", "known", "found", "right", "kept", "left", "less", "name", "some"]
theorem sc_all_kept : FnScope N_all_kept ["columns", "rows"] (defScope s_all_kept) := ⟨rfl, rfl, rfl, by decide +kernel, rfl, by decide +kernel, by decide +kernel⟩
abbrev N__law_cell : List Str := ["script", "k"]
theorem sc__law_cell : FnScope N__law_cell ["script", "k"] (defScope s__law_cell) := ⟨rfl, rfl, rfl, by decide +kernel, rfl, by decide +kernel, by decide +kernel⟩
abbrev N__law_box : List Str := ["great"]
theorem sc__law_box : FnScope N__law_box ["great"] (defScope s__law_box) := ⟨rfl, rfl, rfl, by decide +kernel, rfl, by decide +kernel, by decide +kernel⟩
abbrev N__law_take : List Str := ["box", "many", "digit", "mixed"]
theorem sc__law_take : FnScope N__law_take ["box", "many"] (defScope s__law_take) := ⟨rfl, rfl, rfl, by decide +kernel, rfl, by decide +kernel, by decide +kernel⟩
abbrev N__law_mixed : List Str := ["box", "items", "left", "found", "k"]
theorem sc__law_mixed : FnScope N__law_mixed ["box", "items"] (defScope s__law_mixed) := ⟨rfl, rfl, rfl, by decide +kernel, rfl, by decide +kernel, by decide +kernel⟩
abbrev N__law_same : List Str := ["given", "due", "k"]
theorem sc__law_same : FnScope N__law_same ["given", "due"] (defScope s__law_same) := ⟨rfl, rfl, rfl, by decide +kernel, rfl, by decide +kernel, by decide +kernel⟩
abbrev N__law_names : List Str := ["box", "many"]
theorem sc__law_names : FnScope N__law_names ["box", "many"] (defScope s__law_names) := ⟨rfl, rfl, rfl, by decide +kernel, rfl, by decide +kernel, by decide +kernel⟩
abbrev N__law_pairs : List Str := ["box", "columns", "most", "found", "k", "order", "size"]
theorem sc__law_pairs : FnScope N__law_pairs ["box", "columns", "most"] (defScope s__law_pairs) := ⟨rfl, rfl, rfl, by decide +kernel, rfl, by decide +kernel, by decide +kernel⟩
abbrev N__law_keep : List Str := ["columns", "pairs", "rows", "left", "right", "at", "places", "seen", "row", "key", "name", "place"]
theorem sc__law_keep : FnScope N__law_keep ["columns", "pairs", "rows"] (defScope s__law_keep) := ⟨rfl, rfl, rfl, by decide +kernel, rfl, by decide +kernel, by decide +kernel⟩
abbrev N__law_subsets : List Str := ["names", "found", "name", "some"]
theorem sc__law_subsets : FnScope N__law_subsets ["names"] (defScope s__law_subsets) := ⟨rfl, rfl, rfl, by decide +kernel, rfl, by decide +kernel, by decide +kernel⟩
abbrev N__law_told : List Str := ["word", "thing", "rows", "by_name", "e"]
theorem sc__law_told : FnScope N__law_told ["word", "thing", "rows", "by_name"] (defScope s__law_told) := ⟨rfl, rfl, rfl, by decide +kernel, rfl, by decide +kernel, by decide +kernel⟩
abbrev N__law_due_broken : List Str := ["columns", "pairs", "rows", "left", "right", "at", "other"]
theorem sc__law_due_broken : FnScope N__law_due_broken ["columns", "pairs", "rows"] (defScope s__law_due_broken) := ⟨rfl, rfl, rfl, by decide +kernel, rfl, by decide +kernel, by decide +kernel⟩
abbrev N__law_due_kept : List Str := ["columns", "rows", "found", "right", "others", "held", "left", "name", "some"]
theorem sc__law_due_kept : FnScope N__law_due_kept ["columns", "rows"] (defScope s__law_due_kept) := ⟨rfl, rfl, rfl, by decide +kernel, rfl, by decide +kernel, by decide +kernel⟩
abbrev N__law_drawn_rows : List Str := ["box", "columns", "pairs", "way", "values", "found", "turn", "row", "more", "name"]
theorem sc__law_drawn_rows : FnScope N__law_drawn_rows ["box", "columns", "pairs"] (defScope s__law_drawn_rows) := ⟨rfl, rfl, rfl, by decide +kernel, rfl, by decide +kernel, by decide +kernel⟩
abbrev N__law_rows_right : List Str := ["box", "columns", "pairs", "rules", "by_name", "rows", "known", "due", "turn", "passed", "told", "kept", "left", "right"]
theorem sc__law_rows_right : FnScope N__law_rows_right ["box", "columns", "pairs", "rules", "by_name"] (defScope s__law_rows_right) := ⟨rfl, rfl, rfl, by decide +kernel, rfl, by decide +kernel, by decide +kernel⟩
abbrev N__law_refused : List Str := ["box", "columns", "rules", "by_name", "width", "row", "other", "many", "values", "value", "word", "thing", "told", "wrong", "k"]
theorem sc__law_refused : FnScope N__law_refused ["box", "columns", "rules", "by_name"] (defScope s__law_refused) := ⟨rfl, rfl, rfl, by decide +kernel, rfl, by decide +kernel, by decide +kernel⟩
abbrev N_law : List Str := ["script", "k", "box", "by_name", "columns", "pairs", "rules", "turn"]
theorem sc_law : FnScope N_law ["script"] (defScope s_law) := ⟨rfl, rfl, rfl, by decide +kernel, rfl, by decide +kernel, by decide +kernel⟩
abbrev N_Dependencies_init : List Str := ["self", "columns", "pairs", "found", "value", "pair"]
theorem sc_Dependencies_init : FnScope N_Dependencies_init ["self", "columns", "pairs"] (defScope s_Dependencies_init) := ⟨rfl, rfl, rfl, by decide +kernel, rfl, by decide +kernel, by decide +kernel⟩
abbrev N_Dependencies_broken : List Str := ["self", "rows", "left", "right", "found"]
theorem sc_Dependencies_broken : FnScope N_Dependencies_broken ["self", "rows"] (defScope s_Dependencies_broken) := ⟨rfl, rfl, rfl, by decide +kernel, rfl, by decide +kernel, by decide +kernel⟩
/-- a def of the text as it lies -/
structure FD (K : PySem.W.Frag) (mg : Str → Option Value) (x : Str) (st : Stmt) (f : Addr) (fd : FuncData) (ps : List Str) : Prop where
  fn : Fun K x x st f fd
  m : mg x = some (.ref f)
  kp : PySem.W.keepIn K (.ref f) = true
  b : Binds K fd ps []
/-- a method, its defaults at dV -/
structure MD (K : PySem.W.Frag) (x q : Str) (st : Stmt) (f : Addr) (fd : FuncData) (ps : List Str) : Prop where
  fn : ∃ (oc : Value) (od : Option Addr) (dV kV doc pm : Value) (an : Option Addr) (cdv ct : Value) (osl : Array (Option Value)), fd = PySem.W.fnOf x q (defArgs st) (defBody st) (defScope st) dV kV doc pm an cdv ct ∧ K.lookup f = some ⟨oc, od, .func fd, osl⟩ ∧ PySem.W.codeIn K cdv q = true
  b : Binds K fd ps []
structure All (K : PySem.W.Frag) (mg : Str → Option Value) (a : Nat → Addr) (d : Nat → FuncData) (tk : Nat → Tok) (c ci : Nat → Addr) (di : Nat → FuncData) : Prop where
  n_bool : mg "bool" = none
  n_int : mg "int" = none
  n_str : mg "str" = none
  n_list : mg "list" = none
  n_tuple : mg "tuple" = none
  n_set : mg "set" = none
  n_zip : mg "zip" = none
  n_len : mg "len" = none
  n_isinstance : mg "isinstance" = none
  n_all : mg "all" = none
  n_any : mg "any" = none
  n_sorted : mg "sorted" = none
  n_enumerate : mg "enumerate" = none
  n_max : mg "max" = none
  n_min : mg "min" = none
  n_range : mg "range" = none
  n_sum : mg "sum" = none
  n_repr : mg "repr" = none
  n_abs : mg "abs" = none
  n_ValueError : mg "ValueError" = none
  n_KeyError : mg "KeyError" = none
  n_LookupError : mg "LookupError" = none
  c_LETTERS : mg "LETTERS" = some (.str "abcdefghijklmnopqrstuvwxyz" (tk 0))
  c_LONGEST_NAME : mg "LONGEST_NAME" = some (.int 8 (tk 1))
  c_MOST_VALUE : mg "MOST_VALUE" = some (.int 999 (tk 2))
  c_MOST_COLUMNS : mg "MOST_COLUMNS" = some (.int 5 (tk 3))
  c_MOST_ROWS : mg "MOST_ROWS" = some (.int 40 (tk 4))
  c_MOST_PAIRS : mg "MOST_PAIRS" = some (.int 10 (tk 5))
  F_is_integer : FD K mg "is_integer" s_is_integer (a 0) (d 0) ["value", "low", "high"]
  F_is_name : FD K mg "is_name" s_is_name (a 1) (d 1) ["value"]
  F_is_list : FD K mg "is_list" s_is_list (a 2) (d 2) ["value"]
  F_is_row : FD K mg "is_row" s_is_row (a 3) (d 3) ["value", "width"]
  F_lies_in : FD K mg "lies_in" s_lies_in (a 4) (d 4) ["some", "others"]
  F_checked_columns : FD K mg "checked_columns" s_checked_columns (a 5) (d 5) ["columns"]
  F_need_column : FD K mg "need_column" s_need_column (a 6) (d 6) ["known", "name", "earlier"]
  F_checked_pair : FD K mg "checked_pair" s_checked_pair (a 7) (d 7) ["known", "value"]
  F_subsets : FD K mg "subsets" s_subsets (a 8) (d 8) ["names"]
  F_agreeing : FD K mg "agreeing" s_agreeing (a 9) (d 9) ["columns", "one", "other"]
  F_keep_pair : FD K mg "keep_pair" s_keep_pair (a 10) (d 10) ["columns", "pair", "one", "other"]
  F_are_rows : FD K mg "are_rows" s_are_rows (a 11) (d 11) ["columns", "value"]
  F_need_rows : FD K mg "need_rows" s_need_rows (a 12) (d 12) ["columns", "rows"]
  F_first_unkept : FD K mg "first_unkept" s_first_unkept (a 13) (d 13) ["columns", "pair", "rows"]
  F_all_kept : FD K mg "all_kept" s_all_kept (a 14) (d 14) ["columns", "rows"]
  F__law_cell : FD K mg "_law_cell" s__law_cell (a 15) (d 15) ["script", "k"]
  F__law_box : FD K mg "_law_box" s__law_box (a 16) (d 16) ["great"]
  F__law_take : FD K mg "_law_take" s__law_take (a 17) (d 17) ["box", "many"]
  F__law_mixed : FD K mg "_law_mixed" s__law_mixed (a 18) (d 18) ["box", "items"]
  F__law_same : FD K mg "_law_same" s__law_same (a 19) (d 19) ["given", "due"]
  F__law_names : FD K mg "_law_names" s__law_names (a 20) (d 20) ["box", "many"]
  F__law_pairs : FD K mg "_law_pairs" s__law_pairs (a 21) (d 21) ["box", "columns", "most"]
  F__law_keep : FD K mg "_law_keep" s__law_keep (a 22) (d 22) ["columns", "pairs", "rows"]
  F__law_subsets : FD K mg "_law_subsets" s__law_subsets (a 23) (d 23) ["names"]
  F__law_told : FD K mg "_law_told" s__law_told (a 24) (d 24) ["word", "thing", "rows", "by_name"]
  F__law_due_broken : FD K mg "_law_due_broken" s__law_due_broken (a 25) (d 25) ["columns", "pairs", "rows"]
  F__law_due_kept : FD K mg "_law_due_kept" s__law_due_kept (a 26) (d 26) ["columns", "rows"]
  F__law_drawn_rows : FD K mg "_law_drawn_rows" s__law_drawn_rows (a 27) (d 27) ["box", "columns", "pairs"]
  F__law_rows_right : FD K mg "_law_rows_right" s__law_rows_right (a 28) (d 28) ["box", "columns", "pairs", "rules", "by_name"]
  F__law_refused : FD K mg "_law_refused" s__law_refused (a 29) (d 29) ["box", "columns", "rules", "by_name"]
  F_law : FD K mg "law" s_law (a 30) (d 30) ["script"]
  F_Dependencies_init : MD K "__init__" "Dependencies.__init__" s_Dependencies_init (a 31) (d 31) ["self", "columns", "pairs"]
  F_Dependencies_broken : MD K "broken" "Dependencies.broken" s_Dependencies_broken (a 32) (d 32) ["self", "rows"]
  c_combinations : mg "combinations" = some (.type "itertools.combinations")
  K_Dependencies_broken : KBn K (d 32) ["self", "rows"] 1 ["rows"] (fun us ws => us ++ ws.reverse) (fun vs zs => vs ++ zs.reverse)
  K_all_kept : KBn K (d 14) ["columns", "rows"] 0 ["rows", "columns"] (fun us ws => us ++ ws.reverse) (fun vs zs => vs ++ zs.reverse)
  B_SearchError : BsF K mg "SearchError" (c 7) veT "ValueError.__init__"
  B_MissingError : BsF K mg "MissingError" (c 8) keT "KeyError.__init__"
  X_InvalidName : ExF K mg "InvalidName" "InvalidName.__init__" s_InvalidName (c 0) (ci 0) (di 0) ["value"] (.ref (c 7) :: veT) "ValueError.__new__"
  X_InvalidColumns : ExF K mg "InvalidColumns" "InvalidColumns.__init__" s_InvalidColumns (c 1) (ci 1) (di 1) ["value"] (.ref (c 7) :: veT) "ValueError.__new__"
  X_DuplicateName : ExF K mg "DuplicateName" "DuplicateName.__init__" s_DuplicateName (c 2) (ci 2) (di 2) ["name"] (.ref (c 7) :: veT) "ValueError.__new__"
  X_InvalidRows : ExF K mg "InvalidRows" "InvalidRows.__init__" s_InvalidRows (c 3) (ci 3) (di 3) ["value"] (.ref (c 7) :: veT) "ValueError.__new__"
  X_UnknownColumn : ExF K mg "UnknownColumn" "UnknownColumn.__init__" s_UnknownColumn (c 4) (ci 4) (di 4) ["column"] (.ref (c 8) :: keT) "LookupError.__new__"
  X_InvalidPairs : ExF K mg "InvalidPairs" "InvalidPairs.__init__" s_InvalidPairs (c 5) (ci 5) (di 5) ["value"] (.ref (c 7) :: veT) "ValueError.__new__"
  X_InvalidPair : ExF K mg "InvalidPair" "InvalidPair.__init__" s_InvalidPair (c 6) (ci 6) (di 6) ["value"] (.ref (c 7) :: veT) "ValueError.__new__"
  inj : ∀ i j, i < 9 → j < 9 → c i = c j → i = j
  hn : PySem.W.specialIn K (.builtin "object.__class__") "__get__" = some (some (.builtin "getset_descriptor.__get__"))
  ht : PySem.W.takesIn K (.builtin "object.__class__") = some true
  m_Dependencies : mg "Dependencies" = some (.ref (c 9))
  C_Dependencies : Cls K (c 9)
  M_Dependencies : Mk K (c 9) (a 31)
  R_Dependencies_broken : Meth K (c 9) "broken" (a 32)
  A_Dependencies_own_columns : NoAttr K (c 9) "own_columns"
  A_Dependencies_own_pairs : NoAttr K (c 9) "own_pairs"
  H_Dependencies : PySem.W.findIn K (.ref (c 9)) "__class__" = some (some (.builtin "object.__class__"))
  O_Dependencies : PySem.W.mroIn K (c 9) (.type "object") = some true
  S_Dependencies_bool : PySem.W.subIn K (.ref (c 9)) (.type "bool") = some false
  S_Dependencies_int : PySem.W.subIn K (.ref (c 9)) (.type "int") = some false
  S_Dependencies_str : PySem.W.subIn K (.ref (c 9)) (.type "str") = some false
  S_Dependencies_list : PySem.W.subIn K (.ref (c 9)) (.type "list") = some false
  S_Dependencies_tuple : PySem.W.subIn K (.ref (c 9)) (.type "tuple") = some false
theorem MD.ok {P : Program} {w : World} {K : PySem.W.Frag} {mg : Str → Option Value} {base : Heap} {x q : Str} {st : Stmt} {f : Addr} {fd : FuncData} {N ps : List Str} {k : Nat} {sp : Sp} (F : MD K x q st f fd ps) (S : FnScope N ps (defScope st)) (len : ∀ vs H Q E, sp vs H Q E → vs.length = ps.length)
    (hbody : ∀ (cdv : Value) (A : Around) (outer : List Env) (s : Shared) (H : Hp) (vs : List V) (Q : VK) (E : XK), Room k (A.deeper (envOfC q (defScope st) s.heap.objs.size f cdv)) → sp vs H Q E →
      ∃ t, PSs (cxOf CX0 P w K mg base N q (defScope st) f cdv A outer s H E).nox (defBody st) t ∧ t { nx := fun _ H' => Q .non H', rt := Q } (start N vs) H) : FnOk P w K mg base CX0 (k + 1) f fd ps sp := by
  obtain ⟨oc, od, dV, kV, doc, pm, an, cdv, ct, osl, rfl, lk, hcd⟩ := F.fn
  refine fn_of lk hcd S len fun A outer s H vs Q E hr hsp => ?_
  obtain ⟨t, ht, hq⟩ := hbody cdv A outer s H vs Q E hr hsp
  exact ⟨t, ht.nox, hq⟩
theorem MD.okG {P : Program} {w : World} {K : PySem.W.Frag} {mg : Str → Option Value} {base : Heap} {x q : Str} {st : Stmt} {f : Addr} {fd : FuncData} {N ps : List Str} {k : Nat} {sp : Sp} (F : MD K x q st f fd ps) (S : FnScope N ps (defScope st)) (len : ∀ vs H Q E, sp vs H Q E → vs.length = ps.length)
    (hbody : ∀ (cdv : Value) (A : Around) (outer : List Env) (s : Shared) (H : Hp) (vs : List V) (Q : VK) (E : XK), (A.deeper (envOfC q (defScope st) s.heap.objs.size f cdv)).guards = some [] → Room k (A.deeper (envOfC q (defScope st) s.heap.objs.size f cdv)) → sp vs H Q E →
      ∃ t, PSs (cxOf CX0 P w K mg base N q (defScope st) f cdv A outer s H E).nox (defBody st) t ∧ t { nx := fun _ H' => Q .non H', rt := Q } (start N vs) H) : FnG P w K mg base CX0 (k + 1) f fd ps sp := by
  obtain ⟨oc, od, dV, kV, doc, pm, an, cdv, ct, osl, rfl, lk, hcd⟩ := F.fn
  refine fn_ofG lk hcd S len fun A outer s H vs Q E hgd hr hsp => ?_
  obtain ⟨t, ht, hq⟩ := hbody cdv A outer s H vs Q E hgd hr hsp
  exact ⟨t, ht.nox, hq⟩
section
variable {P : Program} {w : World} {K : PySem.W.Frag} {mg : Str → Option Value} {base : Heap} {a : Nat → Addr} {d : Nat → FuncData} {tk : Nat → Tok} {c ci : Nat → Addr} {di : Nat → FuncData}
theorem bi_SearchError (T : All K mg a d tk c ci di) : BaseI K mg "SearchError" "ValueError.__init__" := T.B_SearchError.bi (by decide +kernel)
theorem bi_MissingError (T : All K mg a d tk c ci di) : BaseI K mg "MissingError" "KeyError.__init__" := T.B_MissingError.bi (by decide +kernel)
theorem exT_InvalidName (T : All K mg a d tk c ci di) : ExT P w K mg base "InvalidName" (c 0) ["value"] :=
  T.X_InvalidName.t (exB_ve.ref) hb_veT (ok_in1 T.X_InvalidName.fn (bi_SearchError T) (T.X_InvalidName.oe (exB_ve.ref) hb_veT) (T.X_InvalidName.no "value" (by decide)) ⟨rfl, rfl, rfl, by decide +kernel, rfl, by decide +kernel, by decide +kernel⟩ rfl (by decide) (Or.inl rfl) (Or.inl rfl) (by decide) (by decide) _ (fun _ _ _ => rfl) rfl)
theorem exT_InvalidColumns (T : All K mg a d tk c ci di) : ExT P w K mg base "InvalidColumns" (c 1) ["value"] :=
  T.X_InvalidColumns.t (exB_ve.ref) hb_veT (ok_in1 T.X_InvalidColumns.fn (bi_SearchError T) (T.X_InvalidColumns.oe (exB_ve.ref) hb_veT) (T.X_InvalidColumns.no "value" (by decide)) ⟨rfl, rfl, rfl, by decide +kernel, rfl, by decide +kernel, by decide +kernel⟩ rfl (by decide) (Or.inl rfl) (Or.inl rfl) (by decide) (by decide) _ (fun _ _ _ => rfl) rfl)
theorem exT_DuplicateName (T : All K mg a d tk c ci di) : ExT P w K mg base "DuplicateName" (c 2) ["name"] :=
  T.X_DuplicateName.t (exB_ve.ref) hb_veT (ok_in1 T.X_DuplicateName.fn (bi_SearchError T) (T.X_DuplicateName.oe (exB_ve.ref) hb_veT) (T.X_DuplicateName.no "name" (by decide)) ⟨rfl, rfl, rfl, by decide +kernel, rfl, by decide +kernel, by decide +kernel⟩ rfl (by decide) (Or.inl rfl) (Or.inl rfl) (by decide) (by decide) _ (fun _ _ _ => rfl) rfl)
theorem exT_InvalidRows (T : All K mg a d tk c ci di) : ExT P w K mg base "InvalidRows" (c 3) ["value"] :=
  T.X_InvalidRows.t (exB_ve.ref) hb_veT (ok_in1 T.X_InvalidRows.fn (bi_SearchError T) (T.X_InvalidRows.oe (exB_ve.ref) hb_veT) (T.X_InvalidRows.no "value" (by decide)) ⟨rfl, rfl, rfl, by decide +kernel, rfl, by decide +kernel, by decide +kernel⟩ rfl (by decide) (Or.inl rfl) (Or.inl rfl) (by decide) (by decide) _ (fun _ _ _ => rfl) rfl)
theorem exT_UnknownColumn (T : All K mg a d tk c ci di) : ExT P w K mg base "UnknownColumn" (c 4) ["column"] :=
  T.X_UnknownColumn.t (exB_ke.ref) hb_keT (ok_in1 T.X_UnknownColumn.fn (bi_MissingError T) (T.X_UnknownColumn.oe (exB_ke.ref) hb_keT) (T.X_UnknownColumn.no "column" (by decide)) ⟨rfl, rfl, rfl, by decide +kernel, rfl, by decide +kernel, by decide +kernel⟩ rfl (by decide) (Or.inl rfl) (Or.inl rfl) (by decide) (by decide) _ (fun _ _ _ => rfl) rfl)
theorem exT_InvalidPairs (T : All K mg a d tk c ci di) : ExT P w K mg base "InvalidPairs" (c 5) ["value"] :=
  T.X_InvalidPairs.t (exB_ve.ref) hb_veT (ok_in1 T.X_InvalidPairs.fn (bi_SearchError T) (T.X_InvalidPairs.oe (exB_ve.ref) hb_veT) (T.X_InvalidPairs.no "value" (by decide)) ⟨rfl, rfl, rfl, by decide +kernel, rfl, by decide +kernel, by decide +kernel⟩ rfl (by decide) (Or.inl rfl) (Or.inl rfl) (by decide) (by decide) _ (fun _ _ _ => rfl) rfl)
theorem exT_InvalidPair (T : All K mg a d tk c ci di) : ExT P w K mg base "InvalidPair" (c 6) ["value"] :=
  T.X_InvalidPair.t (exB_ve.ref) hb_veT (ok_in1 T.X_InvalidPair.fn (bi_SearchError T) (T.X_InvalidPair.oe (exB_ve.ref) hb_veT) (T.X_InvalidPair.no "value" (by decide)) ⟨rfl, rfl, rfl, by decide +kernel, rfl, by decide +kernel, by decide +kernel⟩ rfl (by decide) (Or.inl rfl) (Or.inl rfl) (by decide) (by decide) _ (fun _ _ _ => rfl) rfl)
end
end Mv
/-! What the readings give, the heap growing. -/
namespace Mv
open PySem PySem.Spec PyProof.Rows L2 Evl
/-- a list or a tuple -/
def Seq (H : Hp) (a : Addr) (xs : List V) : Prop := H a = some (.lst xs) ∨ H a = some (.tup xs)
theorem Seq.ex {H H' : Hp} {a : Addr} {xs : List V} (h : Seq H a xs) (e : Ex H H') : Seq H' a xs := h.elim (fun z => .inl (e _ _ z)) fun z => .inr (e _ _ z)
theorem Seq.sq {K : PySem.W.Frag} {H : Hp} {a : Addr} {xs : List V} (h : Seq H a xs) : SqL K H a xs ∨ SqT K H a xs := h.elim (fun z => .inl (sq_of z)) fun z => .inr (st_of z)
def EvF (te : TE) (σ : L2.St) (H : Hp) (P : Addr → Hp → Prop) : Prop := ∀ H1, Ex H H1 → ∀ Q : VK, (∀ p H2, H1 p = none → Ex H1 H2 → P p H2 → Q (.ref p) H2) → te σ H1 Q
def EvP (te : TE) (σ : L2.St) (H : Hp) (P : V → Hp → Prop) : Prop := ∀ H1, Ex H H1 → ∀ Q : VK, (∀ v H2, Ex H1 H2 → P v H2 → Q v H2) → te σ H1 Q
section
variable {K : PySem.W.Frag} {σ : L2.St} {H H' : Hp} {ta tb tc te tl tx : TE} {t u : TT} {x y z v : V} {r : R2}
theorem EvF.mono {P : Addr → Hp → Prop} (e : Ex H H') (h : EvF te σ H P) : EvF te σ H' P := fun H1 a Q q => h H1 (e.trans a) Q q
theorem EvP.mono {P : V → Hp → Prop} (e : Ex H H') (h : EvP te σ H P) : EvP te σ H' P := fun H1 a Q q => h H1 (e.trans a) Q q
theorem Ev.p (h : Ev te σ H v) : EvP te σ H (fun w _ => w = v) := fun H1 e Q q => h H1 e Q fun H2 e2 => q v H2 e2 rfl
theorem EvL.f {xs : List V} (h : EvL te σ H xs) : EvF te σ H (fun p H2 => H2 p = some (.lst xs)) := fun H1 e Q q => h H1 e Q q
theorem EvF.p {P : Addr → Hp → Prop} (h : EvF te σ H P) : EvP te σ H (fun w H2 => ∃ p, w = .ref p ∧ P p H2) := fun H1 e Q q => h H1 e Q fun p H2 _ e2 hp => q _ H2 e2 ⟨p, rfl, hp⟩
theorem et_yes : EvT tYes σ H true := fun H1 _ _ q => q H1 (Ex.refl H1)
/-! isinstance -/
theorem rc_isi {n : String} {ty : Value} {b : Bool} (hx : ∀ H1, Ex H H1 → TyX K H1 x ty) (hk : PySem.W.kitOne K ty (.type n) = some b) : RC (rIsi K) [x, .ty n] H (.bl b) :=
  fun H1 e _ q => ⟨x, .ty n, ty, .type n, b, rfl, .ty n, hx H1 e, hk, q H1 (Ex.refl H1)⟩
theorem ev_isi {n : String} {ty : Value} {b : Bool} (h : Ev ta σ H x) (hx : ∀ H1, Ex H H1 → TyX K H1 x ty) (hk : PySem.W.kitOne K ty (.type n) = some b) : Ev (tCB (rIsi K) (tCons ta (tCons (tC (.ty n)) tNil))) σ H (.bl b) :=
  ev_cb (ea_cons h (ea_cons ev_c ea_nil)) (rc_isi hx hk)
theorem ev_isiT {n m : String} {ty : Value} {b : Bool} (h : Ev ta σ H x) (hx : ∀ H1, Ex H H1 → TyX K H1 x ty) (hk : PySem.W.kitAny K ty [.type n, .type m] = some b) : Ev (tCB (rIsiT K) (tCons ta (tCons (tTup (tCons (tC (.ty n)) (tCons (tC (.ty m)) tNil))) tNil))) σ H (.bl b) :=
  fun H1 e Q q => h H1 e _ fun H2 e2 => ⟨sz_of (show 2 ≤ 100000 by decide), fun p hp => ⟨x, p, [.ty n, .ty m], ty, [.type n, .type m], b, rfl, upd_same, .cons (.ty n) (.cons (.ty m) .nil), hx _ ((e.trans e2).trans (Ex.new hp)), hk, q _ (e2.trans (Ex.new hp))⟩⟩
theorem ty_int {i : Int} : ∀ H1, Ex H H1 → TyX K H1 (.int i) (.type "int") := fun _ _ => .base (.int i)
theorem ty_lst {a : Addr} {xs : List V} (h : H a = some (.lst xs)) : ∀ H1, Ex H H1 → TyX K H1 (.ref a) (.type "list") := fun _ e => .base (.lst (e _ _ h))
theorem ty_tup {a : Addr} {xs : List V} (h : H a = some (.tup xs)) : ∀ H1, Ex H H1 → TyX K H1 (.ref a) (.type "tuple") := fun _ e => .base (.tup (e _ _ h))
/-! chains -/
theorem ev_chain {g g' : Int → Int → Bool} {i j k : Int} (ha : Ev ta σ H (.int i)) (hb : Ev tb σ H (.int j)) (hc : Ev tc σ H (.int k)) : Ev (tChain (rI0 fun i j => .bl (g i j)) (rI0 fun i j => .bl (g' i j)) ta tb tc) σ H (.bl (g i j && g' j k)) :=
  fun H1 e Q q => ha H1 e _ fun H2 e2 => hb H2 (e.trans e2) _ fun H3 e3 => ⟨i, j, rfl, rfl, g i j, rfl, by
    cases hg : g i j with
    | false =>
      rw [hg] at q
      exact q H3 (e2.trans e3)
    | true =>
      rw [hg] at q
      show tc σ H3 _
      exact hc H3 ((e.trans e2).trans e3) _ fun H4 e4 => ⟨j, k, rfl, rfl, q H4 ((e2.trans e3).trans e4)⟩⟩
theorem et_chain {g g' : Int → Int → Bool} {i j k : Int} (ha : Ev ta σ H (.int i)) (hb : Ev tb σ H (.int j)) (hc : Ev tc σ H (.int k)) : EvT (tTest (tChain (rI0 fun i j => .bl (g i j)) (rI0 fun i j => .bl (g' i j)) ta tb tc)) σ H (g i j && g' j k) := et_test (ev_chain ha hb hc)
theorem et_I0 {g : Int → Int → Bool} {i j : Int} (ha : Ev ta σ H (.int i)) (hb : Ev tb σ H (.int j)) : EvT (tTest (tOp (rI0 fun i j => .bl (g i j)) ta tb)) σ H (g i j) := et_test (ev_op ha hb rv_I0)
theorem ev_I0 {g : Int → Int → V} {i j : Int} (ha : Ev ta σ H (.int i)) (hb : Ev tb σ H (.int j)) : Ev (tOp (rI0 g) ta tb) σ H (g i j) := ev_op ha hb rv_I0
theorem ev_I {C : Int → Int → Prop} {g : Int → Int → V} {i j : Int} (ha : Ev ta σ H (.int i)) (hb : Ev tb σ H (.int j)) (hc : C i j) : Ev (tOp (rI C g) ta tb) σ H (g i j) := ev_op ha hb (rv_I hc)
/-! lengths -/
theorem ev_lenS {p : Addr} {xs : List V} (ha : Ev ta σ H (.ref p)) (h : Seq H p xs) : Ev (tCB (rLenS K) (tCons ta tNil)) σ H (.int (xs.length : Int)) := fun H1 e Q q =>
  ha H1 e _ fun H2 e2 => ⟨p, xs, rfl, (h.ex (e.trans e2)).sq, q H2 e2⟩
/-! all -/
theorem ev_allN {bs : List Bool} (h : EvL te σ H (bs.map V.bl)) : Ev (tCB (rAll K) (tCons te tNil)) σ H (.bl (bs.all id)) := fun H1 e Q q =>
  h H1 e _ fun p H2 _ e2 hp => ⟨p, bs, rfl, sq_of hp, q H2 e2⟩
/-! comprehensions over a list or a tuple -/
theorem given_take (xs : List V) (f : V → Bool) (g : V → V) : ∀ n, n ≤ xs.length → given n (fun i => f (xs.getD i .non)) (fun i => g (xs.getD i .non)) = ((xs.take n).filter f).map g
  | 0, _ => rfl
  | n + 1, h => by
    have hn : n < xs.length := h
    have ex : xs.getD n .non = xs[n] := by rw [List.getD_eq_getElem?_getD, List.getElem?_eq_getElem hn] <;> rfl
    have et : xs.take (n + 1) = xs.take n ++ [xs[n]] := by rw [List.take_succ, List.getElem?_eq_getElem hn] <;> rfl
    have ih := given_take xs f g n (Nat.le_of_lt hn)
    cases hf : f xs[n] with
    | true =>
      rw [given_yes (f := fun i => f (xs.getD i .non)) (by show f (xs.getD n .non) = true; rw [ex]; exact hf), ih, et, List.filter_append, List.map_append]
      show _ ++ [g (xs.getD n .non)] = _
      rw [ex]
      simp [hf]
    | false =>
      rw [given_no (f := fun i => f (xs.getD i .non)) (by show f (xs.getD n .non) = false; rw [ex]; exact hf), ih, et, List.filter_append, List.map_append]
      simp [hf]
theorem given_eq (xs : List V) (f : V → Bool) (g : V → V) : given xs.length (fun i => f (xs.getD i .non)) (fun i => g (xs.getD i .non)) = (xs.filter f).map g := by
  rw [given_take xs f g xs.length (Nat.le_refl _), List.take_length]
theorem el_lcS {a : Addr} {xs : List V} {j : Nat} {vs : List Nat} (f : V → Bool) (g : V → V) (h : Ev tl σ H (.ref a)) (hx : Seq H a xs) (hz : xs.length ≤ 40000) (hw : ∀ x, wipe ((wipe σ vs).set j (some x)) vs = wipe σ vs)
    (ht : ∀ (x : V) H1, Ex H H1 → x ∈ xs → EvT t ((wipe σ vs).set j (some x)) H1 (f x)) (he : ∀ (x : V) H1, Ex H H1 → x ∈ xs → f x = true → Ev te ((wipe σ vs).set j (some x)) H1 (g x)) :
    EvL (tLc (iSeq K tl) (gName j) t te vs) σ H ((xs.filter f).map g) := by
  rw [← given_eq]
  have hm : ∀ i x, xs[i]? = some x → xs.getD i .non = x := fun i x e => by rw [List.getD_eq_getElem?_getD, e] <;> rfl
  intro H0 e Q q
  rcases hx with hx | hx
  · refine .inl ?_
    exact el_lcL (K := K) (xs := xs) (fun i => f (xs.getD i .non)) (fun i => g (xs.getD i .non)) h (sq_of hx) hz hw (fun i x H1 e1 hi => by rw [hm i x hi]; exact ht x H1 e1 (List.mem_of_getElem? hi))
      (fun i x H1 e1 hi hf => by rw [hm i x hi] at hf ⊢; exact he x H1 e1 (List.mem_of_getElem? hi) hf) H0 e Q q
  · refine .inr ?_
    refine h H0 e _ fun H1 e1 => ⟨a, rfl, ⟨xs, ex_t (e.trans e1) (st_of hx)⟩, fun Dl hD =>
      lc_tup (xs := xs) (Cw H1 (fun i => f (xs.getD i .non)) (fun i => g (xs.getD i .non)) Dl) ⟨hD, Ex.new hD, upd_same⟩ (fun i H' _ p => ex_t ((e.trans e1).trans p.2.1) (st_of hx)) (fun i x H' hi p => ⟨hw x, cw_turn p (by have := (List.getElem?_eq_some_iff.mp hi).1; omega)
        (by rw [hm i x hi]; exact ht x H1 (e.trans e1) (List.mem_of_getElem? hi)) (fun hf => by rw [hm i x hi] at hf ⊢; exact he x H1 (e.trans e1) (List.mem_of_getElem? hi) hf)⟩)
        (fun H' p => q Dl H' (fresh_back e1 p.1) (e1.trans p.2.1) p.2.2)⟩
theorem filter_true {α : Type} (xs : List α) : xs.filter (fun _ => true) = xs := by
  rw [List.filter_eq_self]
  exact fun _ _ => rfl
theorem el_lcSm {a : Addr} {xs : List V} {j : Nat} {vs : List Nat} (g : V → V) (h : Ev tl σ H (.ref a)) (hx : Seq H a xs) (hz : xs.length ≤ 40000) (hw : ∀ x, wipe ((wipe σ vs).set j (some x)) vs = wipe σ vs)
    (he : ∀ (x : V) H1, Ex H H1 → x ∈ xs → Ev te ((wipe σ vs).set j (some x)) H1 (g x)) : EvL (tLc (iSeq K tl) (gName j) tYes te vs) σ H (xs.map g) := by
  have z := el_lcS (K := K) (t := tYes) (fun _ => true) g h hx hz hw (fun _ _ _ _ => et_yes) (fun x H1 e m _ => he x H1 e m)
  rwa [filter_true] at z
/-- over a tuple -/
theorem el_lcTm {a : Addr} {xs : List V} {j : Nat} {vs : List Nat} (g : V → V) (h : Ev tl σ H (.ref a)) (hx : H a = some (.tup xs)) (hz : xs.length ≤ 40000) (hw : ∀ x, wipe ((wipe σ vs).set j (some x)) vs = wipe σ vs)
    (he : ∀ (x : V) H1, Ex H H1 → x ∈ xs → Ev te ((wipe σ vs).set j (some x)) H1 (g x)) : EvL (tLc (iTup K tl) (gName j) tYes te vs) σ H (xs.map g) := by
  have hm : ∀ i x, xs[i]? = some x → xs.getD i .non = x := fun i x e => by rw [List.getD_eq_getElem?_getD, e] <;> rfl
  have e0 := given_eq xs (fun _ => true) g
  rw [filter_true] at e0
  rw [← e0]
  intro H0 e Q q
  refine h H0 e _ fun H1 e1 => ⟨a, rfl, ⟨xs, ex_t (e.trans e1) (st_of hx)⟩, fun Dl hD =>
      lc_tup (xs := xs) (Cw H1 (fun i => true) (fun i => g (xs.getD i .non)) Dl) ⟨hD, Ex.new hD, upd_same⟩ (fun i H' _ p => ex_t ((e.trans e1).trans p.2.1) (st_of hx)) (fun i x H' hi p => ⟨hw x, cw_turn p (by have := (List.getElem?_eq_some_iff.mp hi).1; omega)
        et_yes (fun hf => by rw [hm i x hi]; exact he x H1 (e.trans e1) (List.mem_of_getElem? hi))⟩)
        (fun H' p => q Dl H' (fresh_back e1 p.1) (e1.trans p.2.1) p.2.2)⟩
theorem map_true (xs : List V) : (xs.map fun _ => V.bl true) = (List.replicate xs.length true).map V.bl := by
  induction xs with
  | nil => rfl
  | cons x xs ih =>
    rw [List.map_cons, ih, List.length_cons, List.replicate_succ, List.map_cons]
theorem all_rep (n : Nat) : (List.replicate n true).all id = true := by
  rw [List.all_eq_true]
  intro x hx
  rw [(List.mem_replicate.mp hx).2] <;> rfl
theorem ev_allT {xs : List V} (h : EvL te σ H (xs.map fun _ => V.bl true)) : Ev (tCB (rAll K) (tCons te tNil)) σ H (.bl true) := by
  rw [map_true] at h
  have z := ev_allN (K := K) h
  rwa [all_rep] at z
end
/-! ### rows, lists of rows, lists of these -/
def IsRow (H : Hp) (x : V) (r : List Int) : Prop := ∃ b, x = .ref b ∧ H b = some (.tup (r.map V.int))
def Rws (H : Hp) (x : V) (rs : List (List Int)) : Prop := ∃ a xs, x = .ref a ∧ Seq H a xs ∧ Paired (IsRow H) xs rs
def Lss (H : Hp) (x : V) (Ls : List (List (List Int))) : Prop := ∃ a xs, x = .ref a ∧ Seq H a xs ∧ Paired (Rws H) xs Ls
theorem Paired.imp {α β : Type} {F G : α → β → Prop} (f : ∀ a b, F a b → G a b) : ∀ {xs : List α} {ys : List β}, Paired F xs ys → Paired G xs ys
  | _, _, .nil => .nil
  | _, _, .cons h t => .cons (f _ _ h) (Paired.imp f t)
theorem Paired.mem_l {α β : Type} {F : α → β → Prop} : ∀ {xs : List α} {ys : List β}, Paired F xs ys → ∀ x ∈ xs, ∃ y ∈ ys, F x y
  | _, _, .nil, _, h => absurd h (by simp)
  | _, _, .cons (b := b) h t, x, hx => by
    rcases List.mem_cons.mp hx with e | hx
    · subst e
      exact ⟨b, List.mem_cons_self, h⟩
    · obtain ⟨y, hy, hf⟩ := Paired.mem_l t x hx
      exact ⟨y, List.mem_cons_of_mem _ hy, hf⟩
theorem Paired.at_l {α β : Type} {F : α → β → Prop} : ∀ {xs : List α} {ys : List β}, Paired F xs ys → ∀ (i : Nat) (x : α), xs[i]? = some x → ∃ y, ys[i]? = some y ∧ F x y
  | _, _, .nil, i, x, h => by simp at h
  | _, _, .cons (b := b) h t, 0, x, e => by
    cases (Option.some.inj (show some _ = some x from e))
    exact ⟨b, rfl, h⟩
  | _, _, .cons h t, i + 1, x, e => Paired.at_l t i x e
theorem Paired.at_r {α β : Type} {F : α → β → Prop} {xs : List α} {ys : List β} (p : Paired F xs ys) (i : Nat) (y : β) (h : ys[i]? = some y) : ∃ x, xs[i]? = some x ∧ F x y := paired_at p i y h
section
variable {H H' : Hp} {x : V}
theorem IsRow.ex {r : List Int} (h : IsRow H x r) (e : Ex H H') : IsRow H' x r := let ⟨b, h1, h2⟩ := h; ⟨b, h1, e _ _ h2⟩
theorem Rws.ex {rs : List (List Int)} (h : Rws H x rs) (e : Ex H H') : Rws H' x rs := let ⟨a, xs, h1, h2, h3⟩ := h; ⟨a, xs, h1, h2.ex e, Paired.imp (fun _ _ z => z.ex e) h3⟩
theorem Lss.ex {Ls : List (List (List Int))} (h : Lss H x Ls) (e : Ex H H') : Lss H' x Ls := let ⟨a, xs, h1, h2, h3⟩ := h; ⟨a, xs, h1, h2.ex e, Paired.imp (fun _ _ z => z.ex e) h3⟩
end
def OkRow (w : Nat) (r : List Int) : Prop := r.length = w ∧ ∀ i ∈ r, 0 ≤ i ∧ i ≤ 999
/-- a list of rows as the program takes it -/
structure OkRows (w : Nat) (rs : List (List Int)) : Prop where
  w1 : 1 ≤ w
  w5 : w ≤ 5
  nd : rs.Nodup
  row : ∀ r ∈ rs, OkRow w r
  few : rs.length ≤ 60
end Mv
/-! sorted of a list of none or one thing; small readings. -/
namespace Mv
open PySem PySem.Spec PyProof.Rows L2 Evl
def rSorted1 (K : PySem.W.Frag) : List V → Hp → VK → Prop := fun vs H Q => ∃ (a : Addr) (xs : List V), vs = [.ref a] ∧ SqL K H a xs ∧ xs.length < 2 ∧ ∀ p, H p = none → Q (.ref p) (upd H p (.lst xs))
theorem cr_sorted1 {X : Cx} : CallR X (.builtin "sorted") (rSorted1 X.K) := by
  intro pins s σ H vs us Q I r h
  obtain ⟨a, xs, rfl, hs, h2, q⟩ := h
  obtain ⟨its, rv, hl, hz⟩ := I.list hs
  rw [Vals.ref1 r]
  have hlen : its.length < 2 := by rw [← rv.length]; exact h2
  refine SrtO.sorted_ord (ltv := fun _ _ => false) ⟨fun _ _ _ => rfl, fun _ _ _ _ _ => rfl⟩ hl.isList (by rw [← rv.length]; exact hz) (fun h2 h₁ a' _ _ => absurd h2 (by omega)) fun out h1 h2 => ?_
  have e : out = its := by
    have p := h2.perm
    match its, hlen, p with
    | [], _, p => exact List.perm_nil.mp p
    | [x], _, p => exact List.perm_singleton.mp p
    | x :: y :: l, h, _ => exact absurd h (by simp)
  subst e
  obtain ⟨ep, he'⟩ := PyProof.Rows.sortedAll_at s.heap out out.toArray
  exact ⟨.ref _, upd H (s.heap.objs.size + 1) (.lst xs), I.laid (t' := s.toks) (fun _ _ => PyProof.Rows.sortedAll_old) (Nat.le_succ _) ⟨hz, out, ep, rv, he'⟩, rfl, q _ (I.hok.fresh (Nat.le_succ _))⟩
/-- all but p stays -/
def ExB (p : Addr) (H H' : Hp) : Prop := ∀ a o, a ≠ p → H a = some o → H' a = some o
theorem Ex.b {p : Addr} {H H' : Hp} (e : Ex H H') : ExB p H H' := fun a o _ h => e a o h
theorem ExB.trans {p : Addr} {H H1 H2 : Hp} (a : ExB p H H1) (b : ExB p H1 H2) : ExB p H H2 := fun x o n h => b x o n (a x o n h)
theorem ExB.mut {p q : Addr} {H H' : Hp} {o : HO} (e : ExB p H H') (h : H q = none) : ExB p H (upd H' q o) := fun a u n ha => by
  rw [upd_ne (ne_of_none ha h)]
  exact e a u n ha
theorem ExB.own {p : Addr} {H H' : Hp} {o : HO} (e : ExB p H H') : ExB p H (upd H' p o) := fun a u n ha => by
  rw [upd_ne n]
  exact e a u n ha
theorem ExB.back {p q : Addr} {H H' : Hp} (e : ExB p H H') (n : q ≠ p) (h : H' q = none) : H q = none := by
  cases z : H q with
  | none => rfl
  | some o =>
    rw [e q o n z] at h
    cases h
section
variable {K : PySem.W.Frag} {σ : L2.St} {H H' : Hp} {ta tb te : TE} {x y z v : V}
theorem ev_ixL {p : Addr} {xs : List V} {i : Int} (ha : Ev ta σ H (.ref p)) (hb : Ev tb σ H (.int i)) (h : SqL K H p xs) (hi : atI xs i = some v) : Ev (tOp (rIxL K) ta tb) σ H v := ev_op ha hb (rv_ixL h hi)
theorem ev_eqNilN {xs : List V} (ha : EvL ta σ H xs) : Ev (tOp (rNilEq K false) ta (tLst tNil)) σ H (.bl xs.isEmpty) := fun H1 e Q q =>
  ha H1 e _ fun p H2 _ e2 hp => ⟨Nat.zero_le _, fun l hl => ⟨p, l, xs, rfl, rfl, sq_of (Ex.new hl _ _ hp), sq_of upd_same, q _ (e2.trans (Ex.new hl))⟩⟩
/-- int(i), abs(i) -/
theorem ev_toInt {i : Int} (h : Ev te σ H (.int i)) : Ev (tCB (fun xs H Q => (∃ i, xs = [V.int i] ∧ Q (.int i) H) ∨ ∃ k, xs = [V.bl k] ∧ Q (.int (if k then 1 else 0)) H) (tCons te tNil)) σ H (.int i) := fun H1 e Q q =>
  h H1 e _ fun H2 e2 => .inl ⟨i, rfl, q H2 e2⟩
theorem ev_abs {i : Int} (h : Ev te σ H (.int i)) : Ev (tCB (fun xs H Q => ∃ i, xs = [V.int i] ∧ Q (.int (if i < 0 then -i else i)) H) (tCons te tNil)) σ H (.int (if i < 0 then -i else i)) := fun H1 e Q q =>
  h H1 e _ fun H2 e2 => ⟨i, rfl, q H2 e2⟩
end
end Mv
/-! The law's draws. -/
namespace Mv
open PySem PySem.Spec PyProof.Rows L2 Evl
/-- the law's box behind at most n draws of the second kind -/
def BoxAt (H : Hp) (p : Addr) (n : Nat) : Prop := ∃ (b0 : Int) (b1 : Bool) (b2 b3 : Int), H p = some (.lst [.int b0, .bl b1, .int b2, .int b3]) ∧ 0 ≤ b2 ∧ b2 < 2147483629 ∧ 0 ≤ b3 ∧ b3 ≤ (n : Int)
theorem BoxAt.ex {H H' : Hp} {p : Addr} {n : Nat} (h : BoxAt H p n) (e : Ex H H') : BoxAt H' p n := let ⟨b0, b1, b2, b3, h1, h2⟩ := h; ⟨b0, b1, b2, b3, e _ _ h1, h2⟩
theorem BoxAt.mono {H : Hp} {p : Addr} {n m : Nat} (h : BoxAt H p n) (l : n ≤ m) : BoxAt H p m := let ⟨b0, b1, b2, b3, h1, h2, h3, h4, h5⟩ := h; ⟨b0, b1, b2, b3, h1, h2, h3, h4, by omega⟩
theorem BoxAt.upd {H : Hp} {p q : Addr} {n : Nat} {o : HO} (h : BoxAt H p n) (ne : p ≠ q) : BoxAt (L2.upd H q o) p n := let ⟨b0, b1, b2, b3, h1, h2⟩ := h; ⟨b0, b1, b2, b3, by rw [upd_ne ne]; exact h1, h2⟩
theorem BoxAt.some {H : Hp} {p : Addr} {n : Nat} (h : BoxAt H p n) : H p ≠ none := fun z => by
  obtain ⟨_, _, _, _, h1, _⟩ := h
  rw [z] at h1
  cases h1
theorem BoxAt.ne {H : Hp} {p q : Addr} {n : Nat} (h : BoxAt H p n) (hq : H q = none) : p ≠ q := fun z => h.some (z ▸ hq)
section
variable {P : Program} {w : World} {K : PySem.W.Frag} {mg : Str → Option Value} {base : Heap} {a : Nat → Addr} {d : Nat → FuncData} {tk : Nat → Tok} {c ci : Nat → Addr} {di : Nat → FuncData}
def sp__law_cell (K : PySem.W.Frag) : Sp := fun vs H Q _ => ∃ (p : Addr) (ns : List Int) (k : Nat), vs = [.ref p, .int (k : Int)] ∧ SqL K H p (ns.map V.int) ∧ k ≤ 100 ∧ ∀ c H2, Ex H H2 → Q (.int c) H2
theorem sum_take (ns : List Int) : cutV (ns.map V.int) none (some 1) = (ns.take 1).map V.int := by
  cases ns with
  | nil => rfl
  | cons n ns => exact (List.map_take (f := V.int) (i := 1) (l := n :: ns)).symm ▸ (by rfl)
theorem ok__law_cell (T : All K mg a d tk c ci di) : FnOk P w K mg base CX0 1 (a 15) (d 15) ["script", "k"] (sp__law_cell K) := by
  refine T.F__law_cell.fn.ok sc__law_cell (fun vs H Q E h => ?_) (fun cdv A outer s H vs Q E hr h => ?_)
  · obtain ⟨p, ns, k, rfl, _⟩ := h
    rfl
  · obtain ⟨p, ns, k, rfl, hs, hk, kk⟩ := h
    have nd := sc__law_cell.nd
    refine ⟨_, (pss_one (ps_ret (pe_ifExp (pt_cmpR op_lt (pv 1) (pe_callB call_len_seq (by rfl) T.n_len PySem.boot_len (pa_cons (pv 0) pa_nil)) (nomark _)) (pe_ix ix_list (pv 0) (pv 1) (fun _ _ => rfl)) (pe_op op_add (pe_op op_mul pe_int (pv 1)) (pe_op op_mod (pe_callTy call_int1 rfl T.n_int PyProof.Rows.boot_int (pa_cons (pe_callB (cr_sum rfl) (by rfl) T.n_sum PyProof.Rows.boot_sum (pa_cons (pe_slice sl_list (pv 0) po_none (po_some pe_int)) pa_nil)) pa_nil)) pe_int))))), ?_⟩
    by_cases hlt : k < ns.length
    · obtain ⟨c, hc⟩ : ∃ c, (ns.map V.int)[k]? = some (V.int c) := ⟨ns[k], by rw [List.getElem?_map, List.getElem?_eq_getElem hlt] <;> rfl⟩
      refine s_ret (v := .int c) (ev_if (b := true) (et_is (et_I0 (ev_var rfl) (ev_len (ev_var rfl) hs)) (decide_eq_true (by rw [List.length_map]; omega))) (fun _ => ev_ixL (i := (k : Int)) (ev_var rfl) (ev_var rfl) hs (atI_nat hc)) fun h => nomatch h) fun H2 e2 => kk c H2 e2
    · refine s_ret (ev_if (b := false) (et_is (et_I0 (ev_var rfl) (ev_len (ev_var rfl) hs)) (decide_eq_false (by rw [List.length_map]; omega))) (fun h => nomatch h) fun _ => ev_I0 (ev_I ev_c (ev_var rfl) (.inl ⟨by decide, by decide⟩)) (ev_I (i := (ns.take 1).sum) (j := 1000003) (ev_toInt (fun H1 e1 Q q => ?_)) ev_c (by show (0 : Int) < 1000003; decide))) fun H2 e2 => kk _ H2 e2
      refine el_sl (ev_var rfl) eo_none (eo_some ev_c) hs H1 e1 _ fun l H2 _ e2 hl => ⟨l, ns.take 1, rfl, ?_, q H2 e2⟩
      rw [← sum_take]
      exact sq_of hl
def sp__law_box : Sp := fun vs H Q _ => ∃ c : Int, vs = [.int c] ∧ ∀ p H2, H p = none → Ex H H2 → BoxAt H2 p 0 → Q (.ref p) H2
theorem ok__law_box (T : All K mg a d tk c ci di) : FnOk P w K mg base CX0 1 (a 16) (d 16) ["great"] sp__law_box := by
  refine T.F__law_box.fn.ok sc__law_box (fun vs H Q E h => ?_) (fun cdv A outer s H vs Q E hr h => ?_)
  · obtain ⟨c, rfl, _⟩ := h
    rfl
  · obtain ⟨c, rfl, k⟩ := h
    have nd := sc__law_box.nd
    refine ⟨_, (pss_one (ps_ret (pe_lst (pa_cons (pe_callB call_abs (by rfl) T.n_abs PyProof.Rows.boot_abs (pa_cons (pv 0) pa_nil)) (pa_cons (pe_cmpR op_ge (pe_callB call_abs (by rfl) T.n_abs PyProof.Rows.boot_abs (pa_cons (pv 0) pa_nil)) (pe_op op_pow pe_int pe_int) (nomark _)) (pa_cons (pe_op op_mod (pe_callTy call_int1 rfl T.n_int PyProof.Rows.boot_int (pa_cons (pe_callB call_abs (by rfl) T.n_abs PyProof.Rows.boot_abs (pa_cons (pv 0) pa_nil)) pa_nil)) pe_int) (pa_cons pe_int pa_nil))))))), ?_⟩
    refine s_retL (el_lst (ea_cons (ev_abs (ev_var rfl)) (ea_cons (ev_I0 (ev_abs (ev_var rfl)) (ev_I (i := 10) (j := 18) ev_c ev_c ⟨by decide, by decide, by decide⟩)) (ea_cons (ev_I (j := 2147483629) (ev_toInt (ev_abs (ev_var rfl))) ev_c (by show (0 : Int) < 2147483629; decide)) (ea_cons ev_c ea_nil)))) (show 4 ≤ 100000 by decide)) fun p H1 hp e h => ?_
    exact k p H1 hp e ⟨_, _, _, _, h, Int.emod_nonneg _ (by decide), Int.emod_lt_of_pos _ (by decide), Int.le_refl _, Int.le_refl _⟩
/-! _law_take -/
def sp__law_take : Sp := fun vs H Q _ => ∃ (p : Addr) (m : Int) (n : Nat), vs = [.ref p, .int m] ∧ 1 ≤ m ∧ m ≤ 100000 ∧ BoxAt H p n ∧ n ≤ 100000 ∧ ∀ (i : Int) (H2 : Hp), 0 ≤ i → i < m → ExB p H H2 → BoxAt H2 p (n + 1) → Q (.int i) H2
theorem ok__law_take (T : All K mg a d tk c ci di) : FnOk P w K mg base CX0 1 (a 17) (d 17) ["box", "many"] sp__law_take := by
  refine T.F__law_take.fn.ok sc__law_take (fun vs H Q E h => ?_) (fun cdv A outer s H vs Q E hr h => ?_)
  · obtain ⟨p, m, n, rfl, _⟩ := h
    rfl
  · obtain ⟨p, m, n, rfl, h1, h2, ⟨b0, b1, b2, b3, hb, c1, c2, c3, c4⟩, hn, k⟩ := h
    have nd := sc__law_take.nd
    refine ⟨_, (pss_cons (ps_if (PW.pt (pw_and (pt_val (pe_ix ix_list (pv 0) pe_int (fun _ _ => rfl))) (pw_and1 (pt_cmpR op_gt (pe_ix ix_list (pv 0) pe_int (fun _ _ => rfl)) pe_int (nomark _)))))
 (pss_cons (ps_set (i := 2) nd rfl (Or.inl rfl) (pe_op op_mod (pe_callTy call_int1 rfl T.n_int PyProof.Rows.boot_int (pa_cons (pe_ix ix_list (pv 0) pe_int (fun _ _ => rfl)) pa_nil)) (pv 1)))
 (pss_cons (ps_asg (pe_op op_fdivW (pe_ix ix_list (pv 0) pe_int (fun _ _ => rfl)) (pv 1)) (pg_sub (pv 0) pe_int set_list))
 (pss_one (ps_ret (pv 2)))))
 pss_nil)
 (pss_cons (ps_asg (pe_op op_add (pe_ix ix_list (pv 0) pe_int (fun _ _ => rfl)) pe_int) (pg_sub (pv 0) pe_int set_list))
 (pss_cons (ps_set (i := 3) nd rfl (Or.inl rfl) (pe_op op_mod (pe_callTy call_int1 rfl T.n_int PyProof.Rows.boot_int (pa_cons (pe_op op_pow (pe_op op_add (pe_op op_add (pe_ix ix_list (pv 0) pe_int (fun _ _ => rfl)) (pe_op op_mul pe_int (pe_ix ix_list (pv 0) pe_int (fun _ _ => rfl)))) pe_int) pe_int) pa_nil)) pe_int))
 (pss_one (ps_ret (pe_op op_mod (pe_callTy call_int1 rfl T.n_int PyProof.Rows.boot_int (pa_cons (pe_op op_fdivW (pe_op op_mod (pe_callTy call_int1 rfl T.n_int PyProof.Rows.boot_int (pa_cons (pe_op op_pow (pe_op op_add (pe_op op_mul (pv 3) pe_int) (pe_op op_mul pe_int (pe_ix ix_list (pv 0) pe_int (fun _ _ => rfl)))) pe_int) pa_nil)) pe_int) pe_int) pa_nil)) (pv 1))))))), ?_⟩
    have g0 : ∀ {H' : Hp} {σ' : L2.St} {x z u : Int} {y : Bool}, σ'[0]? = some (some (.ref p)) → H' p = some (.lst [.int x, .bl y, .int z, .int u]) → Ev (tOp (rIxL K) (tVar 0) (tC (.int 0))) σ' H' (.int x) := fun hσ h => ev_ixL (i := 0) (ev_var hσ) ev_c (sq_of h) rfl
    have g1 : ∀ {H' : Hp} {σ' : L2.St} {x z u : Int} {y : Bool}, σ'[0]? = some (some (.ref p)) → H' p = some (.lst [.int x, .bl y, .int z, .int u]) → Ev (tOp (rIxL K) (tVar 0) (tC (.int 1))) σ' H' (.bl y) := fun hσ h => ev_ixL (i := 1) (ev_var hσ) ev_c (sq_of h) rfl
    have g2 : ∀ {H' : Hp} {σ' : L2.St} {x z u : Int} {y : Bool}, σ'[0]? = some (some (.ref p)) → H' p = some (.lst [.int x, .bl y, .int z, .int u]) → Ev (tOp (rIxL K) (tVar 0) (tC (.int 2))) σ' H' (.int z) := fun hσ h => ev_ixL (i := 2) (ev_var hσ) ev_c (sq_of h) rfl
    have g3 : ∀ {H' : Hp} {σ' : L2.St} {x z u : Int} {y : Bool}, σ'[0]? = some (some (.ref p)) → H' p = some (.lst [.int x, .bl y, .int z, .int u]) → Ev (tOp (rIxL K) (tVar 0) (tC (.int 3))) σ' H' (.int u) := fun hσ h => ev_ixL (i := 3) (ev_var hσ) ev_c (sq_of h) rfl
    refine q_when (et_and (et_B (g1 rfl hb)) fun _ => et_I0 (g0 rfl hb) ev_c) (fun _ H1 e1 => ?_) fun _ H1 e1 => ?_
    · refine q_asg (ev_I (j := m) (ev_toInt (g0 rfl (e1 _ _ hb))) (ev_var rfl) (by show (0 : Int) < m; omega)) fun H2 e2 => ?_
      have e12 := e1.trans e2
      refine q_setL (j := 0) (e12 _ _ hb) (ev_I (j := m) (g0 rfl (e12 _ _ hb)) (ev_var rfl) (wide_div (b := 40) (by omega) (by omega) (by decide) (by decide))) (ev_var rfl) ev_c (show 0 < 4 by decide) fun H3 e3 => ?_
      refine s_ret (ev_var rfl) fun H4 e4 => k _ H4 (Int.emod_nonneg _ (by omega)) (Int.emod_lt_of_pos _ (by omega)) ((Ex.b (e12.trans e3)).own.trans (Ex.b e4)) ⟨_, b1, b2, b3, e4 _ _ upd_same, c1, c2, c3, by omega⟩
    · refine q_setL (j := 3) (e1 _ _ hb) (ev_I0 (g3 rfl (e1 _ _ hb)) ev_c) (ev_var rfl) ev_c (show 3 < 4 by decide) fun H2 e2 => ?_
      have e12 := e1.trans e2
      have hb2 : upd H2 p (.lst ([V.int b0, .bl b1, .int b2, .int b3].set 3 (.int (b3 + 1)))) p = some (.lst [.int b0, .bl b1, .int b2, .int (b3 + 1)]) := upd_same
      generalize hH : upd H2 p (.lst ([V.int b0, .bl b1, .int b2, .int b3].set 3 (.int (b3 + 1)))) = H3 at hb2
      have eB : ExB p H H3 := by rw [← hH]; exact (Ex.b e12).own
      have mb : ∀ {i j : Int}, -(2 ^ 64) < i ∧ i < 2 ^ 64 → CMul i j := fun h => .inl h
      refine q_asg (ev_I (j := 2147483647) (ev_toInt (ev_I (j := 5) (ev_I0 (ev_I0 (g2 rfl hb2) (ev_I ev_c (g3 rfl hb2) (mb ⟨by decide, by decide⟩))) ev_c) ev_c ⟨by decide, by decide, ?_⟩)) ev_c (by show (0 : Int) < 2147483647; decide)) fun H4 e4 => ?_
      · have : (2 : Nat) ^ 64 = 18446744073709551616 := by decide
        rw [this]
        omega
      generalize hmx : (b2 + 15485867 * (b3 + 1) + 179425033) ^ Int.toNat 5 % 2147483647 = mx
      have q1 : 0 ≤ mx := by rw [← hmx]; exact Int.emod_nonneg _ (by decide)
      have q2 : mx < 2147483647 := by rw [← hmx]; exact Int.emod_lt_of_pos _ (by decide)
      have z64 : (2 : Int) ^ 64 = 18446744073709551616 := by decide
      refine s_ret (ev_I (j := m) (ev_toInt (ev_I (j := 64) (ev_I (j := 2147483587) (ev_toInt (ev_I (j := 3) (ev_I0 (ev_I (ev_var rfl) ev_c (mb ⟨by omega, by omega⟩)) (ev_I ev_c (g3 rfl (e4 _ _ hb2)) (mb ⟨by decide, by decide⟩))) ev_c ⟨by decide, by decide, ?_⟩)) ev_c (by show (0 : Int) < 2147483587; decide)) ev_c (wide_div (b := 40) (by decide) (by decide) (by decide) (by decide)))) (ev_var rfl) (by show (0 : Int) < m; omega)) fun H6 e6 => ?_
      · have : (2 : Nat) ^ 64 = 18446744073709551616 := by decide
        rw [this]
        omega
      exact k _ H6 (Int.emod_nonneg _ (by omega)) (Int.emod_lt_of_pos _ (by omega)) (eB.trans (Ex.b (e4.trans e6))) ⟨b0, b1, b2, b3 + 1, (e4.trans e6) _ _ hb2, c1, c2, by omega, by omega⟩
/-! _law_mixed -/
theorem seq_at {j : Int} {n : Nat} (h0 : 0 ≤ j) (h1 : j < (n : Int)) : seqIndex? j n = some j.toNat := by
  unfold seqIndex?
  have e : (if j < 0 then j + (n : Int) else j) = j := if_neg (by omega)
  simp only [e]
  rw [decide_eq_true h0, decide_eq_true h1] <;> rfl
theorem erase_perm {α : Type} : ∀ {l : List α} {i : Nat} (h : i < l.length), (l[i] :: l.eraseIdx i).Perm l
  | x :: l, 0, _ => List.Perm.refl _
  | x :: l, i + 1, h => by
    have z := erase_perm (l := l) (i := i) (Nat.lt_of_succ_lt_succ h)
    exact (List.Perm.swap _ _ _).trans (z.cons x)
def sp__law_mixed : Sp := fun vs H Q _ => ∃ (p q : Addr) (xs : List V) (n : Nat), vs = [.ref p, .ref q] ∧ H q = some (.lst xs) ∧ xs.length ≤ 60 ∧ BoxAt H p n ∧ n ≤ 90000 ∧ ∀ (r : Addr) (ys : List V) (H2 : Hp), ys.Perm xs → H r = none → H2 r = some (.lst ys) → ExB p H H2 → BoxAt H2 p (n + 60) → Q (.ref r) H2
theorem ok__law_mixed (T : All K mg a d tk c ci di) : FnOk P w K mg base CX0 2 (a 18) (d 18) ["box", "items"] sp__law_mixed := by
  refine T.F__law_mixed.fn.ok sc__law_mixed (fun vs H Q E h => ?_) (fun cdv A outer s H vs Q E hr h => ?_)
  · obtain ⟨p, q, xs, n, rfl, _⟩ := h
    rfl
  · obtain ⟨p, xb, xs, n, rfl, hx, h60, hB, hn, k⟩ := h
    have nd := sc__law_mixed.nd
    have hu0 := hr.units0
    refine ⟨_, (pss_cons (ps_par (i := 2) (j := 3) rfl nd rfl rfl (by decide) rfl rfl (pa_cons (pe_callTy call_list_of rfl T.n_list PyProof.Rows.boot_list (pa_cons (pv 1) pa_nil)) (pa_cons (pe_lst pa_nil) pa_nil)) (by rfl))
 (pss_cons (ps_for PassesOwn.never rfl (pi_range1 rfl T.n_range (pa_cons (pe_callB call_len_seq (by rfl) T.n_len PySem.boot_len (pa_cons (pv 1) pa_nil)) pa_nil)) (pg_name (i := 4) nd rfl (Or.inl rfl))
 (pss_one (ps_expr (pe_bm PySem.F.plainAttrs_list PySem.F.slot_list_append PySem.F.type_list_append mt_append (pv 3) (pa_cons (pe_bm PySem.F.plainAttrs_list PySem.F.slot_list_pop PySem.F.type_list_pop mt_popAt (pv 2) (pa_cons (pe_call (ok__law_take T) (hr.mono (by decide)) rfl T.F__law_take.m T.F__law_take.kp T.F__law_take.b .nil pass0 (pa_cons (pv 0) (pa_cons (pe_callB call_len_seq (by rfl) T.n_len PySem.boot_len (pa_cons (pv 2) pa_nil)) pa_nil))) pa_nil)) pa_nil)))))
 (pss_one (ps_ret (pv 3))))), ?_⟩
    refine ⟨_, rfl, xb, xs, rfl, .inl (sq_of hx), fun lf hlf => ⟨Nat.zero_le _, fun fd hfd => ⟨_, _, rfl, ?_⟩⟩⟩
    have eL : Ex H (upd H lf (.lst xs)) := Ex.new hlf
    have nfd : H fd = none := fresh_back eL hfd
    have nlf : lf ≠ fd := fun z => by rw [← z, upd_same] at hfd; cases hfd
    have eF : Ex (upd H lf (.lst xs)) (upd (upd H lf (.lst xs)) fd (.lst [])) := Ex.new hfd
    have e0 := eL.trans eF
    have bl : p ≠ lf := hB.ne hlf
    have bf : p ≠ fd := hB.ne nfd
    let W : Nat → L2.St → Hp → Prop := fun i σ' H' => ExB p H H' ∧ ∃ (ls fs : List V) (v : Option V), σ' = [some (.ref p), some (.ref xb), some (.ref lf), some (.ref fd), v] ∧ H' lf = some (.lst ls) ∧ H' fd = some (.lst fs) ∧ (ls ++ fs).Perm xs ∧ ls.length + i = xs.length ∧ BoxAt H' p (n + i)
    refine q_forR1 (ea_cons (ev_len (ev_var rfl) (sq_of (e0 _ _ hx))) ea_nil) ⟨by omega, by omega⟩ W (fun H1 e1 => ⟨Ex.b (e0.trans e1), xs, [], _, rfl, e1 _ _ (eF _ _ upd_same), e1 _ _ upd_same, by rw [List.append_nil], rfl, (hB.ex (e0.trans e1))⟩) ?_ ?_
    · rintro i σ' H1 hi ⟨e', ls, fs, v, rfl, hl, hf, pm, hlen, hBx⟩
      have hil : i < xs.length := by omega
      have hls : 0 < ls.length := by omega
      have lenf : fs.length ≤ 60 := by
        have b := pm.length_eq
        rw [List.length_append] at b
        omega
      refine ⟨_, rfl, .inl ⟨rfl, fs, sq_of hf⟩, _, rfl, .inl ⟨rfl, ls, sq_of hl⟩, _, rfl, _, rfl, lf, ls, rfl, .inl (sq_of hl), ?_⟩
      refine ⟨p, _, n + i, rfl, by omega, by omega, hBx, by omega, fun j H2 j0 j1 e2 hB2 => ?_⟩
      have hl2 : H2 lf = some (.lst ls) := e2 _ _ (Ne.symm bl) hl
      have hf2 : H2 fd = some (.lst fs) := e2 _ _ (Ne.symm bf) hf
      have hj : j.toNat < ls.length := by omega
      have gy := List.getElem?_eq_getElem hj
      have sj := seq_at j0 j1
      refine ⟨lf, ls, j, j.toNat, _, rfl, rfl, hl2, by omega, by omega, sj, gy, ?_⟩
      refine ⟨fd, fs, _, rfl, rfl, by rw [upd_ne (Ne.symm nlf)]; exact hf2, Nat.lt_of_le_of_lt lenf (show 60 < sizeLine by decide), ?_⟩
      refine ⟨((e'.trans e2).mut hlf).mut nfd, ls.eraseIdx j.toNat, fs ++ [ls[j.toNat]], _, rfl, by rw [upd_ne nlf, upd_same], upd_same, ?_, ?_, (hB2.upd bl).upd bf⟩
      · have z := erase_perm hj
        have z2 : (ls.eraseIdx j.toNat ++ (fs ++ [ls[j.toNat]])).Perm ((ls[j.toNat] :: ls.eraseIdx j.toNat) ++ fs) := by
          rw [← List.append_assoc]
          refine (List.perm_append_comm).trans ?_
          rw [List.cons_append]
          exact List.Perm.refl _
        exact (z2.trans (z.append_right fs)).trans pm
      · rw [List.length_eraseIdx_of_lt hj]
        omega
    · rintro σ' H1 ⟨e', ls, fs, v, rfl, hl, hf, pm, hlen, hBx⟩
      have hls : ls = [] := by
        have : ls.length = 0 := by
          have : (xs.length : Int).toNat = xs.length := by omega
          omega
        exact List.length_eq_zero_iff.mp this
      subst hls
      refine s_ret (ev_var rfl) fun H2 e2 => ?_
      exact k fd fs H2 pm nfd (e2 _ _ hf) (e'.trans (Ex.b e2)) ((hBx.ex e2).mono (by omega))
end
end Mv
/-! Names, of any value. -/
namespace Mv
open PySem PySem.Spec PyProof.Rows L2 Evl
theorem nb_t {b : Bool} (h : (!b) = true) : b = false := by cases b <;> first | rfl | cases h
theorem nb_f {b : Bool} (h : (!b) = false) : b = true := by cases b <;> first | rfl | cases h
theorem dp_strs {K : PySem.W.Frag} {H : Hp} : ∀ zs : List Str, DpAll K H (zs.map V.str) (zs.map PyData.str)
  | [] => .nil
  | z :: zs => .cons (.str z) (dp_strs zs)
/-- the letters -/
def LT : Str := "abcdefghijklmnopqrstuvwxyz"
def nameB (z : Str) : Bool := (decide (0 < z.length) && decide (z.length ≤ 8)) && z.cps.toList.all fun c => decide (c ∈ LT.cps.toList)
theorem lt_small : ∀ c ∈ LT.cps.toList, c < 0x110000 := by decide +kernel
theorem ok_of_name {z : Str} (h : nameB z = true) : PyData.strOk z = true := by
  unfold nameB at h
  rw [Bool.and_eq_true] at h
  have h2 := h.2
  rw [List.all_eq_true] at h2
  unfold PyData.strOk
  rw [← Array.all_toList, List.all_eq_true]
  intro c hc
  exact decide_eq_true (lt_small c (of_decide_eq_true (h2 c hc)))
theorem lay_strs : ∀ zs : List Str, (∀ z ∈ zs, PyData.strOk z = true) → PyData.canLayAll0 (zs.map PyData.str) = true
  | [], _ => by simp [PyData.canLayAll0]
  | z :: zs, h => by simp [PyData.canLayAll0, PyData.canLay0, lay_strs zs (fun y hy => h y (List.mem_cons_of_mem _ hy)), h z List.mem_cons_self]
theorem deep_strs : ∀ zs : List Str, PyData.depthAll (zs.map PyData.str) ≤ 1
  | [] => by simp [PyData.depthAll]
  | z :: zs => by
    have := deep_strs zs
    simp only [List.map_cons, PyData.depthAll, PyData.depth]
    omega
theorem shaped_str {z : Str} (h : PyData.strOk z = true) : SeqAt.shaped (.str z) = true := by
  unfold SeqAt.shaped
  rw [PyData.canLay0, PyData.depth, h] <;> rfl
theorem shaped_strs {zs : List Str} (h : ∀ z ∈ zs, PyData.strOk z = true) : SeqAt.shaped (.list (zs.map PyData.str)) = true := by
  unfold SeqAt.shaped
  have e1 : (PyData.list (zs.map PyData.str)).canLay0 = true := by rw [PyData.canLay0, lay_strs zs h]
  have e2 : (PyData.list (zs.map PyData.str)).depth ≤ 64 := by
    have := deep_strs zs
    simp only [PyData.depth]
    omega
  rw [e1, decide_eq_true e2] <;> rfl
theorem any_strs (zs : List Str) (z : Str) : ((zs.map PyData.str).any fun y => PyData.eqv y (.str z)) = decide (z ∈ zs) := by
  rw [List.any_map, Bool.eq_iff_iff, List.any_eq_true, decide_eq_true_eq]
  constructor
  · rintro ⟨q, hq, e⟩
    have e : (q == z) = true := by
      have e' : PyData.eqv (.str q) (.str z) = true := e
      rwa [PyData.eqv] at e'
    rw [← eq_of_beq e]
    exact hq
  · intro h
    refine ⟨z, h, ?_⟩
    show PyData.eqv (.str z) (.str z) = true
    rw [PyData.eqv]
    exact beq_self_eq_true z
section
variable {K : PySem.W.Frag} {σ : L2.St} {H H' : Hp} {ta tb te tl : TE} {x y z v : V}
theorem rv_inStrs {f : Addr} {zs : List Str} {z : Str} (hf : H f = some (.lst (zs.map V.str))) (hz : PyData.strOk z = true) (hzs : ∀ z ∈ zs, PyData.strOk z = true) : RV (rInD K) (.str z) (.ref f) H (.bl (decide (z ∈ zs))) := fun H1 e Q q => by
  refine ⟨.str z, zs.map PyData.str, .str z, .lst (sq_of (e _ _ hf)) (dp_strs zs), shaped_str hz, shaped_strs hzs, ?_⟩
  rw [any_strs]
  exact q H1 (Ex.refl H1)
theorem rv_ninStrs {f : Addr} {zs : List Str} {z : Str} (hf : H f = some (.lst (zs.map V.str))) (hz : PyData.strOk z = true) (hzs : ∀ z ∈ zs, PyData.strOk z = true) : RV (rNotInD K) (.str z) (.ref f) H (.bl (!decide (z ∈ zs))) := fun H1 e Q q => by
  refine ⟨.str z, zs.map PyData.str, .str z, .lst (sq_of (e _ _ hf)) (dp_strs zs), shaped_str hz, shaped_strs hzs, ?_⟩
  rw [any_strs]
  exact q H1 (Ex.refl H1)
theorem ev_lenT {z : Str} (h : Ev te σ H (.str z)) (hz : z.length ≤ 100000) : Ev (tCB (fun xs H Q => ∃ z, xs = [V.str z] ∧ z.length ≤ sizeLine ∧ Q (.int z.length) H) (tCons te tNil)) σ H (.int (z.length : Int)) := fun H1 e Q q =>
  h H1 e _ fun H2 e2 => ⟨z, rfl, sz_of hz, q H2 e2⟩
/-- [e for c in a text] -/
theorem el_lcC {z : Str} {j : Nat} {vs : List Nat} (g : Nat → V) (h : Ev tl σ H (.str z)) (hz : z.cps.size ≤ 40000) (hw : ∀ x, wipe ((wipe σ vs).set j (some x)) vs = wipe σ vs)
    (he : ∀ (i c : Nat) H1, Ex H H1 → z.cps[i]? = some c → Ev te ((wipe σ vs).set j (some (.str ⟨#[c]⟩))) H1 (g i)) : EvL (tLc (iStr tl) (gName j) tYes te vs) σ H (given z.cps.size (fun _ => true) g) := fun H0 e Q q =>
  h H0 e _ fun H1 e1 => ⟨z, rfl, fun Dl hD => lc_it (walk_str (z := z)) (Cw H1 (fun _ => true) g Dl) ⟨hD, Ex.new hD, upd_same⟩ (fun _ _ _ _ => trivial) (fun i x H' H'' hi p hy => by
    obtain ⟨rfl, c, hc, rfl⟩ := hy
    exact ⟨hw _, cw_turn p (by omega) et_yes fun _ => he i c H1 (e.trans e1) hc⟩) (fun H' p => q Dl H' (fresh_back e1 p.1) (e1.trans p.2.1) p.2.2)⟩
end
/-- what isinstance says, for bool, int, str, list, tuple -/
def Is5 (K : PySem.W.Frag) (H : Hp) (x : V) (b i s l t : Bool) : Prop := ∃ ty, (∀ H1, Ex H H1 → TyX K H1 x ty) ∧ PySem.W.kitOne K ty (.type "bool") = some b ∧ PySem.W.kitOne K ty (.type "int") = some i ∧ PySem.W.kitOne K ty (.type "str") = some s ∧ PySem.W.kitOne K ty (.type "list") = some l ∧ PySem.W.kitOne K ty (.type "tuple") = some t
section
variable {K : PySem.W.Frag} {σ : L2.St} {H H' : Hp} {ta : TE} {x : V} {v1 v2 v3 v4 v5 : Bool}
theorem Is5.ex (h : Is5 K H x v1 v2 v3 v4 v5) (e : Ex H H') : Is5 K H' x v1 v2 v3 v4 v5 := let ⟨ty, h1, h2⟩ := h; ⟨ty, fun H1 e1 => h1 H1 (e.trans e1), h2⟩
theorem Is5.b (h : Is5 K H x v1 v2 v3 v4 v5) (v : Ev ta σ H x) : Ev (tCB (rIsi K) (tCons ta (tCons (tC (.ty "bool")) tNil))) σ H (.bl v1) := let ⟨_, h1, h2, _⟩ := h; ev_isi v h1 h2
theorem Is5.i (h : Is5 K H x v1 v2 v3 v4 v5) (v : Ev ta σ H x) : Ev (tCB (rIsi K) (tCons ta (tCons (tC (.ty "int")) tNil))) σ H (.bl v2) := let ⟨_, h1, _, h2, _⟩ := h; ev_isi v h1 h2
theorem Is5.s (h : Is5 K H x v1 v2 v3 v4 v5) (v : Ev ta σ H x) : Ev (tCB (rIsi K) (tCons ta (tCons (tC (.ty "str")) tNil))) σ H (.bl v3) := let ⟨_, h1, _, _, h2, _⟩ := h; ev_isi v h1 h2
theorem Is5.l (h : Is5 K H x v1 v2 v3 v4 v5) (v : Ev ta σ H x) : Ev (tCB (rIsi K) (tCons ta (tCons (tC (.ty "list")) tNil))) σ H (.bl v4) := let ⟨_, h1, _, _, _, h2, _⟩ := h; ev_isi v h1 h2
theorem Is5.t (h : Is5 K H x v1 v2 v3 v4 v5) (v : Ev ta σ H x) : Ev (tCB (rIsi K) (tCons ta (tCons (tC (.ty "tuple")) tNil))) σ H (.bl v5) := let ⟨_, h1, _, _, _, _, h2⟩ := h; ev_isi v h1 h2
theorem Is5.lt (h : Is5 K H x v1 v2 v3 v4 v5) (v : Ev ta σ H x) : Ev (tCB (rIsiT K) (tCons ta (tCons (tTup (tCons (tC (.ty "list")) (tCons (tC (.ty "tuple")) tNil))) tNil))) σ H (.bl (v4 || v5)) := by
  obtain ⟨ty, h1, _, _, _, h2, h3⟩ := h
  refine ev_isiT v h1 ?_
  cases v4 with
  | true => exact kitAny_cons h2 (fun h => nomatch h) fun _ => rfl
  | false =>
    refine kitAny_cons h2 (fun _ => ?_) fun h => nomatch h
    cases v5 with
    | true => exact kitAny_cons h3 (fun h => nomatch h) fun _ => rfl
    | false => exact kitAny_cons h3 (fun _ => rfl) fun h => nomatch h
theorem is_non : Is5 K H .non false false false false false := ⟨_, fun _ _ => .base .non, kit_ty (by decide +kernel), kit_ty (by decide +kernel), kit_ty (by decide +kernel), kit_ty (by decide +kernel), kit_ty (by decide +kernel)⟩
theorem is_bl {z : Bool} : Is5 K H (.bl z) true true false false false := ⟨_, fun _ _ => .base (.bl z), kit_ty (by decide +kernel), kit_ty (by decide +kernel), kit_ty (by decide +kernel), kit_ty (by decide +kernel), kit_ty (by decide +kernel)⟩
theorem is_int {z : Int} : Is5 K H (.int z) false true false false false := ⟨_, fun _ _ => .base (.int z), kit_ty (by decide +kernel), kit_ty (by decide +kernel), kit_ty (by decide +kernel), kit_ty (by decide +kernel), kit_ty (by decide +kernel)⟩
theorem is_str {z : Str} : Is5 K H (.str z) false false true false false := ⟨_, fun _ _ => .base (.str z), kit_ty (by decide +kernel), kit_ty (by decide +kernel), kit_ty (by decide +kernel), kit_ty (by decide +kernel), kit_ty (by decide +kernel)⟩
theorem is_lst {p : Addr} {xs : List V} (h : H p = some (.lst xs)) : Is5 K H (.ref p) false false false true false := ⟨_, fun _ e => .base (.lst (e _ _ h)), kit_ty (by decide +kernel), kit_ty (by decide +kernel), kit_ty (by decide +kernel), kit_ty (by decide +kernel), kit_ty (by decide +kernel)⟩
theorem is_tup {p : Addr} {xs : List V} (h : H p = some (.tup xs)) : Is5 K H (.ref p) false false false false true := ⟨_, fun _ e => .base (.tup (e _ _ h)), kit_ty (by decide +kernel), kit_ty (by decide +kernel), kit_ty (by decide +kernel), kit_ty (by decide +kernel), kit_ty (by decide +kernel)⟩
theorem is_dct {p : Addr} {xs : List (Key × V)} (h : H p = some (.dK xs)) : Is5 K H (.ref p) false false false false false := ⟨_, fun _ e => .base (.dK (e _ _ h)), kit_ty (by decide +kernel), kit_ty (by decide +kernel), kit_ty (by decide +kernel), kit_ty (by decide +kernel), kit_ty (by decide +kernel)⟩
theorem kit_ins {C : Addr} {t : String} {v : Bool} (h : PySem.W.subIn K (.ref C) (.type t) = some v) (hk : PySem.W.kitMeta t = true) : PySem.W.kitOne K (.ref C) (.type t) = some v := by
  have e : (Value.ref C == Value.type t) = false := rfl
  show (if (Value.ref C == Value.type t) = true then some true else (if PySem.W.kitMeta t = true then PySem.W.subIn K (.ref C) (.type t) else none)) = _
  rw [e, if_neg Bool.false_ne_true, if_pos hk, h]
end
/-- what is_name says of a value -/
inductive NameR (K : PySem.W.Frag) (H : Hp) : V → Bool → Prop
  | str (z : Str) (h : z.length ≤ 1000) : NameR K H (.str z) (nameB z)
  | oth {x : V} {v1 v2 v4 v5 : Bool} (h : Is5 K H x v1 v2 false v4 v5) : NameR K H x false
theorem NameR.ex {K : PySem.W.Frag} {H H' : Hp} {x : V} {b : Bool} (h : NameR K H x b) (e : Ex H H') : NameR K H' x b := by
  cases h with
  | str z h => exact .str z h
  | oth h => exact .oth (h.ex e)
theorem NameR.is' {K : PySem.W.Frag} {H : Hp} {x : V} {b : Bool} (h : NameR K H x b) (hb : b = true) : ∃ z, x = .str z ∧ nameB z = true ∧ z.length ≤ 1000 := by
  cases h with
  | str z h => exact ⟨z, rfl, hb, h⟩
  | oth h => cases hb
theorem NameR.is {K : PySem.W.Frag} {H : Hp} {x : V} (h : NameR K H x true) : ∃ z, x = .str z ∧ nameB z = true ∧ z.length ≤ 1000 := h.is' rfl
section
variable {P : Program} {w : World} {K : PySem.W.Frag} {mg : Str → Option Value} {base : Heap} {a : Nat → Addr} {d : Nat → FuncData} {tk : Nat → Tok} {c ci : Nat → Addr} {di : Nat → FuncData}
def sp_is_name (K : PySem.W.Frag) : Sp := fun vs H Q _ => ∃ (x : V) (b : Bool), vs = [x] ∧ NameR K H x b ∧ RetV (.bl b) H Q
theorem ok_is_name (T : All K mg a d tk c ci di) : FnOk P w K mg base CX0 1 (a 1) (d 1) ["value"] (sp_is_name K) := by
  refine T.F_is_name.fn.ok sc_is_name (fun vs H Q E h => ?_) (fun cdv A outer s H vs Q E hr h => ?_)
  · obtain ⟨x, b, rfl, _⟩ := h
    rfl
  · obtain ⟨x, b, rfl, hn, k⟩ := h
    have nd := sc_is_name.nd
    refine ⟨_, (pss_cons (ps_if (PW.pt (pw_or (pt_not (pt_val (pe_callB call_isi (by rfl) T.n_isinstance PyProof.Rows.boot_isinstance (pa_cons (pv 0) (pa_cons (pe_bltn (v := .ty "str") rfl T.n_str PyProof.Rows.boot_str rfl) pa_nil))))) (pw_or1 (pt_not (pt_chain op_lt op_le pe_int (pe_callB call_len_str (by rfl) T.n_len PySem.boot_len (pa_cons (pv 0) pa_nil)) (pe_glob (v := .int 8) rfl T.c_LONGEST_NAME ⟨_, rfl⟩))))))
 (pss_one (ps_ret pe_bl))
 pss_nil)
 (pss_one (ps_ret (pe_callB (cr_all rfl) (by rfl) T.n_all PyProof.Rows.boot_all (pa_cons (pe_lc (own := [("letter", 1)]) (g := (gName 1)) rfl nd (pi_str (pv 0)) (blkOk_by (N := N_is_name) (sc := defScope s_is_name) (by decide +kernel)) (fun _ _ _ _ _ => (pg_name (i := 1) nd rfl (Or.inl rfl))) (fun _ _ _ _ _ => pts_nil) (fun _ _ _ _ _ => (pe_cmpR op_in_sign (pv 1) (pe_glob (v := .str "abcdefghijklmnopqrstuvwxyz") rfl T.c_LETTERS ⟨_, rfl⟩) rfl))) pa_nil))))), ?_⟩
    cases hn with
    | oth hI =>
      exact q_when (b := true) (et_or (a := true) (b := true) (et_not (et_B (hI.s (ev_var (i := 0) rfl)))) fun h => nomatch h) (fun _ H1 e1 => s_ret ev_c fun H2 e2 => k H2 (e1.trans e2)) fun h => nomatch h
    | str z hz =>
      have hS : ∀ {H1 : Hp}, Ev (tCB (rIsi K) (tCons (tVar 0) (tCons (tC (.ty "str")) tNil))) (start N_is_name [V.str z]) H1 (.bl true) := ev_isi (ty := .type "str") (ev_var rfl) (fun H2 _ => .base (.str z)) (kit_ty (by decide +kernel))
      refine q_when (et_or (et_not (et_B hS)) fun _ => et_not (et_chain (g := fun i j => decide (i < j)) (g' := fun i j => decide (i ≤ j)) ev_c (ev_lenT (ev_var rfl) (by omega)) ev_c)) (fun h H1 e1 => ?_) fun h H1 e1 => ?_
      · have h : (!(decide ((0 : Int) < (z.length : Int)) && decide ((z.length : Int) ≤ 8))) = true := h
        have e : nameB z = false := by
          unfold nameB
          have e1 : decide ((0 : Int) < (z.length : Int)) = decide (0 < z.length) := decide_eq_decide.mpr (by omega)
          have e2 : decide ((z.length : Int) ≤ 8) = decide (z.length ≤ 8) := decide_eq_decide.mpr (by omega)
          rw [← e1, ← e2, nb_t h] <;> rfl
        rw [e] at k
        exact s_ret ev_c fun H2 e2 => k H2 (e1.trans e2)
      · have h : (!(decide ((0 : Int) < (z.length : Int)) && decide ((z.length : Int) ≤ 8))) = false := h
        have e : nameB z = z.cps.toList.all fun c => decide (c ∈ LT.cps.toList) := by
          unfold nameB
          have e1 : decide ((0 : Int) < (z.length : Int)) = decide (0 < z.length) := decide_eq_decide.mpr (by omega)
          have e2 : decide ((z.length : Int) ≤ 8) = decide (z.length ≤ 8) := decide_eq_decide.mpr (by omega)
          rw [← e1, ← e2, nb_f h] <;> rfl
        rw [e] at k
        let out : List V := (z.cps.toList.map fun c => decide (c ∈ LT.cps.toList)).map V.bl
        have hlen : out.length = z.cps.size := by simp [out]
        have zz := el_lcC (te := tOp (fun x y H Q => ∃ (c : Nat) (z : Str), x = .str ⟨#[c]⟩ ∧ y = .str z ∧ Q (.bl (decide (c ∈ z.cps.toList))) H) (tVar 1) (tC (.str LT))) (tl := tVar 0) (z := z) (σ := start N_is_name [V.str z]) (H := H1) (j := 1) (vs := [1]) (fun i => out.getD i .non) (ev_var rfl) (show z.length ≤ 40000 by omega) (fun _ => rfl) (fun i c H2 e2 hc => by
          have e3 : out.getD i .non = .bl (decide (c ∈ LT.cps.toList)) := by
            show (((z.cps.toList.map fun c => decide (c ∈ LT.cps.toList)).map V.bl).getD i .non) = _
            rw [List.getD_eq_getElem?_getD, List.getElem?_map, List.getElem?_map, Array.getElem?_toList, hc] <;> rfl
          rw [e3]
          exact ev_op (ev_var rfl) ev_c fun H3 _ Q q => ⟨c, LT, rfl, rfl, q H3 (Ex.refl _)⟩)
        rw [← hlen] at zz
        have g : given out.length (fun _ => true) (fun i => out.getD i .non) = out := by
          have z0 := given_eq out (fun _ => true) id
          rw [filter_true, List.map_id] at z0
          exact z0
        rw [g] at zz
        have kk := ev_allN (K := K) zz
        rw [List.all_map] at kk
        exact s_ret kk fun H2 e2 => k H2 (e1.trans e2)
/-- a list or a tuple, or neither -/
inductive ListR (K : PySem.W.Frag) (H : Hp) : V → Option (Addr × List V) → Prop
  | seq {p : Addr} {xs : List V} (h : Seq H p xs) : ListR K H (.ref p) (some (p, xs))
  | oth {x : V} {v1 v2 v3 : Bool} (h : Is5 K H x v1 v2 v3 false false) : ListR K H x none
theorem ListR.ex {K : PySem.W.Frag} {H H' : Hp} {x : V} {o : Option (Addr × List V)} (h : ListR K H x o) (e : Ex H H') : ListR K H' x o := by
  cases h with
  | seq h => exact .seq (h.ex e)
  | oth h => exact .oth (h.ex e)
theorem ListR.isl {K : PySem.W.Frag} {H : Hp} {x : V} {o : Option (Addr × List V)} (h : ListR K H x o) : ∃ v1 v2 v3 v4 v5, Is5 K H x v1 v2 v3 v4 v5 ∧ o.isSome = (v4 || v5) := by
  cases h with
  | seq hs =>
    rcases hs with hs | hs
    · exact ⟨_, _, _, _, _, is_lst hs, rfl⟩
    · exact ⟨_, _, _, _, _, is_tup hs, rfl⟩
  | oth hI => exact ⟨_, _, _, _, _, hI, rfl⟩
def sp_is_list (K : PySem.W.Frag) : Sp := fun vs H Q _ => ∃ (x : V) (b : Bool), vs = [x] ∧ (∃ v1 v2 v3 v4 v5, Is5 K H x v1 v2 v3 v4 v5 ∧ b = (v4 || v5)) ∧ RetV (.bl b) H Q
theorem ok_is_list (T : All K mg a d tk c ci di) : FnOk P w K mg base CX0 1 (a 2) (d 2) ["value"] (sp_is_list K) := by
  refine T.F_is_list.fn.ok sc_is_list (fun vs H Q E h => ?_) (fun cdv A outer s H vs Q E hr h => ?_)
  · obtain ⟨x, b, rfl, _⟩ := h
    rfl
  · obtain ⟨x, b, rfl, ⟨v1, v2, v3, v4, v5, hI, rfl⟩, k⟩ := h
    have nd := sc_is_list.nd
    refine ⟨_, (pss_one (ps_ret (pe_callB call_isiT (by rfl) T.n_isinstance PyProof.Rows.boot_isinstance (pa_cons (pv 0) (pa_cons (pe_tup (pa_cons (pe_bltn (v := .ty "list") rfl T.n_list PyProof.Rows.boot_list rfl) (pa_cons (pe_bltn (v := .ty "tuple") rfl T.n_tuple PyProof.Rows.boot_tuple rfl) pa_nil))) pa_nil))))), ?_⟩
    exact s_ret (hI.lt (ev_var rfl)) k
theorem ev_isName {H : Hp} {σ : L2.St} {ta : TE} {x : V} {b : Bool} {E : XK} (h : Ev ta σ H x) (hn : NameR K H x b) : Ev (tCall (sp_is_name K) [] E (tCons ta tNil)) σ H (.bl b) := ev_call (ea_cons h ea_nil) fun H1 e Q q _ => ⟨x, b, rfl, hn.ex e, q⟩
theorem ev_isListI {H : Hp} {σ : L2.St} {ta : TE} {x : V} {v1 v2 v3 v4 v5 : Bool} {E : XK} (h : Ev ta σ H x) (hn : Is5 K H x v1 v2 v3 v4 v5) : Ev (tCall (sp_is_list K) [] E (tCons ta tNil)) σ H (.bl (v4 || v5)) := ev_call (ea_cons h ea_nil) fun H1 e Q q _ => ⟨x, _, rfl, ⟨_, _, _, _, _, hn.ex e, rfl⟩, q⟩
theorem ev_isList {H : Hp} {σ : L2.St} {ta : TE} {x : V} {o : Option (Addr × List V)} {E : XK} (h : Ev ta σ H x) (hn : ListR K H x o) : Ev (tCall (sp_is_list K) [] E (tCons ta tNil)) σ H (.bl o.isSome) := ev_call (ea_cons h ea_nil) fun H1 e Q q _ => ⟨x, o.isSome, rfl, (hn.ex e).isl, q⟩
end
end Mv
/-! Columns: what is right passes, what is wrong is raised. -/
namespace Mv
open PySem PySem.Spec PyProof.Rows L2 Evl
def fldOf (i : Nat) : Str := (["value", "value", "name", "value", "column", "value", "value"] : List Str).getD i ""
/-- an exception of the class i, of the thing x -/
def Rs (c : Nat → Addr) (i : Nat) (x : V) (H : Hp) (E : XK) : Prop := ∀ dx H', H dx = none → Ex H H' → H' dx = some (.xd [(fldOf i, x)]) → E (.ref (c i)) (some dx) H'
theorem Rs.ex {c : Nat → Addr} {i : Nat} {x : V} {H H1 : Hp} {E : XK} (h : Rs c i x H E) (e : Ex H H1) : Rs c i x H1 E := fun dx H' h1 h2 h3 => h dx H' (fresh_back e h1) (e.trans h2) h3
/-- the first thing that is no name, or a name twice -/
def walkC : List (V × Bool) → List V → Option (Nat × V)
  | [], _ => none
  | (x, b) :: r, f => if b = false then some (0, x) else if x ∈ f then some (2, x) else walkC r (f ++ [x])
section
variable {P : Program} {w : World} {K : PySem.W.Frag} {mg : Str → Option Value} {base : Heap} {a : Nat → Addr} {d : Nat → FuncData} {tk : Nat → Tok} {c ci : Nat → Addr} {di : Nat → FuncData}
def colsO (K : PySem.W.Frag) (c : Nat → Addr) (x : V) (H : Hp) (Q : VK) (E : XK) : Option (Addr × List V) → Prop
  | none => Rs c 1 x H E
  | some (_, xs) => (¬ (1 ≤ xs.length ∧ xs.length ≤ 5) ∧ Rs c 1 x H E) ∨ (1 ≤ xs.length ∧ xs.length ≤ 5 ∧ ∃ bs, Paired (NameR K H) xs bs ∧ match walkC (xs.zip bs) [] with
    | some (i, y) => Rs c i y H E
    | none => RetL xs H Q)
def sp_checked_columns (K : PySem.W.Frag) (c : Nat → Addr) : Sp := fun vs H Q E => ∃ (x : V) (o : Option (Addr × List V)), vs = [x] ∧ ListR K H x o ∧ colsO K c x H Q E o
theorem ok_checked_columns (T : All K mg a d tk c ci di) : FnOk P w K mg base (L2.CX P w) 4 (a 5) (d 5) ["columns"] (sp_checked_columns K c) := by
  refine T.F_checked_columns.fn.okX sc_checked_columns (fun vs H Q E h => ?_) (fun cdv A outer s H vs Q E hr h => ?_)
  · obtain ⟨x, o, rfl, _⟩ := h
    rfl
  · obtain ⟨x, o, rfl, hx, hO⟩ := h
    have nd := sc_checked_columns.nd
    have hu65 := hu65_of hr
    refine ⟨_, (pss_cons (ps_if (PW.pt (pw_or (pt_not (pt_val (pe_call (ok_is_list T) (hr.mono (by decide)) rfl T.F_is_list.m T.F_is_list.kp T.F_is_list.b .nil pass0 (pa_cons (pv 0) pa_nil)))) (pw_or1 (pt_not (pt_chain op_le op_le pe_int (pe_callB call_len_seq (by rfl) T.n_len PySem.boot_len (pa_cons (pv 0) pa_nil)) (pe_glob (v := .int 5) rfl T.c_MOST_COLUMNS ⟨_, rfl⟩))))))
 (pss_one (ps_raise rfl (takes_of rfl rfl rfl rfl) (pmk_rz (exT_InvalidColumns T) (hr.mono (by decide)) rfl (by decide) (pa_cons (pv 0) pa_nil))))
 pss_nil)
 (pss_cons (ps_set (i := 1) nd rfl (Or.inl rfl) (pe_lst pa_nil))
 (pss_cons (ps_for (passes_of rfl) rfl (pi_seq (pv 0)) (pg_name (i := 2) nd rfl (Or.inl rfl))
 (pss_cons (ps_if (pt_not (pt_val (pe_call (ok_is_name T) (hr.mono (by decide)) rfl T.F_is_name.m T.F_is_name.kp T.F_is_name.b .nil pass0 (pa_cons (pv 2) pa_nil))))
 (pss_one (ps_raise rfl (takes_of rfl rfl rfl rfl) (pmk_rz (exT_InvalidName T) (hr.mono (by decide)) rfl (by decide) (pa_cons (pv 2) pa_nil))))
 pss_nil)
 (pss_cons (ps_if (pt_cmpR (op_inD hu65) (pv 2) (pv 1) rfl)
 (pss_one (ps_raise rfl (takes_of rfl rfl rfl rfl) (pmk_rz (exT_DuplicateName T) (hr.mono (by decide)) rfl (by decide) (pa_cons (pv 2) pa_nil))))
 pss_nil)
 (pss_one (ps_expr (pe_bm PySem.F.plainAttrs_list PySem.F.slot_list_append PySem.F.type_list_append mt_append (pv 1) (pa_cons (pv 2) pa_nil)))))))
 (pss_one (ps_ret (pv 1)))))), ?_⟩
    have bad : ∀ {H1 : Hp}, Ex H H1 → Rs c 1 x H E → tRz (c 1) ["value"] (tCons (tVar 0) tNil) (start N_checked_columns [x]) H1 E := fun {H1} e1 hR => (ea_cons (ev_var rfl) ea_nil) H1 (Ex.refl _) _ fun H2 e2 => ⟨rfl, fun dx hd => (hR.ex (e1.trans e2)) dx _ hd (Ex.new hd) upd_same⟩
    cases hx with
    | @oth _ v1 v2 v3 hI =>
      exact q_when (b := true) (et_or (a := true) (b := true) (et_not (et_B (ev_isList (ev_var (i := 0) rfl) (.oth hI)))) fun h => nomatch h) (fun _ H1 e1 => bad e1 hO) fun h => nomatch h
    | @seq p xs hs =>
      have tst : EvT _ _ _ _ := et_or (et_not (et_B (ev_isList (E := E0) (ev_var (σ := start N_checked_columns [V.ref p]) (H := H) (i := 0) rfl) (.seq (K := K) hs)))) fun _ => et_not (et_chain (g := fun i j => decide (i ≤ j)) (g' := fun i j => decide (i ≤ j)) (i := 1) (k := 5) ev_c (ev_lenS (K := K) (ev_var (i := 0) rfl) hs) ev_c)
      rcases hO with ⟨hn, hR⟩ | ⟨h1, h5, bs, hp, hO⟩
      · refine q_when (b := true) (et_is tst ?_) (fun _ H1 e1 => bad e1 hR) fun h => nomatch h
        show (false || !(decide ((1 : Int) ≤ (xs.length : Int)) && decide ((xs.length : Int) ≤ 5))) = true
        by_cases q1 : 1 ≤ xs.length
        · rw [decide_eq_false (show ¬ ((xs.length : Int) ≤ 5) by omega), Bool.and_false] <;> rfl
        · rw [decide_eq_false (show ¬ ((1 : Int) ≤ (xs.length : Int)) by omega)] <;> rfl
      · refine q_when (b := false) (et_is tst ?_) (fun h => nomatch h) fun _ H1 e1 => ?_
        · show (false || !(decide ((1 : Int) ≤ (xs.length : Int)) && decide ((xs.length : Int) ≤ 5))) = false
          rw [decide_eq_true (show (1 : Int) ≤ (xs.length : Int) by omega), decide_eq_true (show (xs.length : Int) ≤ 5 by omega)] <;> rfl
        refine q_asgL (el_lst ea_nil (by decide)) fun f H2 hf e2 h2 => ?_
        have e12 := e1.trans e2
        have hfH : H f = none := fresh_back e1 hf
        have hlen := Paired.length hp
        let Pv : Nat → L2.St → Hp → Prop := fun i σ' H' => Ex H H' ∧ (∃ zs : List Str, xs.take i = zs.map V.str ∧ (∀ z ∈ zs, nameB z = true) ∧ H' f = some (.lst (zs.map V.str))) ∧ walkC (xs.zip bs) [] = walkC ((xs.zip bs).drop i) (xs.take i) ∧ ∃ v, σ' = [some (.ref p), some (.ref f), v]
        have h0 : Pv 0 [some (.ref p), some (.ref f), none] H2 := ⟨e12, ⟨[], rfl, (fun z h => nomatch h), h2⟩, by rw [List.drop_zero, List.take_zero], _, rfl⟩
        rcases hs with hs | hs
        · refine .inl ⟨_, rfl, p, rfl, ⟨_, sq_of (e12 _ _ hs)⟩, for_list (K := K) (a := p) (xs := xs) Pv h0 (fun i σ' H' _ q => sq_of (q.1 _ _ hs)) ?_ ?_⟩
          · skip
            rintro i x' σ' H' hi ⟨e', ⟨zs, hz1, hz2, hf'⟩, hw, v, rfl⟩
            obtain ⟨b, hb, hnr⟩ := Paired.at_l hp i x' hi
            have hnr' := hnr.ex e'
            have hzi : (xs.zip bs)[i]? = some (x', b) := List.getElem?_zip_eq_some.mpr ⟨hi, hb⟩
            obtain ⟨hil, hig⟩ := List.getElem?_eq_some_iff.mp hzi
            rw [List.drop_eq_getElem_cons hil, hig] at hw
            have hix : i < xs.length := (List.getElem?_eq_some_iff.mp hi).1
            cases b with
            | false =>
              have hR : Rs c 0 x' H E := by
                rw [hw, walkC, if_pos rfl] at hO
                exact hO
              exact q_when (b := true) (et_not (et_B (ev_isName (ev_var (i := 2) rfl) hnr'))) (fun _ H3 e3 => (ea_cons (ev_var (i := 2) rfl) ea_nil) H3 (Ex.refl _) _ fun H4 e4 => ⟨rfl, fun dx hd => (hR.ex ((e'.trans e3).trans e4)) dx _ hd (Ex.new hd) upd_same⟩) fun h => nomatch h
            | true =>
              obtain ⟨z, rfl, hz, hzl⟩ := hnr'.is
              refine q_when (b := false) (et_not (et_B (ev_isName (ev_var (i := 2) rfl) hnr'))) (fun h => nomatch h) fun _ H3 e3 => ?_
              have hin : EvT (tTest (tOp (rInD K) (tVar 2) (tVar 1))) [some (V.ref p), some (V.ref f), some (V.str z)] H3 (decide (z ∈ zs)) := et_test (ev_op (ev_var (i := 2) rfl) (ev_var (i := 1) rfl) (rv_inStrs (e3 _ _ hf') (ok_of_name hz) fun y hy => ok_of_name (hz2 y hy)))
              by_cases hm : z ∈ zs
              · have hR : Rs c 2 (.str z) H E := by
                  rw [hw, walkC, if_neg (fun h => nomatch h), if_pos (by rw [hz1]; exact List.mem_map.mpr ⟨z, hm, rfl⟩)] at hO
                  exact hO
                exact q_when (b := true) (et_is hin (decide_eq_true hm)) (fun _ H4 e4 => (ea_cons (ev_var (i := 2) rfl) ea_nil) H4 (Ex.refl _) _ fun H5 e5 => ⟨rfl, fun dx hd => (hR.ex (((e'.trans e3).trans e4).trans e5)) dx _ hd (Ex.new hd) upd_same⟩) fun h => nomatch h
              · refine q_when (b := false) (et_is hin (decide_eq_false hm)) (fun h => nomatch h) fun _ H4 e4 => ?_
                have e34 := e3.trans e4
                have hzl5 : (zs.map V.str).length ≤ 5 := by
                  rw [← hz1, List.length_take]
                  omega
                refine s_app (e34 _ _ hf') (ev_var (i := 1) rfl) (ev_var (i := 2) rfl) (by omega) fun H5 e5 => ?_
                have hts : xs.take (i + 1) = (zs ++ [z]).map V.str := by
                  rw [List.take_succ, hi, hz1, List.map_append] <;> rfl
                refine ⟨Ex.mut (e'.trans (e34.trans e5)) hfH, ⟨zs ++ [z], hts, fun y hy => ?_, ?_⟩, ?_, _, rfl⟩
                · rcases List.mem_append.mp hy with hy | hy
                  · exact hz2 y hy
                  · rw [List.mem_singleton.mp hy]
                    exact hz
                · rw [upd_same, List.map_append] <;> rfl
                · have hnm : ¬ (V.str z ∈ xs.take i) := fun hm' => by
                    rw [hz1] at hm'
                    obtain ⟨y, hy, ey⟩ := List.mem_map.mp hm'
                    cases ey
                    exact hm hy
                  rw [hw, walkC, if_neg (fun h => nomatch h), if_neg hnm, List.take_succ, hi] <;> rfl
          · skip
            rintro σ' H' ⟨e', ⟨zs, hz1, hz2, hf'⟩, hw, v, rfl⟩
            rw [List.take_length] at hz1
            have hd0 : (xs.zip bs).drop xs.length = [] := List.drop_eq_nil_of_le (by rw [List.length_zip]; omega)
            rw [hd0] at hw
            rw [hw, walkC] at hO
            exact s_ret (ev_var (i := 1) rfl) fun H2 e2 => hO f H2 hfH (e'.trans e2) (by rw [hz1]; exact e2 _ _ hf')
        · refine .inr ⟨_, rfl, p, rfl, ⟨_, st_of (e12 _ _ hs)⟩, for_tup (K := K) (a := p) (xs := xs) Pv h0 (fun i σ' H' _ q => st_of (q.1 _ _ hs)) ?_ ?_⟩
          · skip
            rintro i x' σ' H' hi ⟨e', ⟨zs, hz1, hz2, hf'⟩, hw, v, rfl⟩
            obtain ⟨b, hb, hnr⟩ := Paired.at_l hp i x' hi
            have hnr' := hnr.ex e'
            have hzi : (xs.zip bs)[i]? = some (x', b) := List.getElem?_zip_eq_some.mpr ⟨hi, hb⟩
            obtain ⟨hil, hig⟩ := List.getElem?_eq_some_iff.mp hzi
            rw [List.drop_eq_getElem_cons hil, hig] at hw
            have hix : i < xs.length := (List.getElem?_eq_some_iff.mp hi).1
            cases b with
            | false =>
              have hR : Rs c 0 x' H E := by
                rw [hw, walkC, if_pos rfl] at hO
                exact hO
              exact q_when (b := true) (et_not (et_B (ev_isName (ev_var (i := 2) rfl) hnr'))) (fun _ H3 e3 => (ea_cons (ev_var (i := 2) rfl) ea_nil) H3 (Ex.refl _) _ fun H4 e4 => ⟨rfl, fun dx hd => (hR.ex ((e'.trans e3).trans e4)) dx _ hd (Ex.new hd) upd_same⟩) fun h => nomatch h
            | true =>
              obtain ⟨z, rfl, hz, hzl⟩ := hnr'.is
              refine q_when (b := false) (et_not (et_B (ev_isName (ev_var (i := 2) rfl) hnr'))) (fun h => nomatch h) fun _ H3 e3 => ?_
              have hin : EvT (tTest (tOp (rInD K) (tVar 2) (tVar 1))) [some (V.ref p), some (V.ref f), some (V.str z)] H3 (decide (z ∈ zs)) := et_test (ev_op (ev_var (i := 2) rfl) (ev_var (i := 1) rfl) (rv_inStrs (e3 _ _ hf') (ok_of_name hz) fun y hy => ok_of_name (hz2 y hy)))
              by_cases hm : z ∈ zs
              · have hR : Rs c 2 (.str z) H E := by
                  rw [hw, walkC, if_neg (fun h => nomatch h), if_pos (by rw [hz1]; exact List.mem_map.mpr ⟨z, hm, rfl⟩)] at hO
                  exact hO
                exact q_when (b := true) (et_is hin (decide_eq_true hm)) (fun _ H4 e4 => (ea_cons (ev_var (i := 2) rfl) ea_nil) H4 (Ex.refl _) _ fun H5 e5 => ⟨rfl, fun dx hd => (hR.ex (((e'.trans e3).trans e4).trans e5)) dx _ hd (Ex.new hd) upd_same⟩) fun h => nomatch h
              · refine q_when (b := false) (et_is hin (decide_eq_false hm)) (fun h => nomatch h) fun _ H4 e4 => ?_
                have e34 := e3.trans e4
                have hzl5 : (zs.map V.str).length ≤ 5 := by
                  rw [← hz1, List.length_take]
                  omega
                refine s_app (e34 _ _ hf') (ev_var (i := 1) rfl) (ev_var (i := 2) rfl) (by omega) fun H5 e5 => ?_
                have hts : xs.take (i + 1) = (zs ++ [z]).map V.str := by
                  rw [List.take_succ, hi, hz1, List.map_append] <;> rfl
                refine ⟨Ex.mut (e'.trans (e34.trans e5)) hfH, ⟨zs ++ [z], hts, fun y hy => ?_, ?_⟩, ?_, _, rfl⟩
                · rcases List.mem_append.mp hy with hy | hy
                  · exact hz2 y hy
                  · rw [List.mem_singleton.mp hy]
                    exact hz
                · rw [upd_same, List.map_append] <;> rfl
                · have hnm : ¬ (V.str z ∈ xs.take i) := fun hm' => by
                    rw [hz1] at hm'
                    obtain ⟨y, hy, ey⟩ := List.mem_map.mp hm'
                    cases ey
                    exact hm hy
                  rw [hw, walkC, if_neg (fun h => nomatch h), if_neg hnm, List.take_succ, hi] <;> rfl
          · skip
            rintro σ' H' ⟨e', ⟨zs, hz1, hz2, hf'⟩, hw, v, rfl⟩
            rw [List.take_length] at hz1
            have hd0 : (xs.zip bs).drop xs.length = [] := List.drop_eq_nil_of_le (by rw [List.length_zip]; omega)
            rw [hd0] at hw
            rw [hw, walkC] at hO
            exact s_ret (ev_var (i := 1) rfl) fun H2 e2 => hO f H2 hfH (e'.trans e2) (by rw [hz1]; exact e2 _ _ hf')
end
end Mv
/-! A column of the known ones, not there yet. -/
namespace Mv
open PySem PySem.Spec PyProof.Rows L2 Evl
theorem inV_strs (zs : List Str) (z : Str) : inV (.str z) (zs.map V.str) = decide (z ∈ zs) := by
  induction zs with
  | nil => rfl
  | cons y zs ih =>
    show (eqV (.str y) (.str z) || inV (.str z) (zs.map V.str)) = decide (z ∈ y :: zs)
    rw [ih, Bool.eq_iff_iff, Bool.or_eq_true, decide_eq_true_eq, decide_eq_true_eq, List.mem_cons]
    have e : eqV (.str y) (.str z) = true ↔ z = y := by
      constructor
      · intro h
        have h' : (y == z) = true := by first | exact h | simpa [eqV] using h
        exact (eq_of_beq h').symm
      · rintro rfl
        first | exact beq_self_eq_true _ | simp [eqV]
    rw [e]
/-- what is wrong with x: no name, not known, there already -/
def ncR (zs ws : List Str) (x : V) (b : Bool) : Option (Nat × V) := if b = false then some (0, x) else if ¬ (x ∈ zs.map V.str) then some (4, x) else if x ∈ ws.map V.str then some (2, x) else none
section
variable {P : Program} {w : World} {K : PySem.W.Frag} {mg : Str → Option Value} {base : Heap} {a : Nat → Addr} {d : Nat → FuncData} {tk : Nat → Tok} {c ci : Nat → Addr} {di : Nat → FuncData}
def sp_need_column (K : PySem.W.Frag) (c : Nat → Addr) : Sp := fun vs H Q E => ∃ (p q : Addr) (zs ws : List Str) (x : V) (b : Bool), vs = [.ref p, x, .ref q] ∧ H p = some (.lst (zs.map V.str)) ∧ Seq H q (ws.map V.str) ∧ (∀ z ∈ zs, nameB z = true) ∧ NameR K H x b ∧ match ncR zs ws x b with
  | some (i, y) => Rs c i y H E
  | none => RetV .non H Q
theorem ok_need_column (T : All K mg a d tk c ci di) : FnOk P w K mg base (L2.CX P w) 4 (a 6) (d 6) ["known", "name", "earlier"] (sp_need_column K c) := by
  refine T.F_need_column.fn.okX sc_need_column (fun vs H Q E h => ?_) (fun cdv A outer s H vs Q E hr h => ?_)
  · obtain ⟨p, q, zs, ws, x, b, rfl, _⟩ := h
    rfl
  · obtain ⟨p, q, zs, ws, x, b, rfl, hp, hq, hz, hn, hO⟩ := h
    have nd := sc_need_column.nd
    have hu65 := hu65_of hr
    refine ⟨_, (pss_cons (ps_if (pt_not (pt_val (pe_call (ok_is_name T) (hr.mono (by decide)) rfl T.F_is_name.m T.F_is_name.kp T.F_is_name.b .nil pass0 (pa_cons (pv 1) pa_nil))))
 (pss_one (ps_raise rfl (takes_of rfl rfl rfl rfl) (pmk_rz (exT_InvalidName T) (hr.mono (by decide)) rfl (by decide) (pa_cons (pv 1) pa_nil))))
 pss_nil)
 (pss_cons (ps_if (pt_cmpR (op_notInD hu65) (pv 1) (pv 0) rfl)
 (pss_one (ps_raise rfl (takes_of rfl rfl rfl rfl) (pmk_rz (exT_UnknownColumn T) (hr.mono (by decide)) rfl (by decide) (pa_cons (pv 1) pa_nil))))
 pss_nil)
 (pss_one (ps_if (pt_cmpR op_in_seq (pv 1) (pv 2) rfl)
 (pss_one (ps_raise rfl (takes_of rfl rfl rfl rfl) (pmk_rz (exT_DuplicateName T) (hr.mono (by decide)) rfl (by decide) (pa_cons (pv 1) pa_nil))))
 pss_nil)))), ?_⟩
    have bad : ∀ {i : Nat} {H1 : Hp}, Ex H H1 → Rs c i x H E → fldOf i = fldOf i → ∀ H4, Ex H1 H4 → ∀ dx, H4 dx = none → E (.ref (c i)) (some dx) (upd H4 dx (.xd [(fldOf i, x)])) := fun {i H1} e1 hR _ H4 e4 dx hd => (hR.ex (e1.trans e4)) dx _ hd (Ex.new hd) upd_same
    cases b with
    | false =>
      have hR : Rs c 0 x H E := by
        rw [ncR, if_pos rfl] at hO
        exact hO
      exact q_when (b := true) (et_not (et_B (ev_isName (ev_var (i := 1) rfl) hn))) (fun _ H1 e1 => (ea_cons (ev_var (i := 1) rfl) ea_nil) H1 (Ex.refl _) _ fun H2 e2 => ⟨rfl, fun dx hd => bad e1 hR rfl H2 e2 dx hd⟩) fun h => nomatch h
    | true =>
      obtain ⟨z, rfl, hnz, hzl⟩ := hn.is
      rw [ncR, if_neg (fun h => nomatch h)] at hO
      refine q_when (b := false) (et_not (et_B (ev_isName (ev_var (i := 1) rfl) hn))) (fun h => nomatch h) fun _ H1 e1 => ?_
      have t1 : EvT (tTest (tOp (rNotInD K) (tVar 1) (tVar 0))) (start N_need_column [V.ref p, V.str z, V.ref q]) H1 (!decide (z ∈ zs)) := et_test (ev_op (ev_var (i := 1) rfl) (ev_var (i := 0) rfl) (rv_ninStrs (e1 _ _ hp) (ok_of_name hnz) fun y hy => ok_of_name (hz y hy)))
      by_cases hm : z ∈ zs
      · have hmm : V.str z ∈ zs.map V.str := List.mem_map.mpr ⟨z, hm, rfl⟩
        rw [if_neg (fun h => h hmm)] at hO
        refine q_when (b := false) (et_is t1 (by rw [decide_eq_true hm] <;> rfl)) (fun h => nomatch h) fun _ H2 e2 => ?_
        have e12 := e1.trans e2
        have fl : (ws.map V.str).all flatV = true := by
          rw [List.all_eq_true]
          intro y hy
          obtain ⟨s', _, rfl⟩ := List.mem_map.mp hy
          rfl
        have t2 : EvT (tTest (tOp (rIn K false) (tVar 1) (tVar 2))) (start N_need_column [V.ref p, V.str z, V.ref q]) H2 (decide (z ∈ ws)) := by
          rw [← inV_strs]
          exact et_test (ev_op (ev_var (i := 1) rfl) (ev_var (i := 2) rfl) ((hq.ex e12).elim (fun h => rv_isL (sq_of h) rfl fl) fun h => rv_isT (st_of h) rfl fl))
        by_cases hw : z ∈ ws
        · have hR : Rs c 2 (.str z) H E := by
            rw [if_pos (List.mem_map.mpr ⟨z, hw, rfl⟩)] at hO
            exact hO
          exact s_when (b := true) (et_is t2 (decide_eq_true hw)) (fun _ H3 e3 => (ea_cons (ev_var (i := 1) rfl) ea_nil) H3 (Ex.refl _) _ fun H4 e4 => ⟨rfl, fun dx hd => bad (e12.trans e3) hR rfl H4 e4 dx hd⟩) fun h => nomatch h
        · have hww : ¬ (V.str z ∈ ws.map V.str) := fun h => by
            obtain ⟨y, hy, ey⟩ := List.mem_map.mp h
            cases ey
            exact hw hy
          rw [if_neg hww] at hO
          exact s_when (b := false) (et_is t2 (decide_eq_false hw)) (fun h => nomatch h) fun _ H3 e3 => hO H3 (e12.trans e3)
      · have hmm : ¬ (V.str z ∈ zs.map V.str) := fun h => by
          obtain ⟨y, hy, ey⟩ := List.mem_map.mp h
          cases ey
          exact hm hy
        have hR : Rs c 4 (.str z) H E := by
          rw [if_pos hmm] at hO
          exact hO
        exact q_when (b := true) (et_is t1 (by rw [decide_eq_false hm] <;> rfl)) (fun _ H2 e2 => (ea_cons (ev_var (i := 1) rfl) ea_nil) H2 (Ex.refl _) _ fun H3 e3 => ⟨rfl, fun dx hd => bad (e1.trans e2) hR rfl H3 e3 dx hd⟩) fun h => nomatch h
end
end Mv
/-! Some of the known columns, all ways. -/
namespace Mv
open PySem PySem.Spec PyProof.Rows L2 Evl
theorem cutV_to (xs : List V) (n : Nat) (h : n ≤ xs.length) : cutV xs none (some (n : Int)) = xs.take n := by
  unfold cutV
  rw [HT.sIx_nat, HT.sIx_none, Nat.min_eq_left h, List.drop_zero, Nat.sub_zero]
def strOf : V → Str
  | .str z => z
  | _ => ""
/-- the first that is wrong -/
def walkS (zs : List Str) : List (V × Bool) → List Str → Option (Nat × V)
  | [], _ => none
  | (x, b) :: r, ws => match ncR zs ws x b with
    | some e => some e
    | none => walkS zs r (ws ++ [strOf x])
theorem ncR_none {K : PySem.W.Frag} {H : Hp} {zs ws : List Str} {x : V} {b : Bool} (h : ncR zs ws x b = none) (hn : NameR K H x b) : ∃ z, x = .str z := by
  cases b with
  | false =>
    rw [ncR, if_pos rfl] at h
    cases h
  | true =>
    obtain ⟨z, rfl, _⟩ := hn.is
    exact ⟨z, rfl⟩
section
variable {P : Program} {w : World} {K : PySem.W.Frag} {mg : Str → Option Value} {base : Heap} {a : Nat → Addr} {d : Nat → FuncData} {tk : Nat → Tok} {c ci : Nat → Addr} {di : Nat → FuncData}
def someO (K : PySem.W.Frag) (c : Nat → Addr) (zs : List Str) (x : V) (H : Hp) (Q : VK) (E : XK) : Option (Addr × List V) → Prop
  | none => Rs c 1 x H E
  | some (_, xs) => (¬ xs.length ≤ 5 ∧ Rs c 1 x H E) ∨ (xs.length ≤ 5 ∧ ∃ bs, Paired (NameR K H) xs bs ∧ match walkS zs (xs.zip bs) [] with
    | some (i, y) => Rs c i y H E
    | none => RetL xs H Q)
end
end Mv
/-! Small defs. -/
namespace Mv
open PySem PySem.Spec PyProof.Rows L2 Evl
theorem el_lcLm {K : PySem.W.Frag} {σ : L2.St} {H : Hp} {tl te : TE} {a : Addr} {xs : List V} {j : Nat} {vs : List Nat} (g : V → V) (h : Ev tl σ H (.ref a)) (hx : H a = some (.lst xs)) (hz : xs.length ≤ 40000) (hw : ∀ x, wipe ((wipe σ vs).set j (some x)) vs = wipe σ vs)
    (he : ∀ (x : V) H1, Ex H H1 → x ∈ xs → Ev te ((wipe σ vs).set j (some x)) H1 (g x)) : EvL (tLc (iList K tl) (gName j) tYes te vs) σ H (xs.map g) := by
  have hm : ∀ i x, xs[i]? = some x → xs.getD i .non = x := fun i x e => by rw [List.getD_eq_getElem?_getD, e] <;> rfl
  have z := el_lcL (K := K) (t := tYes) (te := te) (xs := xs) (fun _ => true) (fun i => g (xs.getD i .non)) h (sq_of hx) hz hw (fun _ _ _ _ _ => et_yes) (fun i x H1 e1 hi _ => by rw [hm i x hi]; exact he x H1 e1 (List.mem_of_getElem? hi))
  have e0 := given_eq xs (fun _ => true) g
  rw [filter_true] at e0
  rw [← e0]
  exact z
/-! the fields -/
def flD (l m : Addr) : List (Str × V) := putF "own_pairs" (.ref m) (putF "own_columns" (.ref l) [])
theorem kOP : ¬ (("own_columns" : Str) = "own_pairs") := by decide +kernel
theorem flD_cols (l m : Addr) : (flD l m).lookup ("own_columns" : Str) = some (.ref l) := by
  unfold flD
  rw [lookup_putF, if_neg kOP, lookup_putF, if_pos rfl]
theorem flD_pairs (l m : Addr) : (flD l m).lookup ("own_pairs" : Str) = some (.ref m) := by
  unfold flD
  rw [lookup_putF, if_pos rfl]
/-- one pair as it lies -/
def PairAt (H : Hp) (u : V) (r : List Str × Str) : Prop := ∃ t v : Addr, u = .ref t ∧ H t = some (.tup [.ref v, .str r.2]) ∧ H v = some (.lst (r.1.map V.str))
theorem PairAt.ex {H H' : Hp} {u : V} {r : List Str × Str} (h : PairAt H u r) (e : Ex H H') : PairAt H' u r := let ⟨t, v, h1, h2, h3⟩ := h; ⟨t, v, h1, e _ _ h2, e _ _ h3⟩
/-- Dependencies as they lie: their columns, their pairs -/
structure DepR (C : Addr) (H : Hp) (p : Addr) (zs : List Str) (rs : List (List Str × Str)) : Prop where
  ex : ∃ (dx l m : Addr) (us : List V), H p = some (.ins C dx (flD l m)) ∧ H l = some (.lst (zs.map V.str)) ∧ H m = some (.lst us) ∧ Paired (PairAt H) us rs
theorem DepR.mono {C : Addr} {H H' : Hp} {p : Addr} {zs : List Str} {rs : List (List Str × Str)} (h : DepR C H p zs rs) (e : Ex H H') : DepR C H' p zs rs := let ⟨dx, l, m, us, h1, h2, h3, h4⟩ := h.ex; ⟨dx, l, m, us, e _ _ h1, e _ _ h2, e _ _ h3, Paired.imp (fun _ _ z => z.ex e) h4⟩
section
variable {P : Program} {w : World} {K : PySem.W.Frag} {mg : Str → Option Value} {base : Heap} {a : Nat → Addr} {d : Nat → FuncData} {tk : Nat → Tok} {c ci : Nat → Addr} {di : Nat → FuncData}
/-! lies_in -/
def sp_lies_in : Sp := fun vs H Q _ => ∃ (p q : Addr) (xs ys : List Str), vs = [.ref p, .ref q] ∧ H p = some (.lst (xs.map V.str)) ∧ H q = some (.lst (ys.map V.str)) ∧ xs.length ≤ 1000 ∧ (∀ z ∈ xs, PyData.strOk z = true) ∧ (∀ z ∈ ys, PyData.strOk z = true) ∧ RetV (.bl (xs.all fun z => decide (z ∈ ys))) H Q
theorem ok_lies_in (T : All K mg a d tk c ci di) : FnOk P w K mg base CX0 1 (a 4) (d 4) ["some", "others"] sp_lies_in := by
  refine T.F_lies_in.fn.ok sc_lies_in (fun vs H Q E h => ?_) (fun cdv A outer s H vs Q E hr h => ?_)
  · obtain ⟨p, q, xs, ys, rfl, _⟩ := h
    rfl
  · obtain ⟨p, q, xs, ys, rfl, hp, hq, hl, hx, hy, k⟩ := h
    have nd := sc_lies_in.nd
    have hu65 := hu65_of hr
    refine ⟨_, (pss_one (ps_ret (pe_callB (cr_all rfl) (by rfl) T.n_all PyProof.Rows.boot_all (pa_cons (pe_lc (own := [("column", 2)]) (g := (gName 2)) rfl nd (pi_list (pv 0)) (blkOk_by (N := N_lies_in) (sc := defScope s_lies_in) (by decide +kernel)) (fun _ _ _ _ _ => (pg_name (i := 2) nd rfl (Or.inl rfl))) (fun _ _ _ _ _ => pts_nil) (fun _ _ _ _ _ => (pe_cmpR (show OpR _ (compareOp .In) (rInD K) from (op_inD hu65)) (pv 2) (pv 1) rfl))) pa_nil)))), ?_⟩
    have z := el_lcLm (K := K) (te := tOp (rInD K) (tVar 2) (tVar 1)) (tl := tVar 0) (σ := start N_lies_in [V.ref p, V.ref q]) (H := H) (j := 2) (vs := [2]) (fun x => .bl (decide (strOf x ∈ ys))) (ev_var rfl) hp (by rw [List.length_map]; omega) (fun _ => rfl) (fun x H1 e1 hm => by
      obtain ⟨z, hz, rfl⟩ := List.mem_map.mp hm
      exact ev_op (ev_var (i := 2) rfl) (ev_var (i := 1) rfl) (rv_inStrs (e1 _ _ hq) (hx z hz) hy))
    have e : (xs.map V.str).map (fun x => V.bl (decide (strOf x ∈ ys))) = (xs.map fun z => decide (z ∈ ys)).map V.bl := by
      rw [List.map_map, List.map_map] <;> rfl
    rw [e] at z
    have kk := ev_allN (K := K) z
    rw [List.all_map] at kk
    exact s_ret kk k
/-! columns, len -/
end
end Mv
/-! The law's names. -/
namespace Mv
open PySem PySem.Spec PyProof.Rows L2 Evl
def allNm : List Str := ["b", "a", "zip", "c", "ab", "x", "longname", "k"]
theorem allNm_nd : allNm.Nodup := by decide +kernel
theorem allNm_ok : ∀ z ∈ allNm, nameB z = true ∧ z.length ≤ 1000 := by decide +kernel
theorem perm_strs {ys : List V} {zs : List Str} (p : ys.Perm (zs.map V.str)) : ys = (ys.map strOf).map V.str ∧ (ys.map strOf).Perm zs := by
  have e : ys = (ys.map strOf).map V.str := by
    rw [List.map_map]
    have : ∀ l : List V, (∀ x ∈ l, ∃ z, x = V.str z) → l = l.map (V.str ∘ strOf) := fun l => by
      induction l with
      | nil => exact fun _ => rfl
      | cons x l ih =>
        intro h
        obtain ⟨z, rfl⟩ := h x List.mem_cons_self
        rw [List.map_cons, ← ih fun y hy => h y (List.mem_cons_of_mem _ hy)] <;> rfl
    exact this ys fun x hx => by
      obtain ⟨z, _, e⟩ := List.mem_map.mp (p.mem_iff.mp hx)
      exact ⟨z, e.symm⟩
  have q := p.map strOf
  rw [List.map_map] at q
  have e2 : (strOf ∘ V.str) = id := rfl
  rw [e2, List.map_id] at q
  exact ⟨e, q⟩
section
variable {P : Program} {w : World} {K : PySem.W.Frag} {mg : Str → Option Value} {base : Heap} {a : Nat → Addr} {d : Nat → FuncData} {tk : Nat → Tok} {c ci : Nat → Addr} {di : Nat → FuncData}
def sp__law_names : Sp := fun vs H Q _ => ∃ (b : Addr) (m n : Nat), vs = [.ref b, .int (m : Int)] ∧ m ≤ 8 ∧ BoxAt H b n ∧ n ≤ 80000 ∧ ∀ (p : Addr) (zs : List Str) (H2 : Hp), H p = none → zs.length = m → zs.Nodup → (∀ z ∈ zs, z ∈ allNm) → ExB b H H2 → BoxAt H2 b (n + 60) → H2 p = some (.lst (zs.map V.str)) → Q (.ref p) H2
theorem ok__law_names (T : All K mg a d tk c ci di) : FnOk P w K mg base CX0 3 (a 20) (d 20) ["box", "many"] sp__law_names := by
  refine T.F__law_names.fn.ok sc__law_names (fun vs H Q E h => ?_) (fun cdv A outer s H vs Q E hr h => ?_)
  · obtain ⟨b, m, n, rfl, _⟩ := h
    rfl
  · obtain ⟨b, m, n, rfl, hm, hB, hn, k⟩ := h
    have nd := sc__law_names.nd
    refine ⟨_, (pss_one (ps_ret (pe_slice sl_list (pe_call (ok__law_mixed T) (hr.mono (by decide)) rfl T.F__law_mixed.m T.F__law_mixed.kp T.F__law_mixed.b .nil pass0 (pa_cons (pv 0) (pa_cons (pe_lst (pa_cons pe_str (pa_cons pe_str (pa_cons pe_str (pa_cons pe_str (pa_cons pe_str (pa_cons pe_str (pa_cons pe_str (pa_cons pe_str pa_nil))))))))) pa_nil))) po_none (po_some (pv 1))))), ?_⟩
    refine ⟨_, rfl, sz_of (show 8 ≤ 100000 by decide), fun q hq => ⟨b, q, allNm.map V.str, n, rfl, upd_same, (by decide), hB.upd (hB.ne hq), by omega, fun r ys H2 pm nr hr e2 hB2 => ?_⟩⟩
    refine ⟨_, rfl, (m : Int), rfl, r, ys, rfl, sq_of hr, fun p hp => ?_⟩
    have ly : ys.length = 8 := by rw [pm.length_eq] <;> rfl
    rw [cutV_to ys m (by omega)]
    obtain ⟨e, pz⟩ := perm_strs pm
    have nb : b ≠ p := hB2.ne hp
    have eQ : Ex H (upd H q (.lst (allNm.map V.str))) := Ex.new hq
    have eP : Ex H2 (upd H2 p (.lst (ys.take m))) := Ex.new hp
    refine k p ((ys.map strOf).take m) _ (fresh_back eQ (e2.back (Ne.symm nb) hp)) (by rw [List.length_take, List.length_map]; omega) ((pz.nodup_iff.mpr allNm_nd).sublist (List.take_sublist _ _)) (fun z hz => pz.mem_iff.mp (List.mem_of_mem_take hz)) (((Ex.b eQ).trans e2).trans (Ex.b eP)) (hB2.ex eP) ?_
    rw [upd_same, List.map_take, ← e]
end
end Mv
/-! Comprehensions over a list of pairs. -/
namespace Mv
open PySem PySem.Spec PyProof.Rows L2 Evl
section
variable {K : PySem.W.Frag} {σ : L2.St} {H H' : Hp} {tl te : TE} {t : TT}
theorem el_lcP {a : Addr} {xs : List V} {j1 j2 : Nat} {vs : List Nat} (f : Nat → Bool) (g L R : Nat → V) (h : Ev tl σ H (.ref a)) (hx : H a = some (.lst xs)) (hz : xs.length ≤ 40000) (hp : ∀ i x, xs[i]? = some x → ∃ t, x = .ref t ∧ H t = some (.tup [L i, R i]))
    (hw : ∀ x y, wipe (((wipe σ vs).set j1 (some x)).set j2 (some y)) vs = wipe σ vs)
    (ht : ∀ (i : Nat) H1, Ex H H1 → i < xs.length → EvT t (((wipe σ vs).set j1 (some (L i))).set j2 (some (R i))) H1 (f i)) (he : ∀ (i : Nat) H1, Ex H H1 → i < xs.length → f i = true → Ev te (((wipe σ vs).set j1 (some (L i))).set j2 (some (R i))) H1 (g i)) :
    EvL (tLc (iList K tl) (gTup K 2 (gCons (gName j1) (gCons (gName j2) gNil))) t te vs) σ H (given xs.length f g) := fun H0 e Q q => h H0 e _ fun H1 e1 => ⟨a, rfl, ⟨xs, sq_of ((e.trans e1) _ _ hx)⟩, fun Dl hD =>
  lc_list (xs := xs) (Cw H1 f g Dl) ⟨hD, Ex.new hD, upd_same⟩ (fun i H' _ p => sq_of (((e.trans e1).trans p.2.1) _ _ hx)) (fun i x H' hi p => by
    obtain ⟨u, rfl, htp⟩ := hp i x hi
    have hil : i < xs.length := (List.getElem?_eq_some_iff.mp hi).1
    exact ⟨u, _, rfl, st_of (((e.trans e1).trans p.2.1) _ _ htp), rfl, _, _, rfl, _, _, rfl, rfl, hw _ _, cw_turn p (by omega) (ht i H1 (e.trans e1) hil) (fun hf => he i H1 (e.trans e1) hil hf)⟩) (fun H' p => q Dl H' (fresh_back e1 p.1) (e1.trans p.2.1) p.2.2)⟩
end
end Mv
/-! sorted, as one function. -/
namespace Mv
open PySem PySem.Spec PyProof.Rows L2 Evl
open PySem.W (EachIs AllAlike Sortable dataLe keyToks keyToksAll alike alikeAll dataLt)
theorem pw_unique {β : Type} {le : β → β → Bool} (anti : ∀ a b, le a b = true → le b a = true → a = b) : ∀ {l m : List β}, l.Perm m → l.Pairwise (fun a b => le a b = true) → m.Pairwise (fun a b => le a b = true) → l = m
  | [], m, p, _, _ => (List.nil_perm.mp p).symm
  | x :: l, [], p, _, _ => absurd p.length_eq (by simp)
  | x :: l, y :: m, p, h1, h2 => by
    have hxy : x = y := by
      have hx : x ∈ y :: m := p.mem_iff.mp List.mem_cons_self
      have hy : y ∈ x :: l := p.mem_iff.mpr List.mem_cons_self
      rcases List.mem_cons.mp hx with e | hx
      · exact e
      rcases List.mem_cons.mp hy with e | hy
      · exact e.symm
      exact anti _ _ (List.rel_of_pairwise_cons h1 hy) (List.rel_of_pairwise_cons h2 hx)
    subst hxy
    rw [pw_unique anti (List.Perm.cons_inv p) (List.pairwise_cons.mp h1).2 (List.pairwise_cons.mp h2).2]
def ordD {β : Type} (k : β → PyData) (l : List β) : List β := l.mergeSort (dataLe false k)
section
variable {β : Type} {k : β → PyData}
theorem dle_lt (a b : β) : dataLe false k a b = !dataLt (k b) (k a) := rfl
theorem dle_trans (a b c : β) (h1 : dataLe false k a b = true) (h2 : dataLe false k b c = true) : dataLe false k a c = true := by
  rw [dle_lt, Bool.not_eq_true'] at h1 h2 ⊢
  cases e : dataLt (k c) (k a) with
  | false => rfl
  | true =>
    rcases PyProof.Rows.lex_negTrans (O := itemOrd) (keyToks (k c)) (keyToks (k b)) (keyToks (k a)) e with z | z
    · rw [show dataLt (k c) (k b) = true from z] at h2
      cases h2
    · rw [show dataLt (k b) (k a) = true from z] at h1
      cases h1
theorem dle_total (a b : β) : (dataLe false k a b || dataLe false k b a) = true := by
  rw [dle_lt, dle_lt]
  cases e : dataLt (k b) (k a) with
  | false => rfl
  | true =>
    cases e2 : dataLt (k a) (k b) with
    | false => rfl
    | true =>
      have z := PyProof.Rows.lex_trans (O := itemOrd) _ _ _ e e2
      rw [PyProof.Rows.lex_irrefl] at z
      cases z
theorem dle_anti (inj : ∀ a b : β, keyToks (k a) = keyToks (k b) → a = b) (a b : β) (h1 : dataLe false k a b = true) (h2 : dataLe false k b a = true) : a = b := by
  rw [dle_lt, Bool.not_eq_true'] at h1 h2
  exact inj a b (PyProof.Rows.lex_total (O := itemOrd) _ _ h2 h1)
theorem ordD_perm (l : List β) : (ordD k l).Perm l := List.mergeSort_perm _ _
theorem ordD_pw (l : List β) : (ordD k l).Pairwise (fun a b => dataLe false k a b = true) := List.pairwise_mergeSort dle_trans dle_total l
theorem ordD_mem {l : List β} {x : β} : x ∈ ordD k l ↔ x ∈ l := (ordD_perm l).mem_iff
theorem ordD_length (l : List β) : (ordD k l).length = l.length := (ordD_perm l).length_eq
theorem ordD_eq (inj : ∀ a b : β, keyToks (k a) = keyToks (k b) → a = b) {l m : List β} (p : m.Perm l) (h : m.Pairwise (fun a b => dataLe false k a b = true)) : m = ordD k l := pw_unique (dle_anti inj) (p.trans (ordD_perm l).symm) h (ordD_pw l)
theorem ordD_congr (inj : ∀ a b : β, keyToks (k a) = keyToks (k b) → a = b) {l m : List β} (p : m.Perm l) : ordD k m = ordD k l := ordD_eq inj ((ordD_perm m).trans p) (ordD_pw m)
theorem ordD_filter (inj : ∀ a b : β, keyToks (k a) = keyToks (k b) → a = b) (l : List β) (f : β → Bool) : (ordD k l).filter f = ordD k (l.filter f) := ordD_eq inj ((ordD_perm l).filter f) ((ordD_pw l).filter f)
theorem ordD_idem (inj : ∀ a b : β, keyToks (k a) = keyToks (k b) → a = b) (l : List β) : ordD k (ordD k l) = ordD k l := ordD_congr inj (ordD_perm l)
theorem ordD_nodup {l : List β} (h : l.Nodup) : (ordD k l).Nodup := (ordD_perm l).nodup_iff.mpr h
end
/-- a sorted list of what stands for other things -/
theorem paired_zip {α β : Type} {F : α → β → Prop} : ∀ {us : List α} {rs : List β}, Paired F us rs → (us.zip rs).map (·.1) = us ∧ (us.zip rs).map (·.2) = rs ∧ ∀ q ∈ us.zip rs, F q.1 q.2
  | _, _, .nil => ⟨rfl, rfl, fun q h => absurd h (by simp)⟩
  | _, _, .cons h t => by
    obtain ⟨a, b, f⟩ := paired_zip t
    refine ⟨by rw [List.zip_cons_cons, List.map_cons, a], by rw [List.zip_cons_cons, List.map_cons, b], fun q hq => ?_⟩
    rw [List.zip_cons_cons] at hq
    rcases List.mem_cons.mp hq with e | hq
    · rw [e]
      exact h
    · exact f q hq
theorem paired_maps {α β : Type} {F : α → β → Prop} : ∀ {qs : List (α × β)}, (∀ q ∈ qs, F q.1 q.2) → Paired F (qs.map (·.1)) (qs.map (·.2))
  | [], _ => .nil
  | q :: qs, h => .cons (h q List.mem_cons_self) (paired_maps fun p hp => h p (List.mem_cons_of_mem _ hp))
theorem sortD_use {β : Type} {K : PySem.W.Frag} {H : Hp} {Q : VK} {a : Addr} {us : List V} {rs : List β} (enc : β → PyData) (h : SqL K H a us) (hp : Paired (fun u r => Dp K H u (enc r)) us rs) (al : ∀ r r', alike (enc r) (enc r') = true) (sr : Sortable (rs.map enc)) (dp : ∀ r, (enc r).depth ≤ 60)
    (q : ∀ us' : List V, (∀ F : V → β → Prop, Paired F us rs → Paired F us' (ordD enc rs)) → us'.Perm us → ∀ p, H p = none → Q (.ref p) (upd H p (.lst us'))) : rSortD K [.ref a] H Q := by
  obtain ⟨z1, z2, z3⟩ := paired_zip hp
  have e1 : ((us.zip rs).map fun q => (q.1, enc q.2)).map (·.1) = us := by
    rw [List.map_map]
    exact z1
  have e2 : ((us.zip rs).map fun q => (q.1, enc q.2)).map (·.2) = rs.map enc := by
    rw [List.map_map]
    conv => rhs; rw [← z2, List.map_map]
    rfl
  refine ⟨a, (us.zip rs).map fun q => (q.1, enc q.2), rfl, by rw [e1]; exact h, fun p hm => ?_, ?_, ?_, fun p hm => ?_, fun p hn => ?_⟩
  · obtain ⟨q, hq, rfl⟩ := List.mem_map.mp hm
    exact z3 q hq
  · rw [e2]
    exact AllAlike.of al
  · rw [e2]
    exact sr
  · obtain ⟨q, hq, rfl⟩ := List.mem_map.mp hm
    exact dp _
  · have es : (((us.zip rs).map fun q : V × β => (q.1, enc q.2)).mergeSort (dataLe false fun p : V × PyData => p.2)) = ((us.zip rs).mergeSort (dataLe false fun q : V × β => enc q.2)).map fun q => (q.1, enc q.2) :=
      (List.map_mergeSort (f := fun q : V × β => (q.1, enc q.2)) (r := dataLe false fun q : V × β => enc q.2) (s := dataLe false fun p : V × PyData => p.2) (l := us.zip rs) (fun _ _ _ _ => rfl)).symm
    have er : ((us.zip rs).mergeSort (dataLe false fun q : V × β => enc q.2)).map (·.2) = ordD enc rs := by
      have z := List.map_mergeSort (f := fun q : V × β => q.2) (r := dataLe false fun q : V × β => enc q.2) (s := dataLe false enc) (l := us.zip rs) (fun _ _ _ _ => rfl)
      rw [z2] at z
      exact z
    rw [es, List.map_map]
    refine q (((us.zip rs).mergeSort (dataLe false fun q : V × β => enc q.2)).map (·.1)) (fun F hF => ?_) ?_ p hn
    · obtain ⟨_, _, f3⟩ := paired_zip hF
      rw [← er]
      exact paired_maps fun q hq => f3 q (List.mem_mergeSort.mp hq)
    · have zp := (List.mergeSort_perm (us.zip rs) (dataLe false fun q : V × β => enc q.2)).map (·.1)
      rw [z1] at zp
      exact zp
/-! texts, lists of texts, pairs -/
def srtS (zs : List Str) : List Str := ordD PyData.str zs
def encL (zs : List Str) : PyData := .list (zs.map .str)
def encP (r : List Str × Str) : PyData := .tuple [.list (r.1.map .str), .str r.2]
theorem injS (a b : Str) (h : keyToks (.str a) = keyToks (.str b)) : a = b := by
  simp only [keyToks, List.cons.injEq, Sum.inr.injEq, and_true] at h
  exact PySem.W.str_of_cps h
theorem toks_strs : ∀ (xs ys : List Str) (l m : List (Int ⊕ List Nat)), keyToksAll (xs.map .str) ++ l = keyToksAll (ys.map .str) ++ m → xs = ys ∧ l = m
  | [], [], l, m, h => ⟨rfl, by simpa [keyToksAll] using h⟩
  | [], y :: ys, l, m, h => by simp [keyToksAll] at h
  | x :: xs, [], l, m, h => by simp [keyToksAll] at h
  | x :: xs, y :: ys, l, m, h => by
    rw [List.map_cons, List.map_cons, PySem.W.toks_all_cons, PySem.W.toks_all_cons, keyToks, keyToks] at h
    simp only [List.cons_append, List.nil_append, List.cons.injEq, true_and, Sum.inr.injEq] at h
    obtain ⟨e1, e2⟩ := h
    obtain ⟨e3, e4⟩ := toks_strs xs ys l m e2
    rw [PySem.W.str_of_cps e1, e3]
    exact ⟨rfl, e4⟩
theorem injL (a b : List Str) (h : keyToks (encL a) = keyToks (encL b)) : a = b := by
  unfold encL at h
  rw [keyToks, keyToks] at h
  exact (toks_strs a b [] [] (by rw [List.append_nil, List.append_nil]; exact h)).1
theorem injP (a b : List Str × Str) (h : keyToks (encP a) = keyToks (encP b)) : a = b := by
  obtain ⟨a1, a2⟩ := a
  obtain ⟨b1, b2⟩ := b
  unfold encP at h
  simp only [keyToks, PySem.W.toks_all_cons, List.cons.injEq, true_and, List.cons_append, List.nil_append] at h
  obtain ⟨e1, e2⟩ := toks_strs a1 b1 _ _ h
  simp only [List.cons.injEq, Sum.inr.injEq, true_and, and_true] at e2
  rw [e1, PySem.W.str_of_cps e2]
theorem alike_strs : ∀ xs ys : List Str, alikeAll (xs.map .str) (ys.map .str) = true
  | [], _ => by simp [alikeAll]
  | _ :: _, [] => by simp [alikeAll]
  | x :: xs, y :: ys => by
    show alikeAll (.str x :: xs.map .str) (.str y :: ys.map .str) = true
    rw [alikeAll, alike_strs xs ys]
    simp [alike]
theorem alikeL (a b : List Str) : alike (encL a) (encL b) = true := by
  unfold encL
  rw [alike]
  exact alike_strs a b
theorem alikeP (a b : List Str × Str) : alike (encP a) (encP b) = true := by
  unfold encP
  simp [alike, alikeAll, alike_strs]
theorem depth_strs0 : ∀ zs : List Str, PyData.depthAll (zs.map PyData.str) = 0
  | [] => by simp [PyData.depthAll]
  | z :: zs => by
    show PyData.depthAll (.str z :: zs.map .str) = 0
    rw [PyData.depthAll, depth_strs0 zs]
    simp [PyData.depth]
theorem depthL (a : List Str) : (encL a).depth ≤ 60 := by
  unfold encL
  rw [PyData.depth, depth_strs0]
  omega
theorem depthP (a : List Str × Str) : (encP a).depth ≤ 60 := by
  unfold encP
  simp [PyData.depth, PyData.depthAll, depth_strs0]
theorem sortL (rs : List (List Str)) : Sortable (rs.map encL) := Sortable.others fun r => ⟨by simp [encL], by simp [encL]⟩
theorem sortP (rs : List (List Str × Str)) : Sortable (rs.map encP) := Sortable.tuples fun r => ⟨_, _, rfl⟩
theorem srt_of : ∀ {ys : List Str}, sortedS ys = true → ys.Pairwise (fun a b => dataLe false PyData.str a b = true)
  | [], _ => List.Pairwise.nil
  | y :: ys, h => by
    have go : ∀ (p : Str) (l : List Str), risingS p l = true → (p :: l).Pairwise (fun a b => dataLe false PyData.str a b = true) := fun p l => by
      induction l generalizing p with
      | nil => exact fun _ => List.pairwise_singleton _ _
      | cons x l ih =>
        intro h
        have h' : (!ltCps x.cps.toList p.cps.toList && risingS x l) = true := h
        rw [Bool.and_eq_true] at h'
        have e1 : dataLe false PyData.str p x = true := by
          rw [dle_lt, PySem.W.dataLt_str, ← ltCps_eq]
          exact h'.1
        refine List.pairwise_cons.mpr ⟨fun z hz => ?_, ih x h'.2⟩
        rcases List.mem_cons.mp hz with e | hz
        · rw [e]
          exact e1
        · exact dle_trans p x z e1 (List.rel_of_pairwise_cons (ih x h'.2) hz)
    exact go y ys h
theorem srtS_eq {ys zs : List Str} (p : ys.Perm zs) (h : sortedS ys = true) : ys = srtS zs := ordD_eq injS p (srt_of h)
end Mv
/-! Closed sets of columns. -/
namespace Mv
open PySem PySem.Spec PyProof.Rows L2 Evl
abbrev Pr := List Str × Str
def rdy (f : List Str) (r : Pr) : Bool := !decide (r.2 ∈ f) && r.1.all fun z => decide (z ∈ f)
/-- S holds with the left also the right -/
def Closed (rs : List Pr) (S : List Str) : Prop := ∀ r ∈ rs, (∀ y ∈ r.1, y ∈ S) → r.2 ∈ S
/-- f lies between the given columns and every closed set that holds them -/
structure Mid (rs : List Pr) (cs f : List Str) : Prop where
  sub : ∀ z ∈ cs, z ∈ f
  low : ∀ S, (∀ z ∈ cs, z ∈ S) → Closed rs S → ∀ z ∈ f, z ∈ S
  nd : f.Nodup
theorem Mid.start {rs : List Pr} {cs : List Str} (h : cs.Nodup) : Mid rs cs cs := ⟨fun _ h => h, fun _ h _ => h, h⟩
theorem Mid.more {rs : List Pr} {cs f : List Str} {r : Pr} (h : Mid rs cs f) (hr : r ∈ rs) (hd : rdy f r = true) : Mid rs cs (f ++ [r.2]) := by
  unfold rdy at hd
  rw [Bool.and_eq_true, Bool.not_eq_true', decide_eq_false_iff_not, List.all_eq_true] at hd
  refine ⟨fun z hz => List.mem_append_left _ (h.sub z hz), fun S hS hc z hz => ?_, ?_⟩
  · rcases List.mem_append.mp hz with hz | hz
    · exact h.low S hS hc z hz
    · rw [List.mem_singleton.mp hz]
      exact hc r hr fun y hy => h.low S hS hc y (of_decide_eq_true (hd.2 y hy))
  · rw [List.nodup_append]
    refine ⟨h.nd, List.pairwise_singleton _ _, fun x hx y hy e => ?_⟩
    rw [List.mem_singleton.mp hy] at e
    exact hd.1 (e ▸ hx)
theorem Mid.closed {rs : List Pr} {f : List Str} (h : ∀ r ∈ rs, rdy f r = false) : Closed rs f := fun r hr hy => by
  have := h r hr
  unfold rdy at this
  by_cases hm : r.2 ∈ f
  · exact hm
  · rw [decide_eq_false hm] at this
    have e : (r.1.all fun z => decide (z ∈ f)) = true := List.all_eq_true.mpr fun y h => decide_eq_true (hy y h)
    rw [e] at this
    cases this
/-- how many rights are still missing -/
def miss (rs : List Pr) (f : List Str) : Nat := (rs.filter fun r => !decide (r.2 ∈ f)).length
theorem miss_lt {rs : List Pr} {f : List Str} {r : Pr} (hr : r ∈ rs) (h : r.2 ∉ f) : miss rs (f ++ [r.2]) < miss rs f := by
  unfold miss
  induction rs with
  | nil => exact absurd hr (by simp)
  | cons q rs ih =>
    have mono : ∀ l : List Pr, (l.filter fun r' => !decide (r'.2 ∈ f ++ [r.2])).length ≤ (l.filter fun r' => !decide (r'.2 ∈ f)).length := fun l => by
      induction l with
      | nil => exact Nat.le_refl _
      | cons x l ihl =>
        rw [List.filter_cons, List.filter_cons]
        by_cases hx : x.2 ∈ f
        · rw [decide_eq_true hx, decide_eq_true (List.mem_append_left _ hx)]
          exact ihl
        · rw [decide_eq_false hx]
          by_cases hx2 : x.2 ∈ f ++ [r.2]
          · rw [decide_eq_true hx2]
            exact Nat.le_trans ihl (Nat.le_succ _)
          · rw [decide_eq_false hx2]
            exact Nat.succ_le_succ ihl
    rw [List.filter_cons, List.filter_cons]
    by_cases hq : q.2 ∈ f
    · rw [decide_eq_true hq, decide_eq_true (List.mem_append_left _ hq)]
      rcases List.mem_cons.mp hr with e | hr
      · rw [e] at h
        exact absurd hq h
      · exact ih hr
    · rw [decide_eq_false hq]
      by_cases hq2 : q.2 ∈ f ++ [r.2]
      · rw [decide_eq_true hq2]
        exact Nat.lt_succ_of_le (mono rs)
      · rw [decide_eq_false hq2]
        rcases List.mem_cons.mp hr with e | hr
        · rw [← e] at hq2
          exact absurd (List.mem_append_right _ (List.mem_singleton.mpr rfl)) hq2
        · exact Nat.succ_lt_succ (ih hr)
/-- the closure, as one function -/
def cl : Nat → List Pr → List Str → List Str
  | 0, _, f => f
  | n + 1, rs, f => match rs.find? (rdy f) with
    | none => f
    | some r => cl n rs (f ++ [r.2])
def clo (rs : List Pr) (cs : List Str) : List Str := srtS (cl rs.length rs cs)
theorem rdy_not {f : List Str} {r : Pr} (h : rdy f r = true) : r.2 ∉ f := fun z => by
  unfold rdy at h
  rw [decide_eq_true z] at h
  cases h
theorem cl_mid {rs : List Pr} {cs : List Str} : ∀ (n : Nat) {f : List Str}, Mid rs cs f → Mid rs cs (cl n rs f)
  | 0, _, h => h
  | n + 1, f, h => by
    unfold cl
    cases e : rs.find? (rdy f) with
    | none => exact h
    | some r => exact cl_mid n (h.more (List.mem_of_find?_eq_some e) (List.find?_some e))
theorem cl_closed {rs : List Pr} : ∀ (n : Nat) {f : List Str}, miss rs f ≤ n → Closed rs (cl n rs f)
  | 0, f, h => fun r hr _ => Classical.byContradiction fun z => by
    have := miss_lt (f := f) hr z
    omega
  | n + 1, f, h => by
    unfold cl
    cases e : rs.find? (rdy f) with
    | none => exact Mid.closed fun r hr => Bool.eq_false_iff.mpr (List.find?_eq_none.mp e r hr)
    | some r =>
      have := miss_lt (List.mem_of_find?_eq_some e) (rdy_not (List.find?_some e))
      exact cl_closed n (by show miss rs (f ++ [r.2]) ≤ n; omega)
theorem miss_le (rs : List Pr) (f : List Str) : miss rs f ≤ rs.length := List.length_filter_le _ _
theorem mid_perm {rs rs' : List Pr} {cs cs' f f' : List Str} (h : Mid rs cs f) (hc : Closed rs f) (h' : Mid rs' cs' f') (hc' : Closed rs' f') (he : ∀ S, Closed rs S ↔ Closed rs' S) (hm : ∀ z, z ∈ cs ↔ z ∈ cs') : f.Perm f' := by
  refine (List.perm_ext_iff_of_nodup h.nd h'.nd).mpr fun z => ⟨fun hz => ?_, fun hz => ?_⟩
  · exact h.low f' (fun y hy => h'.sub y ((hm y).mp hy)) ((he f').mpr hc') z hz
  · exact h'.low f (fun y hy => h.sub y ((hm y).mpr hy)) ((he f).mp hc) z hz
/-- whatever finds it -/
theorem clo_of {rs rs' : List Pr} {cs cs' f ys : List Str} (nd : cs'.Nodup) (h : Mid rs cs f) (hc : Closed rs f) (p : ys.Perm f) (s : sortedS ys = true) (he : ∀ S, Closed rs S ↔ Closed rs' S) (hm : ∀ z, z ∈ cs ↔ z ∈ cs') : ys = clo rs' cs' :=
  srtS_eq (p.trans (mid_perm h hc (cl_mid _ (Mid.start nd)) (cl_closed _ (miss_le _ _)) he hm)) s
theorem clo_congr {rs rs' : List Pr} {cs cs' : List Str} (nd : cs.Nodup) (nd' : cs'.Nodup) (he : ∀ S, Closed rs S ↔ Closed rs' S) (hm : ∀ z, z ∈ cs ↔ z ∈ cs') : clo rs cs = clo rs' cs' :=
  ordD_congr injS (mid_perm (cl_mid _ (Mid.start nd)) (cl_closed _ (miss_le _ _)) (cl_mid _ (Mid.start nd')) (cl_closed _ (miss_le _ _)) he hm)
theorem clo_mem {rs : List Pr} {cs : List Str} {S : List Str} (nd : cs.Nodup) (h1 : ∀ z ∈ cs, z ∈ S) (h2 : ∀ r ∈ rs, r.2 ∈ S) : ∀ z ∈ clo rs cs, z ∈ S := fun z hz =>
  (cl_mid rs.length (Mid.start nd) : Mid rs cs _).low S h1 (fun r hr _ => h2 r hr) z (ordD_mem.mp hz)
theorem clo_nodup {rs : List Pr} {cs : List Str} (nd : cs.Nodup) : (clo rs cs).Nodup := ordD_nodup (cl_mid rs.length (Mid.start nd) : Mid rs cs _).nd
theorem clo_sub {rs : List Pr} {cs : List Str} (nd : cs.Nodup) : ∀ z ∈ cs, z ∈ clo rs cs := fun z hz => ordD_mem.mpr ((cl_mid rs.length (Mid.start nd) : Mid rs cs _).sub z hz)
end Mv
/-! closed_by. -/
namespace Mv
open PySem PySem.Spec PyProof.Rows L2 Evl
section
variable {P : Program} {w : World} {K : PySem.W.Frag} {mg : Str → Option Value} {base : Heap} {a : Nat → Addr} {d : Nat → FuncData} {tk : Nat → Tok} {c ci : Nat → Addr} {di : Nat → FuncData}
def okP (r : Pr) : Prop := (∀ z ∈ r.1, PyData.strOk z = true) ∧ PyData.strOk r.2 = true ∧ r.1.length ≤ 100
end
end Mv
/-! sorted of a list or a tuple of texts. -/
namespace Mv
open PySem PySem.Spec PyProof.Rows L2
section
variable {prog : Program} {w : World} {A : Around} {E : Value → Shared → Prop} {s : Shared}
theorem sortedKU {κ : KeyKind} (hO : κ.OneLt) {l : Addr} {vs : List Value} {Q : Value → Shared → Prop} (hl : s.heap.IsTuple l vs.toArray) (h0 : KeysOf κ (pairsOf vs)) (hkk : ∀ v₁ v₂ rest, vs = v₁ :: v₂ :: rest → keyKind' (v₁ :: v₂ :: rest).toArray = pure oneType') (h64 : vs.length < 64)
    (h : ∀ st' : SortSt, (arrOf st').Perm (pairsOf vs) → SortedToK κ (arrOf st') (pairsOf vs).size → Q (.ref (s.heap.objs.size + 1)) { s with heap := sortedAll s.heap vs ((arrOf st').map (·.2)) }) :
    wpAny (model prog w) A (call (.builtin "sorted") [.ref l]) Q E s := by
  refine Calls.call_function_entry kind_sorted plain_sorted entry_sorted (args_sorted1 _) ?_
  unfold Builtin.«sorted»
  refine wpAny_bind (m := checkCount "sorted" 1 1 _) (wpAny_pure ?_)
  refine wpAny_bind (collect_tup hl ?_ (by rw [sizeLine_eq]; omega))
  refine wpAny_bind (wpAny_newList ?_ (by rw [sizeLine_eq]; omega))
  have hsz : ((s.heap.push (seqObj "list" #[] 0)).update s.heap.objs.size (Obj.mapSeq (· ++ vs.toArray))).objs.size = s.heap.objs.size + 1 := by
    rw [Heap.size_update, size_push']
  have hoL : (((s.heap.push (seqObj "list" #[] 0)).update s.heap.objs.size (Obj.mapSeq (· ++ vs.toArray))).push (seqObj "list" vs.toArray 0)).get? (s.heap.objs.size + 1) = some (seqObj "list" vs.toArray 0) := by
    rw [← hsz]; exact Heap.get?_push_size _ rfl
  show wpAny _ _ _ _ _ { s with heap := ((s.heap.push (seqObj "list" #[] 0)).update s.heap.objs.size (Obj.mapSeq (· ++ vs.toArray))).push (seqObj "list" vs.toArray 0) }
  rw [hsz]
  refine wpAny_bind (wpAny_holding (wpAny_call_entry slot_list_sort ⟨_, hoL, rfl⟩ entry_list_sort (list_sort_treeK hO hoL h0 hkk h64 fun st' a1 a2 => ⟨_, rfl, ?_⟩) (args_list_sort _)))
  exact wpAny_pure ⟨_, rfl, h st' a1 a2⟩
theorem sorted_strsU {l : Addr} {vs : List Value} {ss : List Str} {Q : Value → Shared → Prop} (hl : s.heap.IsTuple l vs.toArray) (hS : StrsAre vs ss) (h64 : vs.length < 64)
    (h : ∀ (out : Array Value) (ss' : List Str), StrsAre out.toList ss' → ss'.Perm ss → sortedS ss' = true → Q (.ref (s.heap.objs.size + 1)) { s with heap := sortedAll s.heap vs out }) :
    wpAny (model prog w) A (call (.builtin "sorted") [.ref l]) Q E s := by
  refine sortedKU strKind_oneLt hl hS.keysOf (fun v₁ v₂ rest e => keyKind_strs (by rw [← e]; exact hS)) h64 fun st' hp hs => ?_
  obtain ⟨ss', h1, h2, h3⟩ := sorted_out_str hS hp hs
  exact h _ ss' h1 h2 h3
end
section
variable {X : Cx}
def rSortedSS (K : PySem.W.Frag) : List V → Hp → VK → Prop := fun vs H Q => ∃ (a : Addr) (xs : List Str), vs = [V.ref a] ∧ (SqL K H a (xs.map V.str) ∨ SqT K H a (xs.map V.str)) ∧ xs.length < 64 ∧
  ∀ (ys : List Str) (p : Addr), ys.Perm xs → sortedS ys = true → H p = none → Q (.ref p) (upd H p (.lst (ys.map V.str)))
theorem cr_sortedSS : CallR X (.builtin "sorted") (rSortedSS X.K) := by
  intro pins s σ H vs us Q I r h
  obtain ⟨a, xs, e, hs, h64, q⟩ := h
  rcases hs with hs | hs
  · exact cr_sortedS pins s σ H vs us Q I r ⟨a, xs, e, hs, h64, q⟩
  subst e
  obtain ⟨its, rv, hl, _⟩ := I.tuple hs
  rw [Vals.ref1 r]
  have hlen0 := rv.length
  rw [List.length_map] at hlen0
  refine sorted_strsU (show s.heap.IsTuple a its.toArray from hl) rv.strs (by rw [← hlen0]; exact h64) fun out ys h1 h2 h3 => ?_
  obtain ⟨ep, he'⟩ := PyProof.Rows.sortedAll_at s.heap its out
  have hlen : (ys.map V.str).length ≤ sizeLine := by rw [List.length_map, h2.length_eq]; exact small64 h64
  exact ⟨.ref _, upd H (s.heap.objs.size + 1) (.lst (ys.map V.str)), I.laid (t' := s.toks) (fun _ _ => PyProof.Rows.sortedAll_old) (Nat.le_succ _) ⟨hlen, out.toList, ep, vals_of_strs h1, he'⟩, rfl, q ys _ h2 h3 (I.hok.fresh (Nat.le_succ _))⟩
end
end Mv
/-! A pair, all ways. -/
namespace Mv
open PySem PySem.Spec PyProof.Rows L2 Evl
section
variable {P : Program} {w : World} {K : PySem.W.Frag} {mg : Str → Option Value} {base : Heap} {a : Nat → Addr} {d : Nat → FuncData} {tk : Nat → Tok} {c ci : Nat → Addr} {di : Nat → FuncData}
def RetP (r : Pr) (H : Hp) (Q : VK) : Prop := ∀ t v H2, H t = none → H v = none → Ex H H2 → H2 t = some (.tup [.ref v, .str r.2]) → H2 v = some (.lst (r.1.map V.str)) → Q (.ref t) H2
inductive PairO (K : PySem.W.Frag) (c : Nat → Addr) (zs : List Str) (x : V) (H : Hp) (Q : VK) (E : XK) : Prop
  | oth {v1 v2 v3 v4 : Bool} (h : Is5 K H x v1 v2 v3 v4 false) (r : Rs c 6 x H E)
  | len (q : Addr) (us : List V) (e : x = .ref q) (h : H q = some (.tup us)) (l : us.length ≠ 2) (r : Rs c 6 x H E)
  | lft (q : Addr) (y z : V) (o : Option (Addr × List V)) (e : x = .ref q) (h : H q = some (.tup [y, z])) (hy : ListR K H y o) (l : ∀ p xs, o = some (p, xs) → 5 < xs.length) (r : Rs c 6 x H E)
  | two (q l : Addr) (xs : List V) (bs : List Bool) (r : V) (e : x = .ref q) (h : H q = some (.tup [.ref l, r])) (hs : Seq H l xs) (h5 : xs.length ≤ 5) (hp : Paired (NameR K H) xs bs)
    (hO : match walkS zs (xs.zip bs) [] with
      | some (i, y) => Rs c i y H E
      | none => ∃ b, NameR K H r b ∧ match ncR zs (xs.map strOf) r b with
        | some (i, y) => Rs c i y H E
        | none => RetP (srtS (xs.map strOf), strOf r) H Q)
def sp_checked_pair (K : PySem.W.Frag) (c : Nat → Addr) : Sp := fun vs H Q E => ∃ (p : Addr) (zs : List Str) (x : V), vs = [.ref p, x] ∧ H p = some (.lst (zs.map V.str)) ∧ (∀ z ∈ zs, nameB z = true) ∧ PairO K c zs x H Q E
theorem ok_checked_pair (T : All K mg a d tk c ci di) : FnOk P w K mg base (L2.CX P w) 5 (a 7) (d 7) ["known", "value"] (sp_checked_pair K c) := by
  refine T.F_checked_pair.fn.okX sc_checked_pair (fun vs H Q E h => ?_) (fun cdv A outer s H vs Q E hr h => ?_)
  · obtain ⟨p, zs, x, rfl, _⟩ := h
    rfl
  · obtain ⟨p, zs, x, rfl, hk, hz, hx⟩ := h
    have nd := sc_checked_pair.nd
    refine ⟨_, (pss_cons (ps_if (PW.pt (pw_or (pt_not (pt_val (pe_callB call_isi (by rfl) T.n_isinstance PyProof.Rows.boot_isinstance (pa_cons (pv 1) (pa_cons (pe_bltn (v := .ty "tuple") rfl T.n_tuple PyProof.Rows.boot_tuple rfl) pa_nil))))) (pw_or (pt_cmpR op_ne (pe_callB call_len_seq (by rfl) T.n_len PySem.boot_len (pa_cons (pv 1) pa_nil)) pe_int (nomark _)) (pw_or (pt_not (pt_val (pe_call (ok_is_list T) (hr.mono (by decide)) rfl T.F_is_list.m T.F_is_list.kp T.F_is_list.b .nil pass0 (pa_cons (pe_ix ix_tup (pv 1) pe_int (fun _ _ => rfl)) pa_nil)))) (pw_or1 (pt_cmpR op_gt (pe_callB call_len_seq (by rfl) T.n_len PySem.boot_len (pa_cons (pe_ix ix_tup (pv 1) pe_int (fun _ _ => rfl)) pa_nil)) (pe_glob (v := .int 5) rfl T.c_MOST_COLUMNS ⟨_, rfl⟩) (nomark _)))))))
 (pss_one (ps_raise rfl (takes_of rfl rfl rfl rfl) (pmk_rz (exT_InvalidPair T) (hr.mono (by decide)) rfl (by decide) (pa_cons (pv 1) pa_nil))))
 pss_nil)
 (pss_cons (ps_asg (pv 1) (pg_tup rfl (pgs_cons (pg_name (i := 2) nd rfl (Or.inl rfl)) (pgs_cons (pg_name (i := 3) nd rfl (Or.inl rfl)) pgs_nil))) (hw := by rfl))
 (pss_cons (ps_for (passes_of rfl) rfl (pi_enumS rfl T.n_enumerate (pa_cons (pv 2) pa_nil)) (pg_tup rfl (pgs_cons (pg_name (i := 4) nd rfl (Or.inl rfl)) (pgs_cons (pg_name (i := 5) nd rfl (Or.inl rfl)) pgs_nil)))
 (pss_one (ps_expr (pe_call (ok_need_column T) (hr.mono (by decide)) rfl T.F_need_column.m T.F_need_column.kp T.F_need_column.b .nil (passes_call (takes_of rfl rfl rfl rfl) (fun _ _ _ _ h => h)) (pa_cons (pv 0) (pa_cons (pv 5) (pa_cons (pe_slice (sl_list.or sl_tup) (pv 2) po_none (po_some (pv 4))) pa_nil)))))))
 (pss_cons (ps_expr (pe_call (ok_need_column T) (hr.mono (by decide)) rfl T.F_need_column.m T.F_need_column.kp T.F_need_column.b .nil (passes_call (takes_of rfl rfl rfl rfl) (fun _ _ _ _ h => h)) (pa_cons (pv 0) (pa_cons (pv 3) (pa_cons (pv 2) pa_nil)))))
 (pss_one (ps_ret (pe_tup (pa_cons (pe_callB cr_sortedSS (by rfl) T.n_sorted PyProof.Rows.boot_sorted (pa_cons (pv 2) pa_nil)) (pa_cons (pv 3) pa_nil))))))))), ?_⟩
    have bad : ∀ {H1 : Hp}, Ex H H1 → Rs c 6 x H E → tRz (c 6) ["value"] (tCons (tVar 1) tNil) (start N_checked_pair [V.ref p, x]) H1 E := fun {H1} e1 hR => (ea_cons (ev_var rfl) ea_nil) H1 (Ex.refl _) _ fun H2 e2 => ⟨rfl, fun dx hd => (hR.ex (e1.trans e2)) dx _ hd (Ex.new hd) upd_same⟩
    cases hx with
    | oth hI hR => exact q_when (b := true) (et_or (a := true) (b := true) (et_not (et_B (hI.t (ev_var (i := 1) rfl)))) fun h => nomatch h) (fun _ H1 e1 => bad e1 hR) fun h => nomatch h
    | len q us e hq hl hR =>
      subst e
      exact q_when (b := true) (et_or (a := false) (et_is (et_not (et_B ((is_tup (K := K) hq).t (ev_var (i := 1) rfl)))) rfl) fun _ => et_or (a := true) (b := true) (et_is (et_test (ev_op (ev_lenS (ev_var rfl) (.inr hq)) ev_c (rv_ne rfl))) (by rw [decide_eq_false (fun h => hl (by injection h with h; omega))] <;> rfl)) fun h => nomatch h) (fun _ H1 e1 => bad e1 hR) fun h => nomatch h
    | lft q y z o e hq hy hl hR =>
      subst e
      have g0 : ∀ {H1 : Hp} {σ1 : L2.St}, σ1[1]? = some (some (.ref q)) → Ex H H1 → Ev (tOp (rIxT K) (tVar 1) (tC (.int 0))) σ1 H1 y := fun hσ e1 => ev_op (ev_var hσ) ev_c (rv_ixT (st_of (e1 _ _ hq)) rfl)
      cases hy with
      | @oth _ v1 v2 v3 hI =>
        exact q_when (b := true) (et_or (a := false) (et_is (et_not (et_B ((is_tup (K := K) hq).t (ev_var (i := 1) rfl)))) rfl) fun _ => et_or (a := false) (et_is (et_test (ev_op (ev_lenS (ev_var rfl) (.inr hq)) ev_c (rv_ne rfl))) rfl) fun _ => et_or (a := true) (b := true) (et_not (et_B (ev_isList (g0 rfl (Ex.refl H)) (.oth hI)))) fun h => nomatch h) (fun _ H1 e1 => bad e1 hR) fun h => nomatch h
      | @seq l xs hs =>
        have h6 := hl _ _ rfl
        exact q_when (b := true) (et_or (a := false) (et_is (et_not (et_B ((is_tup (K := K) hq).t (ev_var (i := 1) rfl)))) rfl) fun _ => et_or (a := false) (et_is (et_test (ev_op (ev_lenS (ev_var rfl) (.inr hq)) ev_c (rv_ne rfl))) rfl) fun _ => et_or (a := false) (et_not (et_B (ev_isList (g0 rfl (Ex.refl H)) (.seq hs)))) fun _ => et_is (et_I0 (g := fun i j => decide (j < i)) (j := 5) (ev_lenS (g0 rfl (Ex.refl H)) hs) ev_c) (decide_eq_true (by omega))) (fun _ H1 e1 => bad e1 hR) fun h => nomatch h
    | two q l xs bs r e hq hs h5 hp hO =>
      subst e
      have g0 : ∀ {H1 : Hp} {σ1 : L2.St}, σ1[1]? = some (some (.ref q)) → Ex H H1 → Ev (tOp (rIxT K) (tVar 1) (tC (.int 0))) σ1 H1 (.ref l) := fun hσ e1 => ev_op (ev_var hσ) ev_c (rv_ixT (st_of (e1 _ _ hq)) rfl)
      refine q_when (b := false) (et_or (a := false) (et_is (et_not (et_B ((is_tup (K := K) hq).t (ev_var (i := 1) rfl)))) rfl) fun _ => et_or (a := false) (et_is (et_test (ev_op (ev_lenS (ev_var rfl) (.inr hq)) ev_c (rv_ne rfl))) rfl) fun _ => et_or (a := false) (et_not (et_B (ev_isList (g0 rfl (Ex.refl H)) (.seq hs)))) fun _ => et_is (et_I0 (g := fun i j => decide (j < i)) (j := 5) (ev_lenS (g0 rfl (Ex.refl H)) hs) ev_c) (decide_eq_false (by omega))) (fun h => nomatch h) fun _ H1 e1 => ?_
      have hlen := Paired.length hp
      let Pv : Nat → L2.St → Hp → Prop := fun i σ' H' => Ex H H' ∧ walkS zs (xs.zip bs) [] = walkS zs ((xs.zip bs).drop i) ((xs.take i).map strOf) ∧ (∃ ws : List Str, xs.take i = ws.map V.str) ∧ ∃ v4 v5, σ' = [some (.ref p), some (.ref q), some (.ref l), some r, v4, v5]
      have h0 : Pv 0 [some (.ref p), some (.ref q), some (.ref l), some r, none, none] H1 := ⟨e1, by rw [List.drop_zero, List.take_zero] <;> rfl, ⟨[], rfl⟩, _, _, rfl⟩
      rcases hs with hs | hs
      · skip
        refine ⟨_, rfl, q, _, rfl, st_of (e1 _ _ hq), rfl, ?_⟩
        refine ⟨_, _, rfl, _, _, rfl, rfl, .inl ⟨_, rfl, l, xs, rfl, sq_of (e1 _ _ hs), for_it (walk_enum (K := K) (a := l) (xs := xs)) Pv h0 (fun i σ' H' _ z => sq_of (z.1 _ _ hs)) ?_ ?_⟩⟩
        · skip
          rintro i y σ' H' H'' hi ⟨e', hw, ⟨ws, hz1⟩, v2, v3, rfl⟩ ⟨U, xi, xx, rfl, hU, rfl, e1x, e2x⟩
          obtain rfl : xi = V.int (i : Int) := (Option.some.inj e1x).symm
          obtain ⟨b, hb, hnr⟩ := Paired.at_l hp i xx e2x
          have hzi : (xs.zip bs)[i]? = some (xx, b) := List.getElem?_zip_eq_some.mpr ⟨e2x, hb⟩
          obtain ⟨hil, hig⟩ := List.getElem?_eq_some_iff.mp hzi
          have hws : (xs.take i).map strOf = ws := by
            rw [hz1, List.map_map]
            exact List.map_id' ws
          rw [List.drop_eq_getElem_cons hil, hig, hws, walkS] at hw
          have e2 : Ex H (upd H' U (.tup [.int (i : Int), xx])) := e'.trans (Ex.new hU)
          refine ⟨U, _, rfl, st_of upd_same, rfl, _, _, rfl, _, _, rfl, rfl, ?_⟩
          refine ⟨_, rfl, _, rfl, _, rfl, _, rfl, (i : Int), rfl, .inl ⟨l, xs, rfl, sq_of (e2 _ _ hs), fun l2 hl => ?_⟩⟩
          rw [cutV_to xs i (Nat.le_of_lt hi)]
          have e3 : Ex H (upd (upd H' U (.tup [.int (i : Int), xx])) l2 (.lst (xs.take i))) := e2.trans (Ex.new hl)
          refine ⟨p, l2, zs, ws, xx, b, rfl, e3 _ _ hk, .inl (by rw [← hz1]; exact upd_same), hz, hnr.ex e3, ?_⟩
          cases hn : ncR zs ws xx b with
          | some r =>
            obtain ⟨j, y⟩ := r
            rw [hn] at hw
            rw [hw] at hO
            exact hO.ex e3
          | none =>
            rw [hn] at hw
            obtain ⟨z, rfl⟩ := ncR_none hn (hnr.ex e3)
            have ht : xs.take (i + 1) = (ws ++ [z]).map V.str := by
              rw [List.take_succ, show xs[i]? = some (V.str z) from e2x, hz1, List.map_append] <;> rfl
            have ht2 : (xs.take (i + 1)).map strOf = ws ++ [strOf (.str z)] := by
              rw [ht, List.map_map]
              exact List.map_id' (ws ++ [z])
            exact fun H2 e4 => ⟨e3.trans e4, by rw [ht2]; exact hw, ⟨ws ++ [z], ht⟩, _, _, rfl⟩
        · skip
          rintro σ' H' ⟨e', hw, ⟨ws, hz1⟩, v2, v3, rfl⟩
          have hd0 : (xs.zip bs).drop xs.length = [] := List.drop_eq_nil_of_le (by rw [List.length_zip]; omega)
          rw [hd0, walkS] at hw
          rw [hw] at hO
          obtain ⟨b, hnr, hO⟩ := hO
          rw [List.take_length] at hz1
          subst hz1
          have hms : (ws.map V.str).map strOf = ws := by
            rw [List.map_map]
            exact List.map_id' ws
          rw [hms] at hO
          rw [List.length_map] at h5
          refine ⟨_, rfl, _, rfl, _, rfl, p, l, zs, ws, r, b, rfl, e' _ _ hk, Or.inl (e' _ _ hs), hz, hnr.ex e', ?_⟩
          cases hn : ncR zs ws r b with
          | some q =>
            obtain ⟨j, y⟩ := q
            rw [hn] at hO
            exact hO.ex e'
          | none =>
            rw [hn] at hO
            obtain ⟨z, rfl⟩ := ncR_none hn (hnr.ex e')
            refine fun H2 e4 => ?_
            have e24 := e'.trans e4
            refine ⟨_, rfl, l, ws, rfl, .inl (sq_of (e24 _ _ hs)), by omega, fun ys v py sy hv => ⟨_, rfl, sz_of (show 2 ≤ 100000 by decide), fun u hu => ?_⟩⟩
            have eV : Ex H2 (upd H2 v (.lst (ys.map V.str))) := Ex.new hv
            have eU : Ex (upd H2 v (.lst (ys.map V.str))) (upd (upd H2 v (.lst (ys.map V.str))) u (.tup [.ref v, .str z])) := Ex.new hu
            rw [srtS_eq py sy] at eV eU hu ⊢
            exact hO u v _ (fresh_back (e24.trans eV) hu) (fresh_back e24 hv) (e24.trans (eV.trans eU)) upd_same (eU _ _ upd_same)
      · skip
        refine ⟨_, rfl, q, _, rfl, st_of (e1 _ _ hq), rfl, ?_⟩
        refine ⟨_, _, rfl, _, _, rfl, rfl, .inr ⟨_, rfl, l, xs, rfl, st_of (e1 _ _ hs), for_it (walk_enumU (K := K) (a := l) (xs := xs)) Pv h0 (fun i σ' H' _ z => st_of (z.1 _ _ hs)) ?_ ?_⟩⟩
        · skip
          rintro i y σ' H' H'' hi ⟨e', hw, ⟨ws, hz1⟩, v2, v3, rfl⟩ ⟨U, xi, xx, rfl, hU, rfl, e1x, e2x⟩
          obtain rfl : xi = V.int (i : Int) := (Option.some.inj e1x).symm
          obtain ⟨b, hb, hnr⟩ := Paired.at_l hp i xx e2x
          have hzi : (xs.zip bs)[i]? = some (xx, b) := List.getElem?_zip_eq_some.mpr ⟨e2x, hb⟩
          obtain ⟨hil, hig⟩ := List.getElem?_eq_some_iff.mp hzi
          have hws : (xs.take i).map strOf = ws := by
            rw [hz1, List.map_map]
            exact List.map_id' ws
          rw [List.drop_eq_getElem_cons hil, hig, hws, walkS] at hw
          have e2 : Ex H (upd H' U (.tup [.int (i : Int), xx])) := e'.trans (Ex.new hU)
          refine ⟨U, _, rfl, st_of upd_same, rfl, _, _, rfl, _, _, rfl, rfl, ?_⟩
          refine ⟨_, rfl, _, rfl, _, rfl, _, rfl, (i : Int), rfl, .inr ⟨l, xs, rfl, st_of (e2 _ _ hs), fun hw2 => ?_, fun l2 hl => ?_⟩⟩
          · obtain ⟨_, h2⟩ := hw2
            rw [HT.sIx_nat, Nat.min_eq_left (Nat.le_of_lt hi)] at h2
            omega
          rw [cutV_to xs i (Nat.le_of_lt hi)]
          have e3 : Ex H (upd (upd H' U (.tup [.int (i : Int), xx])) l2 (.tup (xs.take i))) := e2.trans (Ex.new hl)
          refine ⟨p, l2, zs, ws, xx, b, rfl, e3 _ _ hk, .inr (by rw [← hz1]; exact upd_same), hz, hnr.ex e3, ?_⟩
          cases hn : ncR zs ws xx b with
          | some r =>
            obtain ⟨j, y⟩ := r
            rw [hn] at hw
            rw [hw] at hO
            exact hO.ex e3
          | none =>
            rw [hn] at hw
            obtain ⟨z, rfl⟩ := ncR_none hn (hnr.ex e3)
            have ht : xs.take (i + 1) = (ws ++ [z]).map V.str := by
              rw [List.take_succ, show xs[i]? = some (V.str z) from e2x, hz1, List.map_append] <;> rfl
            have ht2 : (xs.take (i + 1)).map strOf = ws ++ [strOf (.str z)] := by
              rw [ht, List.map_map]
              exact List.map_id' (ws ++ [z])
            exact fun H2 e4 => ⟨e3.trans e4, by rw [ht2]; exact hw, ⟨ws ++ [z], ht⟩, _, _, rfl⟩
        · skip
          rintro σ' H' ⟨e', hw, ⟨ws, hz1⟩, v2, v3, rfl⟩
          have hd0 : (xs.zip bs).drop xs.length = [] := List.drop_eq_nil_of_le (by rw [List.length_zip]; omega)
          rw [hd0, walkS] at hw
          rw [hw] at hO
          obtain ⟨b, hnr, hO⟩ := hO
          rw [List.take_length] at hz1
          subst hz1
          have hms : (ws.map V.str).map strOf = ws := by
            rw [List.map_map]
            exact List.map_id' ws
          rw [hms] at hO
          rw [List.length_map] at h5
          refine ⟨_, rfl, _, rfl, _, rfl, p, l, zs, ws, r, b, rfl, e' _ _ hk, Or.inr (e' _ _ hs), hz, hnr.ex e', ?_⟩
          cases hn : ncR zs ws r b with
          | some q =>
            obtain ⟨j, y⟩ := q
            rw [hn] at hO
            exact hO.ex e'
          | none =>
            rw [hn] at hO
            obtain ⟨z, rfl⟩ := ncR_none hn (hnr.ex e')
            refine fun H2 e4 => ?_
            have e24 := e'.trans e4
            refine ⟨_, rfl, l, ws, rfl, .inr (st_of (e24 _ _ hs)), by omega, fun ys v py sy hv => ⟨_, rfl, sz_of (show 2 ≤ 100000 by decide), fun u hu => ?_⟩⟩
            have eV : Ex H2 (upd H2 v (.lst (ys.map V.str))) := Ex.new hv
            have eU : Ex (upd H2 v (.lst (ys.map V.str))) (upd (upd H2 v (.lst (ys.map V.str))) u (.tup [.ref v, .str z])) := Ex.new hu
            rw [srtS_eq py sy] at eV eU hu ⊢
            exact hO u v _ (fresh_back (e24.trans eV) hu) (fresh_back e24 hv) (e24.trans (eV.trans eU)) upd_same (eU _ _ upd_same)
end
end Mv
/-! Pairs and lists of texts as data. -/
namespace Mv
open PySem PySem.Spec PyProof.Rows L2 Evl
theorem eqvS (a b : Str) : PyData.eqv (.str a) (.str b) = decide (a = b) := by
  rw [PyData.eqv, Bool.eq_iff_iff, decide_eq_true_eq]
  exact beq_iff_eq
theorem eqvSs : ∀ xs ys : List Str, PyData.eqvAll (xs.map PyData.str) (ys.map PyData.str) = decide (xs = ys)
  | [], [] => by simp [PyData.eqvAll]
  | [], y :: ys => by simp [PyData.eqvAll]
  | x :: xs, [] => by simp [PyData.eqvAll]
  | x :: xs, y :: ys => by
    rw [List.map_cons, List.map_cons, PyData.eqvAll, eqvS, eqvSs xs ys, Bool.eq_iff_iff]
    simp
theorem eqvL (a b : List Str) : PyData.eqv (encL a) (encL b) = decide (a = b) := by
  unfold encL
  rw [PyData.eqv, eqvSs]
theorem eqvP (a b : Pr) : PyData.eqv (encP a) (encP b) = decide (a = b) := by
  obtain ⟨a1, a2⟩ := a
  obtain ⟨b1, b2⟩ := b
  unfold encP
  simp only [PyData.eqv, PyData.eqvAll, eqvSs]
  rw [Bool.eq_iff_iff]
  simp
theorem any_enc {β : Type} {enc : β → PyData} (h : ∀ a b, PyData.eqv (enc a) (enc b) = true ↔ a = b) (zs : List β) (z : β) {b : Bool} (hb : b = true ↔ z ∈ zs) : ((zs.map enc).any fun y => PyData.eqv y (enc z)) = b := by
  rw [List.any_map, Bool.eq_iff_iff, List.any_eq_true, hb]
  constructor
  · rintro ⟨q, hq, e⟩
    have e' : PyData.eqv (enc q) (enc z) = true := e
    rw [← (h _ _).mp e']
    exact hq
  · intro hz
    exact ⟨z, hz, (h z z).mpr rfl⟩
theorem eqvAll_enc {β : Type} {enc : β → PyData} (h : ∀ a b, PyData.eqv (enc a) (enc b) = true ↔ a = b) : ∀ xs ys : List β, PyData.eqvAll (xs.map enc) (ys.map enc) = true ↔ xs = ys
  | [], [] => by simp [PyData.eqvAll]
  | [], y :: ys => by simp [PyData.eqvAll]
  | x :: xs, [] => by simp [PyData.eqvAll]
  | x :: xs, y :: ys => by
    rw [List.map_cons, List.map_cons, PyData.eqvAll, Bool.and_eq_true, h, eqvAll_enc h xs ys, List.cons.injEq]
theorem eqvPi (a b : Pr) : PyData.eqv (encP a) (encP b) = true ↔ a = b := by rw [eqvP, decide_eq_true_eq]
theorem eqvLi (a b : List Str) : PyData.eqv (encL a) (encL b) = true ↔ a = b := by rw [eqvL, decide_eq_true_eq]
theorem shapedL {zs : List Str} (h : ∀ z ∈ zs, PyData.strOk z = true) : SeqAt.shaped (encL zs) = true := shaped_strs h
theorem layL {zs : List Str} (h : ∀ z ∈ zs, PyData.strOk z = true) : (encL zs).canLay0 = true := by
  unfold encL
  rw [PyData.canLay0, lay_strs zs h]
theorem layP {r : Pr} (h : okP r) : (encP r).canLay0 = true := by
  unfold encP
  have e := layL h.1
  unfold encL at e
  simp only [PyData.canLay0, PyData.canLayAll0] at e ⊢
  rw [e, h.2.1] <;> rfl
theorem shaped_mk {d : PyData} (h : d.canLay0 = true) (l : d.depth ≤ 60) : SeqAt.shaped d = true := by
  unfold SeqAt.shaped
  rw [h, decide_eq_true (show d.depth ≤ 64 by omega)] <;> rfl
theorem lay_all {β : Type} {enc : β → PyData} : ∀ {xs : List β}, (∀ x ∈ xs, (enc x).canLay0 = true) → PyData.canLayAll0 (xs.map enc) = true
  | [], _ => by simp [PyData.canLayAll0]
  | x :: xs, h => by
    rw [List.map_cons, PyData.canLayAll0, h x List.mem_cons_self, lay_all fun y hy => h y (List.mem_cons_of_mem _ hy)] <;> rfl
theorem deep_all {β : Type} {enc : β → PyData} {n : Nat} : ∀ {xs : List β}, (∀ x ∈ xs, (enc x).depth ≤ n) → PyData.depthAll (xs.map enc) ≤ n
  | [], _ => by simp [PyData.depthAll]
  | x :: xs, h => by
    rw [List.map_cons, PyData.depthAll]
    have a := h x List.mem_cons_self
    have b := deep_all (enc := enc) (n := n) (xs := xs) fun y hy => h y (List.mem_cons_of_mem _ hy)
    omega
theorem shaped_all {β : Type} {enc : β → PyData} {xs : List β} (h : ∀ x ∈ xs, (enc x).canLay0 = true) (l : ∀ x ∈ xs, (enc x).depth ≤ 60) : SeqAt.shaped (.list (xs.map enc)) = true := by
  unfold SeqAt.shaped
  have e := deep_all l
  have e2 : (PyData.list (xs.map enc)).depth ≤ 64 := by
    rw [PyData.depth]
    omega
  rw [PyData.canLay0, lay_all h, decide_eq_true e2] <;> rfl
/-! as they lie -/
/-- a list of texts -/
def IsSL (H : Hp) (u : V) (zs : List Str) : Prop := ∃ l : Addr, u = .ref l ∧ H l = some (.lst (zs.map V.str))
theorem IsSL.ex {H H' : Hp} {u : V} {zs : List Str} (h : IsSL H u zs) (e : Ex H H') : IsSL H' u zs := let ⟨l, h1, h2⟩ := h; ⟨l, h1, e _ _ h2⟩
/-- a pair as it lies, its parts of S -/
def PairS (S : Addr → Prop) (H : Hp) (u : V) (r : Pr) : Prop := ∃ t v : Addr, u = .ref t ∧ S t ∧ S v ∧ H t = some (.tup [.ref v, .str r.2]) ∧ H v = some (.lst (r.1.map V.str))
theorem PairS.at' {S : Addr → Prop} {H : Hp} {u : V} {r : Pr} (h : PairS S H u r) : PairAt H u r := let ⟨t, v, h1, _, _, h2, h3⟩ := h; ⟨t, v, h1, h2, h3⟩
theorem PairS.mv {S S' : Addr → Prop} {H H' : Hp} {u : V} {r : Pr} (h : PairS S H u r) (e : ∀ a o, S a → H a = some o → S' a ∧ H' a = some o) : PairS S' H' u r :=
  let ⟨t, v, h1, h2, h3, h4, h5⟩ := h; ⟨t, v, h1, (e _ _ h2 h4).1, (e _ _ h3 h5).1, (e _ _ h2 h4).2, (e _ _ h3 h5).2⟩
theorem PairS.ex {S : Addr → Prop} {H H' : Hp} {u : V} {r : Pr} (h : PairS S H u r) (e : Ex H H') : PairS S H' u r := h.mv fun a o s ha => ⟨s, e a o ha⟩
section
variable {K : PySem.W.Frag} {H : Hp}
theorem IsSL.dp {u : V} {zs : List Str} (h : IsSL H u zs) : Dp K H u (encL zs) := by
  obtain ⟨l, rfl, h⟩ := h
  exact .lst (sq_of h) (dp_strs zs)
theorem PairAt.dp {u : V} {r : Pr} (h : PairAt H u r) : Dp K H u (encP r) := by
  obtain ⟨t, v, rfl, h1, h2⟩ := h
  exact .tup (st_of h1) (.cons (.lst (sq_of h2) (dp_strs _)) (.cons (.str _) .nil))
theorem dps {β : Type} {F : V → β → Prop} {enc : β → PyData} (f : ∀ u r, F u r → Dp K H u (enc r)) : ∀ {us : List V} {rs : List β}, Paired F us rs → DpAll K H us (rs.map enc)
  | _, _, .nil => .nil
  | _, _, .cons h t => .cons (f _ _ h) (dps f t)
/-- x in a list of alike things -/
theorem rv_ninE {β : Type} {b : Bool} {enc : β → PyData} {x : V} {r : β} {f : Addr} {us : List V} {rs : List β} (hd : ∀ H1, Ex H H1 → Dp K H1 x (enc r)) (hf : H f = some (.lst us)) (hp : ∀ H1, Ex H H1 → DpAll K H1 us (rs.map enc)) (he : ∀ a b, PyData.eqv (enc a) (enc b) = true ↔ a = b) (s1 : SeqAt.shaped (enc r) = true) (s2 : SeqAt.shaped (.list (rs.map enc)) = true) (hb : b = true ↔ r ∈ rs) :
    RV (rNotInD K) x (.ref f) H (.bl (!b)) := fun H1 e Q q => by
  refine ⟨enc r, rs.map enc, hd H1 e, .lst (sq_of (e _ _ hf)) (hp H1 e), s1, s2, ?_⟩
  rw [any_enc he rs r hb]
  exact q H1 (Ex.refl H1)
theorem shapedPs {rs : List Pr} (h : ∀ r ∈ rs, okP r) : SeqAt.shaped (.list (rs.map encP)) = true := shaped_all (fun r hr => layP (h r hr)) fun r _ => depthP r
theorem shapedP1 {r : Pr} (h : okP r) : SeqAt.shaped (encP r) = true := shaped_mk (layP h) (depthP r)
end
section
variable {K : PySem.W.Frag} {σ : L2.St} {H H' : Hp} {ta tb te tl : TE} {x y z v : V} {D : Ends} {tu tz : TS}
/-- for x in xs, a list or a tuple that stays -/
theorem s_forS {a : Addr} {xs : List V} {j : Nat} (h : Ev tl σ H (.ref a)) (hx : Seq H a xs) (Pv : Nat → L2.St → Hp → Prop) (h0 : ∀ H1, Ex H H1 → Pv 0 σ H1) (hl : ∀ i σ' H', i ≤ xs.length → Pv i σ' H' → H' a = H a)
    (hs : ∀ i x σ' H', xs[i]? = some x → Pv i σ' H' → tu { D with nx := Pv (i + 1), ct := Pv (i + 1), bk := D.nx } (σ'.set j (some x)) H') (hd : ∀ σ' H', Pv xs.length σ' H' → D.nx σ' H') : tFor (iSeq K tl) (gName j) tu D σ H := by
  rcases hx with hx | hx
  · exact .inl (h H (Ex.refl H) _ fun H1 e => ⟨a, rfl, ⟨xs, ex_l e (sq_of hx)⟩, for_list Pv (h0 H1 e) (fun i σ' H' hi p => sq_of ((hl i σ' H' hi p).trans hx)) hs hd⟩)
  · exact .inr (h H (Ex.refl H) _ fun H1 e => ⟨a, rfl, ⟨xs, ex_t e (st_of hx)⟩, for_tup Pv (h0 H1 e) (fun i σ' H' hi p => st_of ((hl i σ' H' hi p).trans hx)) hs hd⟩)
theorem q_forS {a : Addr} {xs : List V} {j : Nat} (h : Ev tl σ H (.ref a)) (hx : Seq H a xs) (Pv : Nat → L2.St → Hp → Prop) (h0 : ∀ H1, Ex H H1 → Pv 0 σ H1) (hl : ∀ i σ' H', i ≤ xs.length → Pv i σ' H' → H' a = H a)
    (hs : ∀ i x σ' H', xs[i]? = some x → Pv i σ' H' → tu { D with nx := Pv (i + 1), ct := Pv (i + 1), bk := tz D } (σ'.set j (some x)) H') (hd : ∀ σ' H', Pv xs.length σ' H' → tz D σ' H') : tSeq (tFor (iSeq K tl) (gName j) tu) tz D σ H :=
  s_forS (D := { D with nx := tz D }) h hx Pv h0 hl hs hd
theorem Seq.keep {a : Addr} {xs : List V} (h : Seq H a xs) (e : H' a = H a) : Seq H' a xs := h.elim (fun z => .inl (e.trans z)) fun z => .inr (e.trans z)
theorem Seq.same {a : Addr} {xs : List V} (h : Seq H a xs) (e : Ex H H') : H' a = H a := h.elim (fun z => by rw [e _ _ z, z]) fun z => by rw [e _ _ z, z]
theorem rv_ixS {p : Addr} {xs : List V} {i : Int} (h : Seq H p xs) (ha : atI xs i = some v) : RV (rIx K) (.ref p) (.int i) H v := fun H1 e _ q => by
  rcases h.ex e with h | h
  · exact .inl ⟨p, xs, i, v, rfl, rfl, sq_of h, ha, q H1 (Ex.refl H1)⟩
  · exact .inr (.inl ⟨p, xs, i, v, rfl, rfl, st_of h, ha, q H1 (Ex.refl H1)⟩)
theorem ev_ixS {p : Addr} {xs : List V} {i : Int} (ha : Ev ta σ H (.ref p)) (hb : Ev tb σ H (.int i)) (h : Seq H p xs) (hi : atI xs i = some v) : Ev (tOp (rIx K) ta tb) σ H v := ev_op ha hb (rv_ixS h hi)
end
theorem Paired.append {α β : Type} {F : α → β → Prop} : ∀ {xs : List α} {ys : List β} {xs2 : List α} {ys2 : List β}, Paired F xs ys → Paired F xs2 ys2 → Paired F (xs ++ xs2) (ys ++ ys2)
  | _, _, _, _, .nil, q => q
  | _, _, _, _, .cons h t, q => .cons h (Paired.append t q)
theorem MD.okX {P : Program} {w : World} {K : PySem.W.Frag} {mg : Str → Option Value} {base : Heap} {x q : Str} {st : Stmt} {f : Addr} {fd : FuncData} {N ps : List Str} {k : Nat} {sp : Sp} (F : MD K x q st f fd ps) (S : FnScope N ps (defScope st)) (len : ∀ vs H Q E, sp vs H Q E → vs.length = ps.length)
    (hbody : ∀ (cdv : Value) (A : Around) (outer : List Env) (s : Shared) (H : Hp) (vs : List V) (Q : VK) (E : XK), Room k (A.deeper (envOfC q (defScope st) s.heap.objs.size f cdv)) → sp vs H Q E →
      ∃ t, PSs (cxOf (L2.CX P w) P w K mg base N q (defScope st) f cdv A outer s H E) (defBody st) t ∧ t { nx := fun _ H' => Q .non H', rt := Q } (start N vs) H) : FnOk P w K mg base (L2.CX P w) (k + 1) f fd ps sp := by
  obtain ⟨oc, od, dV, kV, doc, pm, an, cdv, ct, osl, rfl, lk, hcd⟩ := F.fn
  exact fn_of lk hcd S len fun A outer s H vs Q E hr hsp => hbody cdv A outer s H vs Q E hr hsp
/-! what is taken -/
section
variable {K : PySem.W.Frag} {H H' : Hp} {c : Nat → Addr} {zs : List Str} {x : V} {Q Q' : VK} {E : XK}
theorem RetL.ex {xs : List V} (k : RetL xs H Q) (e : Ex H H') : RetL xs H' Q := fun p H2 hp e2 h => k p H2 (fresh_back e hp) (e.trans e2) h
theorem RetV.ex {v : V} (k : RetV v H Q) (e : Ex H H') : RetV v H' Q := fun H2 e2 => k H2 (e.trans e2)
theorem RetP.ex {r : Pr} (k : RetP r H Q) (e : Ex H H') : RetP r H' Q := fun t v H2 ht hv e2 h => k t v H2 (fresh_back e ht) (fresh_back e hv) (e.trans e2) h
theorem RetP.imp {r : Pr} (k : RetP r H Q) (f : ∀ v H2, Q v H2 → Q' v H2) : RetP r H Q' := fun t v H2 ht hv e2 h h2 => f _ _ (k t v H2 ht hv e2 h h2)
theorem RetL.imp {xs : List V} (k : RetL xs H Q) (f : ∀ v H2, Q v H2 → Q' v H2) : RetL xs H Q' := fun t H2 ht e2 h => f _ _ (k t H2 ht e2 h)
theorem PairO.ex (h : PairO K c zs x H Q E) (e : Ex H H') (f : ∀ v H2, Q v H2 → Q' v H2) : PairO K c zs x H' Q' E := by
  cases h with
  | oth h r => exact .oth (h.ex e) (r.ex e)
  | len q us e1 h l r => exact .len q us e1 (e _ _ h) l (r.ex e)
  | lft q y z o e1 h hy l r => exact .lft q y z o e1 (e _ _ h) (hy.ex e) l (r.ex e)
  | two q l xs bs r e1 h hs h5 hp hO =>
    refine .two q l xs bs r e1 (e _ _ h) (hs.ex e) h5 (Paired.imp (fun _ _ z => z.ex e) hp) ?_
    cases hw : walkS zs (xs.zip bs) [] with
    | some p =>
      obtain ⟨i, y⟩ := p
      rw [hw] at hO
      exact hO.ex e
    | none =>
      rw [hw] at hO
      obtain ⟨b, hn, hO⟩ := hO
      refine ⟨b, hn.ex e, ?_⟩
      cases hc : ncR zs (xs.map strOf) r b with
      | some p =>
        obtain ⟨i, y⟩ := p
        rw [hc] at hO
        exact hO.ex e
      | none =>
        rw [hc] at hO
        exact (hO.ex e).imp f
/-- a pair as it is to be given -/
def GoodP (zs : List Str) (x : V) (H : Hp) (r : Pr) : Prop := ∃ (q l : Addr) (ys : List Str), x = .ref q ∧ H q = some (.tup [.ref l, .str r.2]) ∧ Seq H l (ys.map V.str) ∧ ys.length ≤ 5 ∧ (∀ y ∈ ys, y ∈ zs) ∧ ys.Nodup ∧ r.2 ∈ zs ∧ r.2 ∉ ys ∧ r.1 = srtS ys
theorem GoodP.ex {r : Pr} (h : GoodP zs x H r) (e : Ex H H') : GoodP zs x H' r := let ⟨q, l, ys, h1, h2, h3, h4⟩ := h; ⟨q, l, ys, h1, e _ _ h2, h3.ex e, h4⟩
theorem mem_map_str {z : Str} {ws : List Str} : V.str z ∈ ws.map V.str ↔ z ∈ ws := by
  rw [List.mem_map]
  constructor
  · rintro ⟨y, hy, e⟩
    cases e
    exact hy
  · exact fun h => ⟨z, h, rfl⟩
theorem ncR_ok {ws : List Str} {z : Str} (h1 : z ∈ zs) (h2 : z ∉ ws) : ncR zs ws (.str z) true = none := by
  rw [ncR, if_neg (fun h => nomatch h), if_neg (fun h => h (mem_map_str.mpr h1)), if_neg (fun h => h2 (mem_map_str.mp h))]
theorem walkS_ok : ∀ (ys ws : List Str), (∀ y ∈ ys, y ∈ zs) → ys.Nodup → (∀ y ∈ ys, y ∉ ws) → walkS zs ((ys.map V.str).zip (ys.map fun _ => true)) ws = none
  | [], _, _, _, _ => rfl
  | y :: ys, ws, h1, h2, h3 => by
    rw [List.map_cons, List.map_cons, List.zip_cons_cons, walkS, ncR_ok (h1 y List.mem_cons_self) (h3 y List.mem_cons_self)]
    refine walkS_ok ys _ (fun z hz => h1 z (List.mem_cons_of_mem _ hz)) (List.nodup_cons.mp h2).2 fun z hz hm => ?_
    rcases List.mem_append.mp hm with hm | hm
    · exact h3 z (List.mem_cons_of_mem _ hz) hm
    · have e : z = y := List.mem_singleton.mp hm
      exact (List.nodup_cons.mp h2).1 (e ▸ hz)
theorem name_len {z : Str} (h : nameB z = true) : z.length ≤ 1000 := by
  unfold nameB at h
  simp only [Bool.and_eq_true, decide_eq_true_eq] at h
  omega
theorem nameR_ok {z : Str} (h : nameB z = true) : NameR K H (.str z) true := by
  have z0 := NameR.str (K := K) (H := H) z (name_len h)
  rw [h] at z0
  exact z0
theorem names_ok : ∀ {ys : List Str}, (∀ y ∈ ys, nameB y = true) → Paired (NameR K H) (ys.map V.str) (ys.map fun _ => true)
  | [], _ => .nil
  | y :: ys, h => .cons (nameR_ok (h y List.mem_cons_self)) (names_ok fun z hz => h z (List.mem_cons_of_mem _ hz))
theorem map_strOf (ws : List Str) : (ws.map V.str).map strOf = ws := by
  rw [List.map_map]
  exact List.map_id' ws
theorem GoodP.o {r : Pr} (h : GoodP zs x H r) (hz : ∀ z ∈ zs, nameB z = true) (k : RetP r H Q) : PairO K c zs x H Q E := by
  obtain ⟨q, l, ys, h1, h2, h3, h4, h5, h6, h7, h8, h9⟩ := h
  refine .two q l (ys.map V.str) (ys.map fun _ => true) _ h1 h2 h3 (by rw [List.length_map]; exact h4) (names_ok fun y hy => hz y (h5 y hy)) ?_
  rw [walkS_ok ys [] h5 h6 (fun _ _ h => nomatch h)]
  refine ⟨true, nameR_ok (hz _ h7), ?_⟩
  rw [map_strOf, ncR_ok h7 h8, ← h9]
  exact k
theorem GoodP.okP {r : Pr} (h : GoodP zs x H r) (hz : ∀ z ∈ zs, nameB z = true) : Mv.okP r := by
  obtain ⟨q, l, ys, h1, h2, h3, h4, h5, h6, h7, h8, h9⟩ := h
  refine ⟨fun z hm => ?_, ok_of_name (hz _ h7), ?_⟩
  · rw [h9] at hm
    exact ok_of_name (hz z (h5 z (ordD_mem.mp hm)))
  · rw [h9]
    show (ordD _ _).length ≤ 100
    rw [ordD_length]
    omega
end
end Mv
/-! Dependencies made, all ways. -/
namespace Mv
open PySem PySem.Spec PyProof.Rows L2 Evl
section
variable {P : Program} {w : World} {K : PySem.W.Frag} {mg : Str → Option Value} {base : Heap} {a : Nat → Addr} {d : Nat → FuncData} {tk : Nat → Tok} {c ci : Nat → Addr} {di : Nat → FuncData}
theorem colsO_ex {x : V} {H H' : Hp} {Q Q' : VK} {E : XK} {o : Option (Addr × List V)} (h : colsO K c x H Q E o) (e : Ex H H') (f : ∀ v H2, Q v H2 → Q' v H2) : colsO K c x H' Q' E o := by
  cases o with
  | none => exact Rs.ex h e
  | some p =>
    obtain ⟨q, xs⟩ := p
    rcases h with ⟨h1, h2⟩ | ⟨h1, h2, bs, hp, hO⟩
    · exact .inl ⟨h1, h2.ex e⟩
    · refine .inr ⟨h1, h2, bs, Paired.imp (fun _ _ z => z.ex e) hp, ?_⟩
      cases hw : walkC (xs.zip bs) [] with
      | some p =>
        obtain ⟨i, y⟩ := p
        rw [hw] at hO
        exact hO.ex e
      | none =>
        rw [hw] at hO
        exact RetL.imp (RetL.ex hO e) f
theorem walkC_ok : ∀ (ys : List Str) (ws : List V), ys.Nodup → (∀ y ∈ ys, V.str y ∉ ws) → walkC ((ys.map V.str).zip (ys.map fun _ => true)) ws = none
  | [], _, _, _ => rfl
  | y :: ys, ws, h2, h3 => by
    rw [List.map_cons, List.map_cons, List.zip_cons_cons, walkC, if_neg (fun h => nomatch h), if_neg (h3 y List.mem_cons_self)]
    refine walkC_ok ys _ (List.nodup_cons.mp h2).2 fun z hz hm => ?_
    rcases List.mem_append.mp hm with hm | hm
    · exact h3 z (List.mem_cons_of_mem _ hz) hm
    · have e : V.str z = V.str y := List.mem_singleton.mp hm
      cases e
      exact (List.nodup_cons.mp h2).1 hz
theorem colsO_ok {q : Addr} {zs : List Str} {H : Hp} {Q : VK} {E : XK} {x : V} (h1 : 1 ≤ zs.length) (h5 : zs.length ≤ 5) (hz : ∀ z ∈ zs, nameB z = true) (nd : zs.Nodup) (k : RetL (zs.map V.str) H Q) : colsO K c x H Q E (some (q, zs.map V.str)) := by
  refine .inr ⟨by rw [List.length_map]; exact h1, by rw [List.length_map]; exact h5, zs.map fun _ => true, names_ok hz, ?_⟩
  rw [walkC_ok zs [] nd (fun _ _ h => nomatch h)]
  exact k
/-- the pairs one by one: the first that is wrong, or all of them -/
def PrsW (K : PySem.W.Frag) (c : Nat → Addr) (zs : List Str) (H : Hp) (F : List Pr → Prop) (E : XK) : List V → List Pr → Prop
  | [], rs => F rs
  | u :: us, rs => PairO K c zs u H (fun _ _ => False) E ∨ ∃ r, GoodP zs u H r ∧ PrsW K c zs H F E us (if r ∈ rs then rs else rs ++ [r])
/-- an empty tuple that is written in the text -/
def DfT (K : PySem.W.Frag) (m : Addr) : Prop := (∀ H : Hp, SqT K H m []) ∧ ∀ H : Hp, Is5 K H (.ref m) false false false false true
theorem dfT_of {K : PySem.W.Frag} {m : Addr} (h : ∀ H : Hp, SqT K H m []) : DfT K m := by
  refine ⟨h, fun H => ?_⟩
  rcases h (fun _ => none) with z | ⟨o, its, n, h1, h2, _⟩
  · rcases z with z | ⟨_, z⟩ <;> cases z
  · exact ⟨_, fun _ _ => .kTuple h1 h2, kit_ty (by decide +kernel), kit_ty (by decide +kernel), kit_ty (by decide +kernel), kit_ty (by decide +kernel), kit_ty (by decide +kernel)⟩
inductive InitO (K : PySem.W.Frag) (c : Nat → Addr) (x y : V) (H : Hp) (F : List Str → List Pr → Prop) (E : XK) : Prop
  | cols (o : Option (Addr × List V)) (hx : ListR K H x o) (h : colsO K c x H (fun _ _ => False) E o)
  | prs (q : Addr) (zs : List Str) (o : Option (Addr × List V)) (e : x = .ref q) (hs : Seq H q (zs.map V.str)) (h1 : 1 ≤ zs.length) (h5 : zs.length ≤ 5) (hz : ∀ z ∈ zs, nameB z = true) (nd : zs.Nodup) (hy : ListR K H y o) (l : ∀ p xs, o = some (p, xs) → 10 < xs.length) (r : Rs c 5 y H E)
  | all (q m : Addr) (zs : List Str) (us : List V) (e : x = .ref q) (hs : Seq H q (zs.map V.str)) (h1 : 1 ≤ zs.length) (h5 : zs.length ≤ 5) (hz : ∀ z ∈ zs, nameB z = true) (nd : zs.Nodup) (e2 : y = .ref m) (hm : Seq H m us) (l : us.length ≤ 10) (hW : PrsW K c zs H (F zs) E us [])
  | dflt (q m : Addr) (zs : List Str) (e : x = .ref q) (hs : Seq H q (zs.map V.str)) (h1 : 1 ≤ zs.length) (h5 : zs.length ≤ 5) (hz : ∀ z ∈ zs, nameB z = true) (nd : zs.Nodup) (e2 : y = .ref m) (hm : DfT K m) (hW : F zs [])
def sp_Dependencies_init (K : PySem.W.Frag) (c : Nat → Addr) : Sp := fun vs H Q E => ∃ (p dx : Addr) (x y : V) (B : Hp), vs = [.ref p, x, y] ∧ H p = some (.ins (c 9) dx []) ∧ B p = none ∧ Ex B H ∧
  InitO K c x y B (fun zs rs => ∀ H2, Ex B H2 → DepR (c 9) H2 p zs (ordD encP rs) → Q .non H2) E
theorem ok_Dependencies_init (T : All K mg a d tk c ci di) : FnOk P w K mg base (L2.CX P w) 6 (a 31) (d 31) ["self", "columns", "pairs"] (sp_Dependencies_init K c) := by
  refine T.F_Dependencies_init.okX sc_Dependencies_init (fun vs H Q E h => ?_) (fun cdv A outer s H vs Q E hr h => ?_)
  · obtain ⟨p, dx, x, y, B, rfl, _⟩ := h
    rfl
  · obtain ⟨p, dx, x, y, B, rfl, hp, hB, eB, hI⟩ := h
    have nd := sc_Dependencies_init.nd
    have hu65 := hu65_of hr
    have hu64 := hr.units
    refine ⟨_, (pss_cons (ps_fld (pv 0) (pe_call (ok_checked_columns T) (hr.mono (by decide)) rfl T.F_checked_columns.m T.F_checked_columns.kp T.F_checked_columns.b .nil (passes_call (takes_of rfl rfl rfl rfl) (fun _ _ _ _ h => h)) (pa_cons (pv 1) pa_nil)) rfl)
 (pss_cons (ps_if (PW.pt (pw_or (pt_not (pt_val (pe_call (ok_is_list T) (hr.mono (by decide)) rfl T.F_is_list.m T.F_is_list.kp T.F_is_list.b .nil pass0 (pa_cons (pv 2) pa_nil)))) (pw_or1 (pt_cmpR op_gt (pe_callB call_len_seq (by rfl) T.n_len PySem.boot_len (pa_cons (pv 2) pa_nil)) (pe_glob (v := .int 10) rfl T.c_MOST_PAIRS ⟨_, rfl⟩) (nomark _)))))
 (pss_one (ps_raise rfl (takes_of rfl rfl rfl rfl) (pmk_rz (exT_InvalidPairs T) (hr.mono (by decide)) rfl (by decide) (pa_cons (pv 2) pa_nil))))
 pss_nil)
 (pss_cons (ps_set (i := 3) nd rfl (Or.inl rfl) (pe_lst pa_nil))
 (pss_cons (ps_for (passes_of rfl) rfl (pi_seq (pv 2)) (pg_name (i := 4) nd rfl (Or.inl rfl))
 (pss_cons (ps_set (i := 5) nd rfl (Or.inl rfl) (pe_call (ok_checked_pair T) (hr.mono (by decide)) rfl T.F_checked_pair.m T.F_checked_pair.kp T.F_checked_pair.b .nil (passes_call (takes_of rfl rfl rfl rfl) (fun _ _ _ _ h => h)) (pa_cons (pe_fld (pv 0) rfl) (pa_cons (pv 4) pa_nil))))
 (pss_one (ps_if (pt_cmpR (op_notInD hu65) (pv 5) (pv 3) rfl)
 (pss_one (ps_expr (pe_bm PySem.F.plainAttrs_list PySem.F.slot_list_append PySem.F.type_list_append mt_append (pv 3) (pa_cons (pv 5) pa_nil))))
 pss_nil))))
 (pss_one (ps_fld (pv 0) (pe_callB (cr_sortedD hu64) (by rfl) T.n_sorted PyProof.Rows.boot_sorted (pa_cons (pv 3) pa_nil)) rfl)))))), ?_⟩
    cases hI with
    | cols o hx h => exact ⟨_, rfl, x, o, rfl, hx.ex eB, colsO_ex h eB fun _ _ z => z.elim⟩
    | prs q zs o e hs h1 h5 hz ndz hy hl hR =>
      subst e
      refine ⟨_, rfl, .ref q, some (q, zs.map V.str), rfl, .seq (hs.ex eB), colsO_ok h1 h5 hz ndz fun l H1 hl1 e1 g1 => ?_⟩
      refine ⟨_, rfl, p, c 9, dx, _, rfl, e1 _ _ hp, T.C_Dependencies, T.A_Dependencies_own_columns, (by show 0 < 1000; decide), ?_⟩
      have eG : Ex B (upd H1 p (.ins (c 9) dx (putF "own_columns" (.ref l) []))) := Ex.mut (eB.trans e1) hB
      generalize upd H1 p (.ins (c 9) dx (putF "own_columns" (.ref l) [])) = G at eG
      dsimp only
      have bad : ∀ {H1 : Hp}, Ex B H1 → tRz (c 5) ["value"] (tCons (tVar 2) tNil) (start N_Dependencies_init [V.ref p, V.ref q, y]) H1 E := fun {H1} e1 => (ea_cons (ev_var rfl) ea_nil) H1 (Ex.refl _) _ fun H2 e2 => ⟨rfl, fun dx hd => (hR.ex (e1.trans e2)) dx _ hd (Ex.new hd) upd_same⟩
      cases hy with
      | @oth _ v1 v2 v3 hI =>
        exact q_when (b := true) (et_or (a := true) (b := true) (et_not (et_B (ev_isList (ev_var (i := 2) rfl) (.oth (hI.ex eG))))) fun h => nomatch h) (fun _ H1 e1 => bad (eG.trans e1)) fun h => nomatch h
      | @seq m us hm =>
        have h10 := hl _ _ rfl
        exact q_when (b := true) (et_or (a := false) (et_not (et_B (ev_isList (ev_var (i := 2) rfl) (.seq (hm.ex eG))))) fun _ => et_is (et_I0 (g := fun i j => decide (j < i)) (j := 10) (ev_lenS (ev_var (i := 2) rfl) (hm.ex eG)) ev_c) (decide_eq_true (by omega))) (fun _ H1 e1 => bad (eG.trans e1)) fun h => nomatch h
    | all q m zs us e hs h1 h5 hz ndz e2 hm hl hW =>
      subst e e2
      refine ⟨_, rfl, .ref q, some (q, zs.map V.str), rfl, .seq (hs.ex eB), colsO_ok h1 h5 hz ndz fun l H1 hl1 e1 g1 => ?_⟩
      refine ⟨_, rfl, p, c 9, dx, _, rfl, e1 _ _ hp, T.C_Dependencies, T.A_Dependencies_own_columns, (by show 0 < 1000; decide), ?_⟩
      have npl : l ≠ p := fun z => by rw [z, hp] at hl1; cases hl1
      have eG : Ex B (upd H1 p (.ins (c 9) dx (putF "own_columns" (.ref l) []))) := Ex.mut (eB.trans e1) hB
      have gp : upd H1 p (.ins (c 9) dx (putF "own_columns" (.ref l) [])) p = some (.ins (c 9) dx (putF "own_columns" (.ref l) [])) := upd_same
      have gl : upd H1 p (.ins (c 9) dx (putF "own_columns" (.ref l) [])) l = some (.lst (zs.map V.str)) := by rw [upd_ne npl]; exact g1
      generalize upd H1 p (.ins (c 9) dx (putF "own_columns" (.ref l) [])) = G at eG gp gl ⊢
      dsimp only
      refine q_when (b := false) (et_or (a := false) (et_not (et_B (ev_isList (ev_var (i := 2) rfl) (.seq (hm.ex eG))))) fun _ => et_is (et_I0 (g := fun i j => decide (j < i)) (j := 10) (ev_lenS (ev_var (i := 2) rfl) (hm.ex eG)) ev_c) (decide_eq_false (by omega))) (fun h => nomatch h) fun _ H2 e2 => ?_
      refine q_asgL (el_lst ea_nil (by decide)) fun f H3 hf e3 h3 => ?_
      have e23 := e2.trans e3
      have hfG : G f = none := fresh_back e2 hf
      have hm3 := hm.ex (eG.trans e23)
      let Pv : Nat → L2.St → Hp → Prop := fun i σ' H' => Ex G H' ∧ (∃ (us' : List V) (rs : List Pr), H' f = some (.lst us') ∧ Paired (PairS (· ≠ f) H') us' rs ∧ rs.length ≤ i ∧ (∀ r ∈ rs, okP r) ∧ PrsW K c zs B (fun rs => ∀ H2, Ex B H2 → DepR (c 9) H2 p zs (ordD encP rs) → Q .non H2) E (us.drop i) rs) ∧ ∃ v4 v5, σ' = [some (.ref p), some (.ref q), some (.ref m), some (.ref f), v4, v5]
      have h0 : Pv 0 [some (.ref p), some (.ref q), some (.ref m), some (.ref f), none, none] H3 := ⟨e23, ⟨[], [], h3, .nil, Nat.le_refl _, (fun _ h => nomatch h), by rw [List.drop_zero]; exact hW⟩, _, _, rfl⟩
      refine q_forS (ev_var (i := 2) rfl) hm3 Pv (fun H4 e4 => ⟨e23.trans e4, ⟨[], [], e4 _ _ h3, .nil, Nat.le_refl _, (fun _ h => nomatch h), by rw [List.drop_zero]; exact hW⟩, _, _, rfl⟩) (fun i σ' H4 _ z => (hm.ex (eG.trans z.1)).same (Ex.refl _) ▸ ?_) ?_ ?_
      · rcases hm with hm | hm
        · exact (z.1 _ _ (eG _ _ hm)).trans ((eG.trans e23) _ _ hm).symm
        · exact (z.1 _ _ (eG _ _ hm)).trans ((eG.trans e23) _ _ hm).symm
      · rintro i x' σ' H4 hi ⟨e4, ⟨us', rs, hf4, hp4, hl4, hok4, hW4⟩, v4, v5, rfl⟩
        have eB4 := eG.trans e4
        obtain ⟨hil, hig⟩ := List.getElem?_eq_some_iff.mp hi
        rw [List.drop_eq_getElem_cons hil, hig, PrsW] at hW4
        refine ⟨_, rfl, p, c 9, dx, _, _, rfl, e4 _ _ gp, T.C_Dependencies, T.A_Dependencies_own_columns, (by rw [lookup_putF, if_pos rfl]), _, rfl, l, zs, x', rfl, e4 _ _ gl, hz, ?_⟩
        rcases hW4 with hbad | ⟨r, hgood, hW5⟩
        · exact hbad.ex eB4 fun _ _ z => z.elim
        · have hokr := hgood.okP hz
          refine (hgood.ex eB4).o hz fun t v H5 ht hv e5 ht5 hv5 => ?_
          have hP5 : PairAt H5 (.ref t) r := ⟨t, v, rfl, ht5, hv5⟩
          have ntf : t ≠ f := fun z => by rw [z, hf4] at ht; cases ht
          have nvf : v ≠ f := fun z => by rw [z, hf4] at hv; cases hv
          have tin : EvT (tTest (tOp (rNotInD K) (tVar 5) (tVar 3))) [some (.ref p), some (.ref q), some (.ref m), some (.ref f), some x', some (.ref t)] H5 (!decide (r ∈ rs)) := et_test (ev_op (ev_var rfl) (ev_var rfl) (rv_ninE (fun H6 e6 => (hP5.ex e6).dp) (e5 _ _ hf4) (fun H6 e6 => dps (F := PairAt H6) (fun _ _ z => z.dp) (Paired.imp (fun _ _ z => (z.ex (e5.trans e6)).at') hp4)) eqvPi (shapedP1 hokr) (shapedPs hok4) decide_eq_true_iff))
          by_cases hmem : r ∈ rs
          · rw [if_pos hmem] at hW5
            refine s_when (b := false) (et_is tin (by rw [decide_eq_true hmem] <;> rfl)) (fun h => nomatch h) fun _ H6 e6 => ?_
            have e56 := e5.trans e6
            exact ⟨e4.trans e56, ⟨us', rs, e56 _ _ hf4, Paired.imp (fun _ _ z => z.ex e56) hp4, by omega, hok4, hW5⟩, _, _, rfl⟩
          · rw [if_neg hmem] at hW5
            refine s_when (b := true) (et_is tin (by rw [decide_eq_false hmem] <;> rfl)) (fun _ H6 e6 => ?_) fun h => nomatch h
            have e56 := e5.trans e6
            have hlu := Paired.length hp4
            refine s_app (e56 _ _ hf4) (ev_var (i := 3) rfl) (ev_var (i := 5) rfl) (by omega) fun H7 e7 => ?_
            have e57 := e56.trans e7
            have e4m : Ex G (upd H7 f (.lst (us' ++ [.ref t]))) := Ex.mut (e4.trans e57) hfG
            refine ⟨e4m, ⟨us' ++ [.ref t], rs ++ [r], upd_same, ?_, by rw [List.length_append, List.length_singleton]; omega, fun z hz2 => ?_, hW5⟩, _, _, rfl⟩
            · have mvf : ∀ (y : Addr) (o : HO), y ≠ f → H7 y = some o → y ≠ f ∧ upd H7 f (.lst (us' ++ [.ref t])) y = some o := fun y o n h => ⟨n, by rw [upd_ne n]; exact h⟩
              have hN : PairS (· ≠ f) H7 (.ref t) r := ⟨t, v, rfl, ntf, nvf, (e6.trans e7) _ _ ht5, (e6.trans e7) _ _ hv5⟩
              exact Paired.append (Paired.imp (fun _ _ z => (z.ex e57).mv mvf) hp4) (.cons (hN.mv mvf) .nil)
            · rcases List.mem_append.mp hz2 with h | h
              · exact hok4 z h
              · rw [List.mem_singleton.mp h]
                exact hokr
      · rintro σ' H4 ⟨e4, ⟨us', rs, hf4, hp4, hl4, hok4, hW4⟩, v4, v5, rfl⟩
        rw [List.drop_length, PrsW] at hW4
        have hp4' := e4 _ _ gp
        refine ⟨_, rfl, ?_⟩
        dsimp only [tNil]
        refine sortD_use encP (sq_of hf4) (Paired.imp (fun _ _ z => z.at'.dp) hp4) alikeP (sortP rs) depthP fun us2 hF pm m2 hm2 => ?_
        have nmp : m2 ≠ p := fun z => by rw [z, hp4'] at hm2; cases hm2
        refine ⟨_, rfl, p, c 9, dx, _, rfl, by rw [upd_ne (Ne.symm nmp)]; exact hp4', T.C_Dependencies, T.A_Dependencies_own_pairs, (by show 1 < 1000; decide), ?_⟩
        have eN : Ex H4 (upd H4 m2 (.lst us2)) := Ex.new hm2
        have eB5 : Ex B (upd (upd H4 m2 (.lst us2)) p (.ins (c 9) dx (flD l m2))) := Ex.mut ((eG.trans e4).trans eN) hB
        refine hW4 _ eB5 ⟨dx, l, m2, us2, upd_same, ?_, ?_, ?_⟩
        · rw [upd_ne npl]
          exact eN _ _ (e4 _ _ gl)
        · rw [upd_ne nmp, upd_same]
        · refine Paired.imp (fun _ _ z => ?_) (hF _ hp4)
          obtain ⟨t, v, z1, _, _, z2, z3⟩ := z
          have n1 : t ≠ p := fun q => by rw [q, hp4'] at z2; cases z2
          have n2 : v ≠ p := fun q => by rw [q, hp4'] at z3; cases z3
          exact ⟨t, v, z1, by rw [upd_ne n1]; exact eN _ _ z2, by rw [upd_ne n2]; exact eN _ _ z3⟩
    | dflt q m zs e hs h1 h5 hz ndz e2 hm hW =>
      subst e e2
      refine ⟨_, rfl, .ref q, some (q, zs.map V.str), rfl, .seq (hs.ex eB), colsO_ok h1 h5 hz ndz fun l H1 hl1 e1 g1 => ?_⟩
      refine ⟨_, rfl, p, c 9, dx, _, rfl, e1 _ _ hp, T.C_Dependencies, T.A_Dependencies_own_columns, (by show 0 < 1000; decide), ?_⟩
      have npl : l ≠ p := fun z => by rw [z, hp] at hl1; cases hl1
      have eG : Ex B (upd H1 p (.ins (c 9) dx (putF "own_columns" (.ref l) []))) := Ex.mut (eB.trans e1) hB
      have gp : upd H1 p (.ins (c 9) dx (putF "own_columns" (.ref l) [])) p = some (.ins (c 9) dx (putF "own_columns" (.ref l) [])) := upd_same
      have gl : upd H1 p (.ins (c 9) dx (putF "own_columns" (.ref l) [])) l = some (.lst (zs.map V.str)) := by rw [upd_ne npl]; exact g1
      generalize upd H1 p (.ins (c 9) dx (putF "own_columns" (.ref l) [])) = G at eG gp gl ⊢
      dsimp only
      have len0 : Ev (tCB (rLenS K) (tCons (tVar 2) tNil)) (start N_Dependencies_init [V.ref p, V.ref q, V.ref m]) G (.int (0 : Int)) := fun H1 e Q q' => ⟨_, rfl, m, [], rfl, .inr (hm.1 H1), q' H1 (Ex.refl _)⟩
      refine q_when (b := false) (et_or (a := false) (et_not (et_B (ev_isListI (ev_var (i := 2) rfl) (hm.2 G)))) fun _ => et_is (et_I0 (g := fun i j => decide (j < i)) (j := 10) len0 ev_c) (decide_eq_false (by omega))) (fun h => nomatch h) fun _ H2 e2 => ?_
      refine q_asgL (el_lst ea_nil (by decide)) fun f H3 hf e3 h3 => ?_
      have e23 := e2.trans e3
      refine .inr ⟨_, rfl, m, rfl, ⟨_, hm.1 _⟩, for_tup (K := K) (a := m) (xs := []) (fun _ σ' H' => Ex G H' ∧ H' f = some (.lst []) ∧ ∃ v4 v5, σ' = [some (.ref p), some (.ref q), some (.ref m), some (.ref f), v4, v5]) ⟨e23, h3, _, _, rfl⟩ (fun i σ' H' _ _ => hm.1 _) (fun i x σ' H' hi _ => by simp at hi) ?_⟩
      rintro σ' H4 ⟨e4, hf4, v4, v5, rfl⟩
      have hp4' := e4 _ _ gp
      refine ⟨_, rfl, ?_⟩
      dsimp only [tNil]
      refine sortD_use (rs := []) encP (sq_of hf4) .nil alikeP (sortP []) depthP fun us2 hF pm m2 hm2 => ?_
      have nmp : m2 ≠ p := fun z => by rw [z, hp4'] at hm2; cases hm2
      refine ⟨_, rfl, p, c 9, dx, _, rfl, by rw [upd_ne (Ne.symm nmp)]; exact hp4', T.C_Dependencies, T.A_Dependencies_own_pairs, (by show 1 < 1000; decide), ?_⟩
      have eN : Ex H4 (upd H4 m2 (.lst us2)) := Ex.new hm2
      have eB5 : Ex B (upd (upd H4 m2 (.lst us2)) p (.ins (c 9) dx (flD l m2))) := Ex.mut ((eG.trans e4).trans eN) hB
      refine hW _ eB5 ⟨dx, l, m2, us2, upd_same, ?_, ?_, ?_⟩
      · rw [upd_ne npl]
        exact eN _ _ (e4 _ _ gl)
      · rw [upd_ne nmp, upd_same]
      · exact hF (PairAt _) .nil
end
end Mv
/-! closure, need_question, implies, all ways. -/
namespace Mv
open PySem PySem.Spec PyProof.Rows L2 Evl
theorem flD_no {l m : Addr} {x : Str} (h : ¬ x = "own_pairs") (h' : ¬ x = "own_columns") : (flD l m).lookup x = none := by
  unfold flD
  rw [lookup_putF, if_neg h, lookup_putF, if_neg h'] <;> rfl
/-- what Dependencies keep -/
structure DG (zs : List Str) (rs : List Pr) : Prop where
  l1 : 1 ≤ zs.length
  l5 : zs.length ≤ 5
  hz : ∀ z ∈ zs, nameB z = true
  nd : zs.Nodup
  hr : ∀ r ∈ rs, okP r
  rl : rs.length ≤ 20
  rz : ∀ r ∈ rs, r.2 ∈ zs
section
variable {P : Program} {w : World} {K : PySem.W.Frag} {mg : Str → Option Value} {base : Heap} {a : Nat → Addr} {d : Nat → FuncData} {tk : Nat → Tok} {c ci : Nat → Addr} {di : Nat → FuncData}
theorem someO_ex {zs : List Str} {x : V} {H H' : Hp} {Q Q' : VK} {E : XK} {o : Option (Addr × List V)} (h : someO K c zs x H Q E o) (e : Ex H H') (f : ∀ v H2, Q v H2 → Q' v H2) : someO K c zs x H' Q' E o := by
  cases o with
  | none => exact Rs.ex h e
  | some p =>
    obtain ⟨q, xs⟩ := p
    rcases h with ⟨h1, h2⟩ | ⟨h2, bs, hp, hO⟩
    · exact .inl ⟨h1, h2.ex e⟩
    · refine .inr ⟨h2, bs, Paired.imp (fun _ _ z => z.ex e) hp, ?_⟩
      cases hw : walkS zs (xs.zip bs) [] with
      | some p =>
        obtain ⟨i, y⟩ := p
        rw [hw] at hO
        exact hO.ex e
      | none =>
        rw [hw] at hO
        exact RetL.imp (RetL.ex hO e) f
/-- some of the columns as they are to be given -/
def GoodS (zs : List Str) (x : V) (H : Hp) (ws : List Str) : Prop := ∃ q : Addr, x = .ref q ∧ Seq H q (ws.map V.str) ∧ ws.length ≤ 5 ∧ (∀ y ∈ ws, y ∈ zs) ∧ ws.Nodup
theorem GoodS.ex {zs ws : List Str} {x : V} {H H' : Hp} (h : GoodS zs x H ws) (e : Ex H H') : GoodS zs x H' ws := let ⟨q, h1, h2, h3⟩ := h; ⟨q, h1, h2.ex e, h3⟩
theorem GoodS.o {zs ws : List Str} {x : V} {H : Hp} {Q : VK} {E : XK} (h : GoodS zs x H ws) (hz : ∀ z ∈ zs, nameB z = true) (k : RetL (ws.map V.str) H Q) : ∃ o, ListR K H x o ∧ someO K c zs x H Q E o := by
  obtain ⟨q, rfl, hs, h5, hsub, hnd⟩ := h
  refine ⟨some (q, ws.map V.str), .seq hs, .inr ⟨by rw [List.length_map]; exact h5, ws.map fun _ => true, names_ok fun y hy => hz y (hsub y hy), ?_⟩⟩
  rw [walkS_ok ws [] hsub hnd (fun _ _ h => nomatch h)]
  exact k
theorem clo_ok {zs : List Str} {rs : List Pr} (G : DG zs rs) {ws : List Str} (nd : ws.Nodup) (h : ∀ y ∈ ws, y ∈ zs) : ∀ z ∈ clo rs ws, PyData.strOk z = true := fun z hz => ok_of_name (G.hz z (clo_mem nd h G.rz z hz))
end
end Mv
/-! Comprehensions whose elements are new. -/
namespace Mv
open PySem PySem.Spec PyProof.Rows L2 Evl
abbrev ItP (M : Type) := (Addr → Prop) → Hp → V → M → Prop
def MvP {M : Type} (It : ItP M) : Prop := ∀ S S' H H' v m, It S H v m → (∀ a o, S a → H a = some o → S' a ∧ H' a = some o) → It S' H' v m
def EvM {M : Type} (te : TE) (σ : L2.St) (H : Hp) (It : ItP M) (m : M) : Prop := ∀ H1, Ex H H1 → ∀ Q : VK, (∀ v H2, Ex H1 H2 → It (fun a => H1 a = none) H2 v m → Q v H2) → te σ H1 Q
def EvI {M : Type} (te : TE) (σ : L2.St) (H : Hp) (It : ItP M) (ms : List M) : Prop := ∀ H1, Ex H H1 → ∀ Q : VK, (∀ p us H2, H1 p = none → Ex H1 H2 → H2 p = some (.lst us) → Paired (It (fun a => H1 a = none ∧ a ≠ p) H2) us ms → Q (.ref p) H2) → te σ H1 Q
theorem mv_P : MvP PairS := fun _ _ _ _ _ _ h e => h.mv e
/-- a list of texts, of S -/
def SLS : ItP (List Str) := fun S H u zs => ∃ l : Addr, u = .ref l ∧ S l ∧ H l = some (.lst (zs.map V.str))
theorem mv_SL : MvP SLS := fun _ _ _ _ _ _ ⟨l, h1, h2, h3⟩ e => ⟨l, h1, (e _ _ h2 h3).1, (e _ _ h2 h3).2⟩
theorem SLS.sl {S : Addr → Prop} {H : Hp} {u : V} {zs : List Str} (h : SLS S H u zs) : IsSL H u zs := let ⟨l, h1, _, h3⟩ := h; ⟨l, h1, h3⟩
def Ci {M : Type} (It : ItP M) (H : Hp) (Dl : Addr) (ms : List M) (H' : Hp) : Prop := H Dl = none ∧ Ex H H' ∧ ∃ us, H' Dl = some (.lst us) ∧ Paired (It (fun a => H a = none ∧ a ≠ Dl) H') us ms
section
variable {K : PySem.W.Frag} {σ σ2 : L2.St} {H H' : Hp} {tl te ta : TE} {t : TT} {g : TG} {M : Type} {It : ItP M} {ms : List M} {Dl : Addr}
theorem Ci.start (h : H Dl = none) : Ci It H Dl [] (upd H Dl (.lst [])) := ⟨h, Ex.new h, [], upd_same, .nil⟩
theorem EvM.mono {m : M} (h : EvM te σ H It m) (e : Ex H H') : EvM te σ H' It m := fun H1 e1 Q q => h H1 (e.trans e1) Q q
theorem Ci.ex {H2 : Hp} (hv : MvP It) (p : Ci It H Dl ms H') (e : Ex H' H2) : Ci It H Dl ms H2 := let ⟨p1, p2, us, p3, p4⟩ := p; ⟨p1, p2.trans e, us, e _ _ p3, Paired.imp (fun _ _ z => hv _ _ _ _ _ _ z fun a o s ha => ⟨s, e _ _ ha⟩) p4⟩
theorem ci_turn {m : M} (hv : MvP It) (p : Ci It H Dl ms H') (hl : ms.length < 50000) (he : EvM te σ2 H' It m) :
    tYes σ2 H' fun b H3 => if b = true then te σ2 H3 fun y H4 => ∃ acc, H4 Dl = some (.lst acc) ∧ acc.length < sizeLine ∧ Ci It H Dl (ms ++ [m]) (upd H4 Dl (.lst (acc ++ [y]))) else Ci It H Dl (ms ++ [m]) H3 := by
  obtain ⟨p1, p2, us, p3, p4⟩ := p
  refine et_yes H' (Ex.refl H') _ fun H3 e3 => ?_
  show te σ2 H3 fun y H4 => ∃ acc, H4 Dl = some (.lst acc) ∧ acc.length < sizeLine ∧ Ci It H Dl (ms ++ [m]) (upd H4 Dl (.lst (acc ++ [y])))
  refine he H3 e3 _ fun v H4 e4 hv4 => ?_
  have hlen := Paired.length p4
  have d4 := e4 _ _ (e3 _ _ p3)
  refine ⟨us, d4, sz_lt (by omega), p1, Ex.mut ((p2.trans e3).trans e4) p1, us ++ [v], upd_same, Paired.append (Paired.imp (fun _ _ z => hv _ _ _ _ _ _ z fun a o s ha => ⟨s, by rw [upd_ne s.2]; exact e4 _ _ (e3 _ _ ha)⟩) p4) (.cons ?_ .nil)⟩
  refine hv _ _ _ _ _ _ hv4 fun a o s ha => ?_
  have s : H3 a = none := s
  have n : a ≠ Dl := fun z => by rw [z, e3 _ _ p3] at s; cases s
  exact ⟨⟨fresh_back (p2.trans e3) s, n⟩, by rw [upd_ne n]; exact ha⟩
/-- over a list that stays, any target -/
theorem ci_list {a : Addr} {xs : List V} {vs : List Nat} {Q : VK} (hv : MvP It) (hx : H a = some (.lst xs)) (hz : xs.length ≤ 40000) (σs : Nat → L2.St) (hg : ∀ (i : Nat) (x : V) (H' : Hp) (R : L2.St → Hp → Prop), xs[i]? = some x → Ex H H' → R (σs i) H' → g x (wipe σ vs) H' R) (hw : ∀ i, i < xs.length → wipe (σs i) vs = wipe σ vs) (m : Nat → M) (he : ∀ i, i < xs.length → EvM te (σs i) H It (m i))
    (k : ∀ p us H2, H p = none → Ex H H2 → H2 p = some (.lst us) → Paired (It (fun a => H a = none ∧ a ≠ p) H2) us ((List.range xs.length).map m) → Q (.ref p) H2) :
    ∀ Dl, H Dl = none → ∃ W : Nat → Nat → Hp → Prop, (∃ m, W 0 m (upd H Dl (.lst []))) ∧ ∀ i m H, W i m H →
      ((Itl K a).stop i H ∧ Q (.ref Dl) H) ∨ ((Itl K a).go i H ∧ ∃ Nx : Hp → Prop, (∀ H', Nx H' → ∃ m', m' < m ∧ W (i + 1) m' H') ∧ ∀ x H', (Itl K a).yld i H x H' → g x (wipe σ vs) H' fun σ2 H2 => wipe σ2 vs = wipe σ vs ∧ tYes σ2 H2 fun b H3 =>
        if b = true then te σ2 H3 fun y H4 => ∃ acc, H4 Dl = some (.lst acc) ∧ acc.length < sizeLine ∧ Nx (upd H4 Dl (.lst (acc ++ [y]))) else Nx H3) := fun Dl hD =>
  lc_list (xs := xs) (fun i H' => Ci It H Dl ((List.range i).map m) H') (Ci.start hD) (fun i H' _ p => sq_of (p.2.1 _ _ hx)) (fun i x H' hi p => by
    have hil : i < xs.length := (List.getElem?_eq_some_iff.mp hi).1
    refine hg i x H' _ hi p.2.1 ⟨hw i hil, ?_⟩
    have z := ci_turn (m := m i) hv p (by rw [List.length_map, List.length_range]; omega) ((he i hil).mono p.2.1)
    rw [List.range_succ, List.map_append]
    exact z) fun H' p => let ⟨p1, p2, us, p3, p4⟩ := p; k Dl us H' p1 p2 p3 p4
theorem ei_lcN {a : Addr} {xs : List V} {j : Nat} {vs : List Nat} (hv : MvP It) (h : Ev tl σ H (.ref a)) (hx : H a = some (.lst xs)) (hz : xs.length ≤ 40000) (hw : ∀ x, wipe ((wipe σ vs).set j (some x)) vs = wipe σ vs) (m : Nat → M)
    (he : ∀ i x, xs[i]? = some x → EvM te ((wipe σ vs).set j (some x)) H It (m i)) : EvI (tLc (iList K tl) (gName j) tYes te vs) σ H It ((List.range xs.length).map m) := fun H0 e Q q => h H0 e _ fun H1 e1 =>
  ⟨a, rfl, ⟨xs, sq_of ((e.trans e1) _ _ hx)⟩, ci_list (K := K) hv ((e.trans e1) _ _ hx) hz (fun i => (wipe σ vs).set j (some (xs.getD i .non))) (fun i x H' R hi _ r => by
    rw [List.getD_eq_getElem?_getD, hi] at r
    exact r) (fun i _ => hw _) m (fun i hi H2 e2 => he i _ (by rw [List.getD_eq_getElem?_getD, List.getElem?_eq_getElem hi] <;> rfl) H2 ((e.trans e1).trans e2)) fun p us H2 hp e2 h2 pp => q p us H2 (fresh_back e1 hp) (e1.trans e2) h2 (Paired.imp (fun _ _ z => hv _ _ _ _ _ _ z fun a o s ha => ⟨⟨fresh_back e1 s.1, s.2⟩, ha⟩) pp)⟩
theorem ei_lcP {a : Addr} {xs : List V} {j1 j2 : Nat} {vs : List Nat} (hv : MvP It) (L R : Nat → V) (h : Ev tl σ H (.ref a)) (hx : H a = some (.lst xs)) (hz : xs.length ≤ 40000) (hp : ∀ i x, xs[i]? = some x → ∃ t, x = .ref t ∧ H t = some (.tup [L i, R i])) (hw : ∀ x y, wipe (((wipe σ vs).set j1 (some x)).set j2 (some y)) vs = wipe σ vs) (m : Nat → M)
    (he : ∀ i, i < xs.length → EvM te (((wipe σ vs).set j1 (some (L i))).set j2 (some (R i))) H It (m i)) : EvI (tLc (iList K tl) (gTup K 2 (gCons (gName j1) (gCons (gName j2) gNil))) tYes te vs) σ H It ((List.range xs.length).map m) := fun H0 e Q q => h H0 e _ fun H1 e1 =>
  ⟨a, rfl, ⟨xs, sq_of ((e.trans e1) _ _ hx)⟩, ci_list (K := K) hv ((e.trans e1) _ _ hx) hz (fun i => ((wipe σ vs).set j1 (some (L i))).set j2 (some (R i))) (fun i x H' r hi e2 hr => by
    obtain ⟨u, rfl, htp⟩ := hp i x hi
    exact ⟨u, _, rfl, st_of (((e.trans e1).trans e2) _ _ htp), rfl, _, _, rfl, _, _, rfl, rfl, hr⟩) (fun i _ => hw _ _) m (fun i hi H2 e2 => he i hi H2 ((e.trans e1).trans e2)) fun p us H2 hp e2 h2 pp => q p us H2 (fresh_back e1 hp) (e1.trans e2) h2 (Paired.imp (fun _ _ z => hv _ _ _ _ _ _ z fun a o s ha => ⟨⟨fresh_back e1 s.1, s.2⟩, ha⟩) pp)⟩
theorem EvI.imp {ms' : List M} (h : EvI te σ H It ms) (e : ms = ms') : EvI te σ H It ms' := e ▸ h
/-! elements -/
/-- list(l), a list of texts -/
theorem em_list {q : Addr} {zs : List Str} (h : Ev ta σ H (.ref q)) (hq : Seq H q (zs.map V.str)) : EvM (tCB (rListS K) (tCons ta tNil)) σ H SLS zs := fun H1 e Q k => h H1 e _ fun H2 e2 => ⟨q, _, rfl, (hq.ex (e.trans e2)).sq, fun l hl => k _ _ (e2.trans (Ex.new hl)) ⟨l, rfl, fresh_back e2 hl, upd_same⟩⟩
/-- (l, r), l new -/
theorem em_pair {zs : List Str} {z : Str} (h : EvM te σ H SLS zs) (hb : ∀ H1, Ex H H1 → Ev ta σ H1 (.str z)) : EvM (tTup (tCons te (tCons ta tNil))) σ H PairS (zs, z) := fun H1 e Q k => h H1 e _ fun v H2 e2 ⟨l, h1, h2, h3⟩ => by
  subst h1
  refine hb H2 (e.trans e2) H2 (Ex.refl _) _ fun H3 e3 => ⟨sz_of (show 2 ≤ 100000 by decide), fun t ht => ?_⟩
  exact k _ _ ((e2.trans e3).trans (Ex.new ht)) ⟨t, l, rfl, fresh_back (e2.trans e3) ht, h2, upd_same, (Ex.new ht) _ _ (e3 _ _ h3)⟩
end
theorem yes_go {σ : L2.St} {H : Hp} {F G : Hp → Prop} (h : F H) : tYes σ H fun b H3 => if b = true then F H3 else G H3 := by
  show (if true = true then F H else G H)
  rw [if_pos rfl]
  exact h
section
variable {σ : L2.St} {H : Hp} {te : TE} {M : Type} {It : ItP M} {ms : List M} {D : Ends} {tz : TS}
theorem q_asgI {i : Nat} (h : EvI te σ H It ms) (k : ∀ p us H1, H p = none → Ex H H1 → H1 p = some (.lst us) → Paired (It (fun a => H a = none ∧ a ≠ p) H1) us ms → tz D (σ.set i (some (.ref p))) H1) : tSeq (tAsg te (gName i)) tz D σ H := h H (Ex.refl H) _ k
theorem s_retI (h : EvI te σ H It ms) (k : ∀ p us H1, H p = none → Ex H H1 → H1 p = some (.lst us) → Paired (It (fun a => H a = none ∧ a ≠ p) H1) us ms → D.rt (.ref p) H1) : tRet te D σ H := h H (Ex.refl H) _ k
end
/-- the places, told by the things -/
theorem range_getD {α β : Type} (d : α) (f : α → β) : ∀ xs : List α, (List.range xs.length).map (fun i => f (xs.getD i d)) = xs.map f
  | [] => rfl
  | x :: xs => by
    rw [List.length_cons, List.range_succ_eq_map, List.map_cons, List.map_map, List.map_cons]
    congr 1
    exact range_getD d f xs
theorem getD_mem {α : Type} {d : α} {xs : List α} {i : Nat} (h : i < xs.length) : xs.getD i d ∈ xs := by
  rw [List.getD_eq_getElem?_getD, List.getElem?_eq_getElem h]
  exact List.getElem_mem h
theorem getD_at {α : Type} {d : α} {xs : List α} {i : Nat} (h : i < xs.length) : xs[i]? = some (xs.getD i d) := by
  rw [List.getD_eq_getElem?_getD, List.getElem?_eq_getElem h] <;> rfl
/-- where the left lists of pairs lie -/
theorem lefts {H : Hp} {us : List V} {rs : List Pr} (hp : Paired (PairAt H) us rs) : ∃ L : Nat → Addr, ∀ i x, us[i]? = some x → ∃ t, x = .ref t ∧ H t = some (.tup [.ref (L i), .str (rs.getD i ([], "")).2]) ∧ H (L i) = some (.lst ((rs.getD i ([], "")).1.map V.str)) := by
  have z : ∀ i : Nat, ∃ v : Addr, ∀ x, us[i]? = some x → ∃ t, x = .ref t ∧ H t = some (.tup [.ref v, .str (rs.getD i ([], "")).2]) ∧ H v = some (.lst ((rs.getD i ([], "")).1.map V.str)) := fun i => by
    cases hx : us[i]? with
    | none => exact ⟨0, fun x h => nomatch h⟩
    | some x =>
      obtain ⟨r, hr, t', v', rfl, h1, h2⟩ := Paired.at_l hp i x hx
      refine ⟨v', fun y hy => ?_⟩
      cases hy
      rw [List.getD_eq_getElem?_getD, hr]
      exact ⟨t', rfl, h1, h2⟩
  obtain ⟨L, hL⟩ := Classical.axiomOfChoice z
  exact ⟨L, hL⟩
section
variable {P : Program} {w : World} {K : PySem.W.Frag} {mg : Str → Option Value} {base : Heap} {a : Nat → Addr} {d : Nat → FuncData} {tk : Nat → Tok} {c ci : Nat → Addr} {di : Nat → FuncData}
end
end Mv
/-! subsets, ==. -/
namespace Mv
open PySem PySem.Spec PyProof.Rows L2 Evl Cmb
def atS (xs : List Str) (c : List Nat) : List Str := c.map fun j => xs.getD j ""
def plC (n : Nat) : List (List Nat) := (List.range (n + 1)).flatMap (combs n)
def subsC (xs : List Str) : List (List Str) := (plC xs.length).map (atS xs)
theorem combs_in : ∀ n, n ≤ 5 → ∀ r, r ≤ n → ∀ c ∈ combs n r, ∀ j ∈ c, j < n := by decide +kernel
theorem combs_few : ∀ n, n ≤ 5 → (plC n).length ≤ 40 := by decide +kernel
theorem at_strs {xs : List Str} {c : List Nat} (h : ∀ j ∈ c, j < xs.length) : atPl (xs.map V.str) c = (atS xs c).map V.str := by
  unfold atPl atS
  rw [List.map_map]
  refine List.map_congr_left fun j hj => ?_
  have hl := h j hj
  show (xs.map V.str).getD j .non = V.str (xs.getD j "")
  rw [List.getD_eq_getElem?_getD, List.getElem?_map, List.getElem?_eq_getElem hl, List.getD_eq_getElem?_getD, List.getElem?_eq_getElem hl] <;> rfl
def plP (n i : Nat) : List (List Nat) := (List.range i).flatMap (combs n)
theorem plP_next (n i : Nat) : plP n (i + 1) = plP n i ++ combs n i := by
  unfold plP
  rw [List.range_succ, List.flatMap_append, List.flatMap_singleton]
theorem plP_le {n i : Nat} (h : i ≤ n + 1) : (plP n i).length ≤ (plC n).length := by
  have e : plC n = plP n i ++ ((List.range (n + 1)).drop i).flatMap (combs n) := by
    unfold plC plP
    rw [← List.flatMap_append]
    congr 1
    have z := List.take_append_drop i (List.range (n + 1))
    rw [List.take_range, Nat.min_eq_left h] at z
    exact z.symm
  rw [e, List.length_append]
  omega
section
variable {K : PySem.W.Frag} {H : Hp} {ta : TA}
theorem ei_comb2 {q : Addr} {xs : List Str} (hq : H q = some (.lst (xs.map V.str))) (h5 : xs.length ≤ 5) (h : EvA ta [some (.ref q), none, none, none] H [.int ((xs.length : Int) + 1)]) :
    EvI (tLc2 (iRng1 ta) (gName 2) tYes (iComb K (tCons (tVar 0) (tCons (tVar 2) tNil))) (gName 3) tYes (tCB (rListS K) (tCons (tVar 3) tNil)) [2, 3] [3]) [some (.ref q), none, none, none] H SLS (subsC xs) := fun H0 e Q k => by
  refine h H0 e _ fun H1 e1 => ⟨(xs.length : Int) + 1, rfl, by omega, by omega, fun Dl hD => ?_⟩
  have hn : ((xs.length : Int) + 1).toNat = xs.length + 1 := by omega
  rw [hn]
  have e01 := e.trans e1
  have hfew := combs_few xs.length h5
  refine ⟨fun i m H' => m = (xs.length + 1) - i ∧ i ≤ xs.length + 1 ∧ Ci SLS H1 Dl ((plP xs.length i).map (atS xs)) H', ⟨_, rfl, Nat.zero_le _, Ci.start hD⟩, ?_⟩
  rintro i m H' ⟨rfl, hi, p⟩
  by_cases hlt : i < xs.length + 1
  · refine .inr ⟨hlt, Ci SLS H1 Dl ((plP xs.length (i + 1)).map (atS xs)), fun H2 p2 => ⟨(xs.length + 1) - (i + 1), by omega, rfl, hlt, p2⟩, fun x H2 y => ?_⟩
    obtain ⟨rfl, rfl⟩ := y
    have e0 : (0 : Int) + (i : Int) = (i : Int) := Int.zero_add _
    rw [e0]
    refine ⟨rfl, yes_go ⟨_, rfl, _, rfl, q, xs.map V.str, i, rfl, sq_of ((e01.trans p.2.1) _ _ hq), by rw [List.length_map]; omega, by omega, ?_⟩⟩
    refine ⟨fun j m H' => m = (combs xs.length i).length - j ∧ j ≤ (combs xs.length i).length ∧ Ci SLS H1 Dl ((plP xs.length i ++ (combs xs.length i).take j).map (atS xs)) H', ⟨_, rfl, Nat.zero_le _, by rw [List.take_zero, List.append_nil]; exact p⟩, ?_⟩
    rintro j m H3 ⟨rfl, hj, p3⟩
    by_cases hjl : j < (combs xs.length i).length
    · refine .inr ⟨by show j < (combs (xs.map V.str).length i).length; rw [List.length_map]; exact hjl, Ci SLS H1 Dl ((plP xs.length i ++ (combs xs.length i).take (j + 1)).map (atS xs)), fun H2 p2 => ⟨(combs xs.length i).length - (j + 1), by omega, rfl, hjl, p2⟩, fun x H4 y => ?_⟩
      obtain ⟨R, rfl, hR, rfl⟩ := y
      have hc : (combs xs.length i).getD j [] ∈ combs xs.length i := getD_mem hjl
      rw [List.length_map]
      rw [at_strs (combs_in xs.length h5 i (by omega) _ hc)]
      have p4 := p3.ex mv_SL (Ex.new (o := .tup ((atS xs ((combs xs.length i).getD j [])).map V.str)) hR)
      refine ⟨rfl, ?_⟩
      have hle : ((plP xs.length i ++ (combs xs.length i).take j).map (atS xs)).length < 50000 := by
        have a1 := plP_le (n := xs.length) (i := i + 1) (by omega)
        rw [plP_next, List.length_append] at a1
        rw [List.length_map, List.length_append, List.length_take]
        omega
      have z := ci_turn (te := tCB (rListS K) (tCons (tVar 3) tNil)) (σ2 := [some (.ref q), none, some (.int (i : Int)), some (.ref R)]) (m := atS xs ((combs xs.length i).getD j [])) mv_SL p4 hle (em_list (ev_var (i := 3) rfl) (.inr upd_same))
      have et : (plP xs.length i ++ (combs xs.length i).take (j + 1)).map (atS xs) = (plP xs.length i ++ (combs xs.length i).take j).map (atS xs) ++ [atS xs ((combs xs.length i).getD j [])] := by
        rw [List.take_succ, getD_at (d := []) hjl, ← List.append_assoc, List.map_append] <;> rfl
      rw [et]
      exact z
    · have ej : j = (combs xs.length i).length := by omega
      subst ej
      refine .inl ⟨by show (combs (xs.map V.str).length i).length ≤ _; rw [List.length_map]; exact Nat.le_refl _, ?_⟩
      rw [plP_next]
      rw [List.take_length] at p3
      exact p3
  · have ei : i = xs.length + 1 := by omega
    subst ei
    obtain ⟨p1, p2, us, p3, p4⟩ := p
    exact .inl ⟨Nat.le_refl _, k Dl us H' (fresh_back e1 p1) (e1.trans p2) p3 (Paired.imp (fun _ _ z => mv_SL _ _ _ _ _ _ z fun a o s ha => ⟨⟨fresh_back e1 s.1, s.2⟩, ha⟩) p4)⟩
/-! == of data -/
theorem rv_eqE {x y : V} {d e : PyData} {b : Bool} (hx : ∀ H1, Ex H H1 → Dp K H1 x d) (hy : ∀ H1, Ex H H1 → Dp K H1 y e) (s1 : SeqAt.shaped d = true) (s2 : SeqAt.shaped e = true) (hb : PyData.eqv d e = b) : RV (rEqD K) x y H (.bl b) := fun H1 e1 Q q => ⟨d, e, hx H1 e1, hy H1 e1, s1, s2, by rw [hb]; exact q H1 (Ex.refl _)⟩
theorem rv_neE {x y : V} {d e : PyData} {b : Bool} (hx : ∀ H1, Ex H H1 → Dp K H1 x d) (hy : ∀ H1, Ex H H1 → Dp K H1 y e) (s1 : SeqAt.shaped d = true) (s2 : SeqAt.shaped e = true) (hb : PyData.eqv d e = b) : RV (rNeD K) x y H (.bl (!b)) := fun H1 e1 Q q => ⟨d, e, hx H1 e1, hy H1 e1, s1, s2, by rw [hb]; exact q H1 (Ex.refl _)⟩
/-- lists of texts -/
theorem rv_eqL {x y : V} {xs ys : List Str} {b : Bool} (hx : IsSL H x xs) (hy : IsSL H y ys) (ox : ∀ z ∈ xs, PyData.strOk z = true) (oy : ∀ z ∈ ys, PyData.strOk z = true) (hb : b = true ↔ xs = ys) : RV (rEqD K) x y H (.bl b) :=
  rv_eqE (fun H1 e => (hx.ex e).dp) (fun H1 e => (hy.ex e).dp) (shapedL ox) (shapedL oy) (Bool.eq_iff_iff.mpr ((eqvLi xs ys).trans hb.symm))
theorem rv_neL {x y : V} {xs ys : List Str} {b : Bool} (hx : IsSL H x xs) (hy : IsSL H y ys) (ox : ∀ z ∈ xs, PyData.strOk z = true) (oy : ∀ z ∈ ys, PyData.strOk z = true) (hb : b = true ↔ xs = ys) : RV (rNeD K) x y H (.bl (!b)) :=
  rv_neE (fun H1 e => (hx.ex e).dp) (fun H1 e => (hy.ex e).dp) (shapedL ox) (shapedL oy) (Bool.eq_iff_iff.mpr ((eqvLi xs ys).trans hb.symm))
/-- lists of pairs -/
theorem Ps.dp {l : Addr} {us : List V} {rs : List Pr} (hl : H l = some (.lst us)) (hp : Paired (PairAt H) us rs) : Dp K H (.ref l) (.list (rs.map encP)) := .lst (sq_of hl) (dps (F := PairAt H) (fun _ _ z => z.dp) hp)
theorem rv_eqP {l m : Addr} {us vs : List V} {rs qs : List Pr} {b : Bool} (hl : H l = some (.lst us)) (hp : Paired (PairAt H) us rs) (hm : H m = some (.lst vs)) (hq : Paired (PairAt H) vs qs) (o1 : ∀ r ∈ rs, okP r) (o2 : ∀ r ∈ qs, okP r) (hb : b = true ↔ rs = qs) : RV (rEqD K) (.ref l) (.ref m) H (.bl b) :=
  rv_eqE (fun H1 e => Ps.dp (e _ _ hl) (Paired.imp (fun _ _ z => z.ex e) hp)) (fun H1 e => Ps.dp (e _ _ hm) (Paired.imp (fun _ _ z => z.ex e) hq)) (shapedPs o1) (shapedPs o2) (by rw [PyData.eqv]; exact Bool.eq_iff_iff.mpr ((eqvAll_enc eqvPi rs qs).trans hb.symm))
theorem rv_neP {l m : Addr} {us vs : List V} {rs qs : List Pr} {b : Bool} (hl : H l = some (.lst us)) (hp : Paired (PairAt H) us rs) (hm : H m = some (.lst vs)) (hq : Paired (PairAt H) vs qs) (o1 : ∀ r ∈ rs, okP r) (o2 : ∀ r ∈ qs, okP r) (hb : b = true ↔ rs = qs) : RV (rNeD K) (.ref l) (.ref m) H (.bl (!b)) :=
  rv_neE (fun H1 e => Ps.dp (e _ _ hl) (Paired.imp (fun _ _ z => z.ex e) hp)) (fun H1 e => Ps.dp (e _ _ hm) (Paired.imp (fun _ _ z => z.ex e) hq)) (shapedPs o1) (shapedPs o2) (by rw [PyData.eqv]; exact Bool.eq_iff_iff.mpr ((eqvAll_enc eqvPi rs qs).trans hb.symm))
/-- a field -/
theorem ev_fldI {σ : L2.St} {te : TE} {p C dx v : Addr} {fs : List (Str × V)} {f : Str} (h : Ev te σ H (.ref p)) (hp : H p = some (.ins C dx fs)) (hc : Cls K C) (hn : NoAttr K C f) (hl : fs.lookup f = some (.ref v)) : Ev (tFld K te f) σ H (.ref v) := fun H1 e Q q => h H1 e _ fun H2 e2 => ⟨p, C, dx, _, _, rfl, (e.trans e2) _ _ hp, hc, hn, hl, q H2 e2⟩
theorem ev_isiO {σ : L2.St} {te : TE} {x : V} {C : Addr} {ty : Value} {b : Bool} (h : Ev te σ H x) (hx : ∀ H1, Ex H H1 → TyX K H1 x ty) (hk : PySem.W.kitOne K ty (.ref C) = some b) : Ev (tCB (rIsi K) (tCons te (tCons (tC (.ref C)) tNil))) σ H (.bl b) :=
  ev_cb (ea_cons h (ea_cons ev_c ea_nil)) fun H1 e Q q => ⟨x, .ref C, ty, .ref C, b, rfl, .own C, hx H1 e, hk, q H1 (Ex.refl _)⟩
theorem kit_self {C : Addr} : PySem.W.kitOne K (.ref C) (.ref C) = some true := by
  unfold PySem.W.kitOne
  rw [beq_self_eq_true] <;> rfl
end
section
variable {P : Program} {w : World} {K : PySem.W.Frag} {mg : Str → Option Value} {base : Heap} {a : Nat → Addr} {d : Nat → FuncData} {tk : Nat → Tok} {c ci : Nat → Addr} {di : Nat → FuncData}
def RetSL (xss : List (List Str)) (H : Hp) (Q : VK) : Prop := ∀ r us H2, H r = none → Ex H H2 → H2 r = some (.lst us) → Paired (IsSL H2) us xss → Q (.ref r) H2
def RetSLn (xss : List (List Str)) (H : Hp) (Q : VK) : Prop := ∀ r us H2, H r = none → Ex H H2 → H2 r = some (.lst us) → Paired (SLS (fun a => H a = none) H2) us xss → Q (.ref r) H2
def sp_subsets : Sp := fun vs H Q _ => ∃ (q : Addr) (xs : List Str), vs = [.ref q] ∧ H q = some (.lst (xs.map V.str)) ∧ xs.length ≤ 5 ∧ RetSLn (ordD encL (subsC xs)) H Q
theorem ok_subsets (T : All K mg a d tk c ci di) : FnOk P w K mg base CX0 1 (a 8) (d 8) ["names"] sp_subsets := by
  refine T.F_subsets.fn.ok sc_subsets (fun vs H Q E h => ?_) (fun cdv A outer s H vs Q E hr h => ?_)
  · obtain ⟨q, xs, rfl, _⟩ := h
    rfl
  · obtain ⟨q, xs, rfl, hq, h5, k⟩ := h
    have nd := sc_subsets.nd
    have hu64 := hr.units
    refine ⟨_, (pss_cons (ps_setLc2 (i := 1) (own := [("size", 2), ("some", 3)]) (vs1 := [3]) (g := (gName 2)) (g1 := (gName 3)) rfl nd rfl rfl (sw_true rfl rfl rfl (by decide +kernel)) (pi_range1 rfl T.n_range (pa_cons (pe_op op_add (pe_callB call_len_seq (by rfl) T.n_len PySem.boot_len (pa_cons (pv 0) pa_nil)) pe_int) pa_nil)) (blkOk_by (N := N_subsets) (sc := defScope s_subsets) (by decide +kernel)) (by decide) (fun _ _ _ _ _ => (pg_name (i := 2) nd rfl (Or.inl rfl))) (fun _ _ _ _ _ => pts_nil) (fun _ _ _ _ _ => (pi_comb (K := K) rfl rfl T.c_combinations (pa_cons (pv 0) (pa_cons (pv 2) pa_nil)))) (fun _ _ _ _ _ => (pg_name (i := 3) nd rfl (Or.inl rfl))) (fun _ _ _ _ _ => pts_nil) (fun _ _ _ _ _ => (pe_callTy (show CallR _ (.type "list") (Evl.rListS K) from call_list_of) rfl T.n_list PyProof.Rows.boot_list (pa_cons (pv 3) pa_nil))))
 (pss_one (ps_ret (pe_callB (cr_sortedD hu64) (by rfl) T.n_sorted PyProof.Rows.boot_sorted (pa_cons (pv 1) pa_nil))))), ?_⟩
    refine q_asgI (ei_comb2 (K := K) hq h5 (ea_cons (ev_I0 (g := fun i j => .int (i + j)) (i := (xs.length : Int)) (j := 1) (ev_is (ev_lenS (K := K) (ev_var (i := 0) rfl) (.inl hq)) (by rw [List.length_map])) ev_c) ea_nil)) fun p us H2 hp e2 h2 pp => ?_
    refine ⟨_, rfl, ?_⟩
    dsimp only [tNil]
    refine sortD_use encL (sq_of h2) (Paired.imp (fun _ _ z => z.sl.dp) pp) alikeL (sortL _) depthL fun us' hF pm r hr' => ?_
    exact k r us' _ (fresh_back e2 hr') (e2.trans (Ex.new hr')) upd_same (Paired.imp (fun _ _ z => mv_SL _ _ _ _ _ _ z fun a o s ha => ⟨s.1, Ex.new hr' a o ha⟩) (hF _ pp))
theorem ty_dep (T : All K mg a d tk c ci di) {H : Hp} {p dx : Addr} {fs : List (Str × V)} (h : H p = some (.ins (c 9) dx fs)) : ∀ H1, Ex H H1 → TyX K H1 (.ref p) (.ref (c 9)) := fun _ e => .base (.ins (e _ _ h) T.C_Dependencies T.H_Dependencies T.hn T.ht T.O_Dependencies)
end
end Mv
/-! Lists of lists of texts, filtered; least_keys. -/
namespace Mv
open PySem PySem.Spec PyProof.Rows L2 Evl
def EvSL (te : TE) (σ : L2.St) (H : Hp) (xss : List (List Str)) : Prop := ∀ H1, Ex H H1 → ∀ Q : VK, RetSL xss H1 Q → te σ H1 Q
theorem paired_given {M : Type} {F : V → M → Prop} (dm : M) {us : List V} {ms : List M} (p : M → Bool) (h : Paired F us ms) : ∀ n, n ≤ us.length → Paired F (given n (fun i => p (ms.getD i dm)) (fun i => us.getD i .non)) ((ms.take n).filter p)
  | 0, _ => .nil
  | n + 1, hn => by
    have hl := Paired.length h
    have e1 : ms.take (n + 1) = ms.take n ++ [ms.getD n dm] := by rw [List.take_succ, getD_at (d := dm) (show n < ms.length by omega)] <;> rfl
    have hF : F (us.getD n .non) (ms.getD n dm) := by
      obtain ⟨y, hy, hf⟩ := Paired.at_l h n _ (getD_at (d := .non) (show n < us.length from hn))
      rw [List.getD_eq_getElem?_getD (l := ms), hy]
      exact hf
    have ih := paired_given dm p h n (Nat.le_of_lt hn)
    rw [e1, List.filter_append]
    cases hp : p (ms.getD n dm) with
    | true =>
      rw [given_yes (f := fun i => p (ms.getD i dm)) hp, List.filter_cons, if_pos hp]
      exact Paired.append ih (.cons hF .nil)
    | false =>
      rw [given_no (f := fun i => p (ms.getD i dm)) hp, List.filter_cons, if_neg (by rw [hp]; exact Bool.false_ne_true), List.filter_nil, List.append_nil]
      exact ih
section
variable {K : PySem.W.Frag} {σ : L2.St} {H H' : Hp} {ta tb tl te : TE} {t : TT} {D : Ends} {tz : TS}
theorem RetSL.ex {xss : List (List Str)} {Q : VK} (k : RetSL xss H Q) (e : Ex H H') : RetSL xss H' Q := fun r us H2 hr e2 h2 p => k r us H2 (fresh_back e hr) (e.trans e2) h2 p
theorem es_core {xss : List (List Str)} {us : List V} {r : Addr} {j : Nat} {vs : List Nat} {Q : VK} (h1 : H r = some (.lst us)) (pp : Paired (IsSL H) us xss) (hz : xss.length ≤ 40000) (hw : ∀ x, wipe ((wipe σ vs).set j (some x)) vs = wipe σ vs) (hv : ∀ x, ((wipe σ vs).set j (some x))[j]? = some (some x)) (p : List Str → Bool)
    (ht : ∀ x zs, zs ∈ xss → IsSL H x zs → EvT t ((wipe σ vs).set j (some x)) H (p zs)) (k : RetSL (xss.filter p) H Q) :
    ∀ Dl, H Dl = none → ∃ W : Nat → Nat → Hp → Prop, (∃ m, W 0 m (upd H Dl (.lst []))) ∧ ∀ i m H, W i m H →
      ((Itl K r).stop i H ∧ Q (.ref Dl) H) ∨ ((Itl K r).go i H ∧ ∃ Nx : Hp → Prop, (∀ H', Nx H' → ∃ m', m' < m ∧ W (i + 1) m' H') ∧ ∀ x H', (Itl K r).yld i H x H' → gName j x (wipe σ vs) H' fun σ2 H2 => wipe σ2 vs = wipe σ vs ∧ t σ2 H2 fun b H3 =>
        if b = true then tVar j σ2 H3 fun y H4 => ∃ acc, H4 Dl = some (.lst acc) ∧ acc.length < sizeLine ∧ Nx (upd H4 Dl (.lst (acc ++ [y]))) else Nx H3) := fun Dl hD => by
  have hl := Paired.length pp
  refine lc_list (xs := us) (Cw H (fun i => p (xss.getD i [])) (fun i => us.getD i .non) Dl) ⟨hD, Ex.new hD, upd_same⟩ (fun i H' _ q => sq_of (q.2.1 _ _ h1)) (fun i x H' hi q => ?_) fun H' q => ?_
  · obtain ⟨zs, hzs, hx⟩ := Paired.at_l pp i x hi
    have hil := (List.getElem?_eq_some_iff.mp hi).1
    have ez : xss.getD i [] = zs := by rw [List.getD_eq_getElem?_getD, hzs] <;> rfl
    have ex : us.getD i .non = x := by rw [List.getD_eq_getElem?_getD, hi] <;> rfl
    have z := ht x zs (List.mem_of_getElem? hzs) hx
    rw [← ez] at z
    refine ⟨hw x, cw_turn q (by omega) z fun _ => ?_⟩
    show Ev (tVar j) _ H (us.getD i .non)
    rw [ex]
    exact ev_var (hv x)
  · have z := paired_given (F := IsSL H') [] p (Paired.imp (fun _ _ z => z.ex q.2.1) pp) us.length (Nat.le_refl _)
    rw [hl, List.take_length, ← hl] at z
    exact k Dl _ H' q.1 q.2.1 q.2.2 z
/-- [x for x in a call's lists if ..] -/
theorem es_lcC {xss : List (List Str)} {j : Nat} {vs : List Nat} (h : EvSL tl σ H xss) (hz : xss.length ≤ 40000) (hw : ∀ x, wipe ((wipe σ vs).set j (some x)) vs = wipe σ vs) (hv : ∀ x, ((wipe σ vs).set j (some x))[j]? = some (some x)) (p : List Str → Bool)
    (ht : ∀ x zs H1, Ex H H1 → zs ∈ xss → IsSL H1 x zs → EvT t ((wipe σ vs).set j (some x)) H1 (p zs)) : EvSL (tLc (iList K tl) (gName j) t (tVar j) vs) σ H (xss.filter p) := fun H0 e Q k => h H0 e _ fun r us H1 hr e1 h1 pp =>
  ⟨r, rfl, ⟨us, sq_of h1⟩, es_core h1 pp hz hw hv p (fun x zs hm hx => ht x zs H1 (e.trans e1) hm hx) (k.ex e1)⟩
theorem es_lcV {xss : List (List Str)} {us : List V} {r : Addr} {j : Nat} {vs : List Nat} (h : Ev tl σ H (.ref r)) (h1 : H r = some (.lst us)) (pp : Paired (IsSL H) us xss) (hz : xss.length ≤ 40000) (hw : ∀ x, wipe ((wipe σ vs).set j (some x)) vs = wipe σ vs) (hv : ∀ x, ((wipe σ vs).set j (some x))[j]? = some (some x)) (p : List Str → Bool)
    (ht : ∀ x zs H1, Ex H H1 → zs ∈ xss → IsSL H1 x zs → EvT t ((wipe σ vs).set j (some x)) H1 (p zs)) : EvSL (tLc (iList K tl) (gName j) t (tVar j) vs) σ H (xss.filter p) := fun H0 e Q k => h H0 e _ fun H1 e1 =>
  ⟨r, rfl, ⟨us, sq_of ((e.trans e1) _ _ h1)⟩, es_core ((e.trans e1) _ _ h1) (Paired.imp (fun _ _ z => z.ex (e.trans e1)) pp) hz hw hv p (fun x zs hm hx => ht x zs H1 (e.trans e1) hm hx) (k.ex e1)⟩
theorem q_asgSL {i : Nat} {xss : List (List Str)} (h : EvSL te σ H xss) (k : ∀ r us H1, H r = none → Ex H H1 → H1 r = some (.lst us) → Paired (IsSL H1) us xss → tz D (σ.set i (some (.ref r))) H1) : tSeq (tAsg te (gName i)) tz D σ H := h H (Ex.refl H) _ k
theorem s_retSL {xss : List (List Str)} (h : EvSL te σ H xss) (k : RetSL xss H D.rt) : tRet te D σ H := h H (Ex.refl H) _ k
/-- lists of bools -/
theorem eb_lcV {xss : List (List Str)} {us : List V} {r : Addr} {j : Nat} {vs : List Nat} (h : Ev tl σ H (.ref r)) (h1 : H r = some (.lst us)) (pp : Paired (IsSL H) us xss) (hz : xss.length ≤ 40000) (hw : ∀ x, wipe ((wipe σ vs).set j (some x)) vs = wipe σ vs) (p : List Str → Bool)
    (he : ∀ x zs H1, Ex H H1 → zs ∈ xss → IsSL H1 x zs → Ev te ((wipe σ vs).set j (some x)) H1 (.bl (p zs))) : EvL (tLc (iList K tl) (gName j) tYes te vs) σ H ((xss.map p).map V.bl) := by
  have hl := Paired.length pp
  have z := el_lcL (K := K) (t := tYes) (te := te) (xs := us) (fun _ => true) (fun i => V.bl (p (xss.getD i []))) h (sq_of h1) (by omega) hw (fun _ _ _ _ _ => et_yes) (fun i x H1 e1 hi _ => by
    obtain ⟨zs, hzs, hx⟩ := Paired.at_l pp i x hi
    have ez : xss.getD i [] = zs := by rw [List.getD_eq_getElem?_getD, hzs] <;> rfl
    rw [ez]
    exact he x zs H1 e1 (List.mem_of_getElem? hzs) (hx.ex e1))
  have e : given us.length (fun _ => true) (fun i => V.bl (p (xss.getD i []))) = (xss.map p).map V.bl := by
    unfold given
    rw [filter_true, hl, range_getD [] (fun zs => V.bl (p zs)) xss, List.map_map] <;> rfl
  rw [e] at z
  exact z
theorem ev_anyN {bs : List Bool} (h : EvL te σ H (bs.map V.bl)) : Ev (tCB (rAny K) (tCons te tNil)) σ H (.bl (bs.any id)) := fun H1 e Q q =>
  h H1 e _ fun p H2 _ e2 hp => ⟨p, bs, rfl, sq_of hp, q H2 e2⟩
/-- a new list against a thing -/
theorem ev_opL {xs : List V} {y z : V} {r : R2} (ha : EvL ta σ H xs) (hb : ∀ H1, Ex H H1 → Ev tb σ H1 y) (hr : ∀ p H1, Ex H H1 → H1 p = some (.lst xs) → RV r (.ref p) y H1 z) : Ev (tOp r ta tb) σ H z := fun H1 e Q q => ha H1 e _ fun p H2 _ e2 h2 => hb H2 (e.trans e2) H2 (Ex.refl _) _ fun H3 e3 => hr p H3 ((e.trans e2).trans e3) (e3 _ _ h2) H3 (Ex.refl _) Q fun H4 e4 => q H4 ((e2.trans e3).trans e4)
/-- two new lists -/
theorem ev_opLL {xs ys : List V} {z : V} {r : R2} (ha : EvL ta σ H xs) (hb : ∀ H1, Ex H H1 → EvL tb σ H1 ys) (hr : ∀ p q H1, Ex H H1 → H1 p = some (.lst xs) → H1 q = some (.lst ys) → RV r (.ref p) (.ref q) H1 z) : Ev (tOp r ta tb) σ H z := fun H1 e Q q => ha H1 e _ fun p H2 _ e2 h2 => hb H2 (e.trans e2) H2 (Ex.refl _) _ fun p' H3 _ e3 h3 => hr p p' H3 ((e.trans e2).trans e3) (e3 _ _ h2) h3 H3 (Ex.refl _) Q fun H4 e4 => q H4 ((e2.trans e3).trans e4)
theorem el_lcLf {a : Addr} {xs : List V} {j : Nat} {vs : List Nat} (f : V → Bool) (g : V → V) (h : Ev tl σ H (.ref a)) (hx : H a = some (.lst xs)) (hz : xs.length ≤ 40000) (hw : ∀ x, wipe ((wipe σ vs).set j (some x)) vs = wipe σ vs)
    (ht : ∀ (x : V) H1, Ex H H1 → x ∈ xs → EvT t ((wipe σ vs).set j (some x)) H1 (f x)) (he : ∀ (x : V) H1, Ex H H1 → x ∈ xs → f x = true → Ev te ((wipe σ vs).set j (some x)) H1 (g x)) : EvL (tLc (iList K tl) (gName j) t te vs) σ H ((xs.filter f).map g) := by
  have hm : ∀ i x, xs[i]? = some x → xs.getD i .non = x := fun i x e => by rw [List.getD_eq_getElem?_getD, e] <;> rfl
  have z := el_lcL (K := K) (t := t) (te := te) (xs := xs) (fun i => f (xs.getD i .non)) (fun i => g (xs.getD i .non)) h (sq_of hx) hz hw (fun i x H1 e1 hi => by rw [hm i x hi]; exact ht x H1 e1 (List.mem_of_getElem? hi)) (fun i x H1 e1 hi hf => by
    rw [hm i x hi] at hf ⊢
    exact he x H1 e1 (List.mem_of_getElem? hi) hf)
  rw [given_eq] at z
  exact z
/-- [z for z in xs if z not in ys] == [] -/
theorem ev_subNil {p q : Addr} {xs ys : List Str} {j : Nat} {vs : List Nat} (h : Ev tl σ H (.ref p)) (hp : H p = some (.lst (xs.map V.str))) (hq : H q = some (.lst (ys.map V.str))) (hz : xs.length ≤ 1000) (ox : ∀ z ∈ xs, PyData.strOk z = true) (oy : ∀ z ∈ ys, PyData.strOk z = true) (hw : ∀ x, wipe ((wipe σ vs).set j (some x)) vs = wipe σ vs) (hv : ∀ x, ((wipe σ vs).set j (some x))[j]? = some (some x)) (hb : ∀ x H1, Ex H H1 → Ev tb ((wipe σ vs).set j (some x)) H1 (.ref q)) :
    Ev (tOp (rNilEq K false) (tLc (iList K tl) (gName j) (tTest (tOp (rNotInD K) (tVar j) tb)) (tVar j) vs) (tLst tNil)) σ H (.bl (xs.all fun z => decide (z ∈ ys))) := by
  refine ev_is (ev_eqNilN (el_lcLf (K := K) (fun x => !decide (strOf x ∈ ys)) id h hp (by rw [List.length_map]; omega) hw (fun x H1 e1 hm => ?_) fun x H1 e1 _ _ => ev_var (hv x))) ?_
  · obtain ⟨z, hzm, rfl⟩ := List.mem_map.mp hm
    exact et_test (ev_op (ev_var (hv _)) (hb _ H1 e1) (rv_ninStrs (e1 _ _ hq) (ox z hzm) oy))
  · congr 1
    rw [List.map_id, Bool.eq_iff_iff, List.isEmpty_iff, List.filter_eq_nil_iff, List.all_eq_true]
    constructor
    · intro hh z hzm
      have := hh (V.str z) (List.mem_map.mpr ⟨z, hzm, rfl⟩)
      have e : strOf (V.str z) = z := rfl
      rw [e] at this
      cases hd : decide (z ∈ ys) with
      | true => rfl
      | false =>
        rw [hd] at this
        exact absurd rfl this
    · intro hh x hx
      obtain ⟨z, hzm, rfl⟩ := List.mem_map.mp hx
      have e : strOf (V.str z) = z := rfl
      rw [e, hh z hzm]
      exact Bool.false_ne_true
end
/-! the keys, plain -/
def allIn (o s : List Str) : Bool := o.all fun z => decide (z ∈ s)
def wideOf (f : List Str → List Str) (known : List Str) (ss : List (List Str)) : List (List Str) := ss.filter fun s => decide (f s = known)
def leastOf (ws : List (List Str)) : List (List Str) := ws.filter fun s => !(ws.any fun o => !decide (o = s) && allIn o s)
def keysP (zs : List Str) (rs : List Pr) : List (List Str) := leastOf (wideOf (clo rs) (srtS zs) (ordD encL (subsC (srtS zs))))
theorem srtS_len (zs : List Str) : (srtS zs).length = zs.length := ordD_length zs
theorem srtS_mem {zs : List Str} {z : Str} : z ∈ srtS zs ↔ z ∈ zs := ordD_mem
theorem plC_in : ∀ n, n ≤ 5 → ∀ c ∈ plC n, (∀ j ∈ c, j < n) ∧ c.Nodup := by decide +kernel
theorem nodup_len {α : Type} [BEq α] [LawfulBEq α] : ∀ {xs ys : List α}, xs.Nodup → (∀ x ∈ xs, x ∈ ys) → xs.length ≤ ys.length
  | [], _, _, _ => Nat.zero_le _
  | x :: xs, ys, nd, h => by
    have hx := h x List.mem_cons_self
    have z := nodup_len (xs := xs) (ys := ys.erase x) (List.nodup_cons.mp nd).2 fun y hy => (List.mem_erase_of_ne (show y ≠ x from fun e => (List.nodup_cons.mp nd).1 (by rw [← e]; exact hy))).mpr (h y (List.mem_cons_of_mem _ hy))
    rw [List.length_erase_of_mem hx] at z
    have : 0 < ys.length := List.length_pos_of_mem hx
    rw [List.length_cons]
    omega
theorem subsC_mem {xs s : List Str} (h5 : xs.length ≤ 5) (nd : xs.Nodup) (h : s ∈ subsC xs) : (∀ z ∈ s, z ∈ xs) ∧ s.Nodup ∧ s.length ≤ 5 := by
  obtain ⟨c, hc, rfl⟩ := List.mem_map.mp h
  obtain ⟨h1, h2⟩ := plC_in xs.length h5 c hc
  have hn : (atS xs c).Nodup := by
    unfold atS
    rw [List.nodup_iff_pairwise_ne, List.pairwise_map]
    refine List.Pairwise.imp_of_mem (fun {i j} hi hj ne e => ne ?_) (List.nodup_iff_pairwise_ne.mp h2)
    have li := h1 i hi
    have lj := h1 j hj
    rw [List.getD_eq_getElem?_getD, List.getD_eq_getElem?_getD, List.getElem?_eq_getElem li, List.getElem?_eq_getElem lj] at e
    exact (List.getElem_inj nd).mp e
  have hs : ∀ z ∈ atS xs c, z ∈ xs := fun z hz => by
    obtain ⟨j, hj, rfl⟩ := List.mem_map.mp hz
    exact getD_mem (h1 j hj)
  refine ⟨hs, hn, ?_⟩
  exact Nat.le_trans (nodup_len hn hs) h5
theorem subsC_len {xs : List Str} (h5 : xs.length ≤ 5) : (subsC xs).length ≤ 40 := by
  unfold subsC
  rw [List.length_map]
  exact combs_few _ h5
section
variable {P : Program} {w : World} {K : PySem.W.Frag} {mg : Str → Option Value} {base : Heap} {a : Nat → Addr} {d : Nat → FuncData} {tk : Nat → Tok} {c ci : Nat → Addr} {di : Nat → FuncData}
end
end Mv
/-! The law's own closures and lists. -/
namespace Mv
open PySem PySem.Spec PyProof.Rows L2 Evl Cmb
theorem Mid.perm {rs : List Pr} {cs f f' : List Str} (h : Mid rs cs f) (p : f'.Perm f) : Mid rs cs f' := ⟨fun z hz => p.mem_iff.mpr (h.sub z hz), fun S h1 h2 z hz => h.low S h1 h2 z (p.mem_iff.mp hz), p.nodup_iff.mpr h.nd⟩
def plL : Nat → List (List Nat)
  | 0 => [[]]
  | n + 1 => plL n ++ (plL n).map (· ++ [n])
def lawS (xs : List Str) : List (List Str) := (plL xs.length).map (atS xs)
def nrm (r : Pr) : Pr := (srtS r.1, r.2)
def dd : List Pr → List Pr → List Pr
  | acc, [] => acc
  | acc, r :: rs => dd (if r ∈ acc then acc else acc ++ [r]) rs
def dueP (rs : List Pr) : List Pr := ordD encP (dd [] (rs.map nrm))
def keysL (cs : List Str) (rs : List Pr) : List (List Str) := ordD encL (leastOf (wideOf (clo rs) (srtS cs) (lawS (srtS cs))))
section
variable {K : PySem.W.Frag} {σ : L2.St} {H H' : Hp} {ta tb tl te : TE} {t : TT} {D : Ends} {tz : TS} {M : Type} {It : ItP M}
/-- l + [x], texts -/
theorem em_cat1 {q : Addr} {zs : List Str} {z : Str} (h : Ev ta σ H (.ref q)) (hq : H q = some (.lst (zs.map V.str))) (hl : zs.length ≤ 1000) (hb : ∀ H1, Ex H H1 → Ev tb σ H1 (.str z)) : EvM (tOp rCat ta (tLst (tCons tb tNil))) σ H SLS (zs ++ [z]) := fun H1 e Q k => h H1 e _ fun H2 e2 => hb H2 (e.trans e2) H2 (Ex.refl _) _ fun H3 e3 => ⟨sz_of (show 1 ≤ 100000 by decide), fun l hl' =>
  ⟨q, l, zs.map V.str, [.str z], rfl, rfl, (Ex.new hl') _ _ (((e.trans e2).trans e3) _ _ hq), upd_same, sz_of (by rw [List.length_map, List.length_singleton]; omega), fun p hp => by
    have e4 := ((e2.trans e3).trans (Ex.new (o := .lst [.str z]) hl')).trans (Ex.new (o := .lst (zs.map V.str ++ [.str z])) hp)
    exact k _ _ e4 ⟨p, rfl, fresh_back ((e2.trans e3).trans (Ex.new hl')) hp, by rw [upd_same, List.map_append] <;> rfl⟩⟩⟩
/-- x = found + [..], the elements new -/
theorem s_asgCat {i : Nat} {r : Addr} {us : List V} {ms : List M} (hv : MvP It) (h1 : Ev ta σ H (.ref r)) (hr : H r = some (.lst us)) (h2 : EvI tb σ H It ms) (hz : us.length + ms.length ≤ 40000) (k : ∀ q vs H1, H q = none → Ex H H1 → H1 q = some (.lst (us ++ vs)) → Paired (It (fun a => H a = none) H1) vs ms → D.nx (σ.set i (some (.ref q))) H1) :
    tAsg (tOp rCat ta tb) (gName i) D σ H := h1 H (Ex.refl H) _ fun H1 e1 => h2 H1 e1 _ fun p vs H2 hp e2 hp2 pp => by
  have hl := Paired.length pp
  refine ⟨r, p, us, vs, rfl, rfl, (e1.trans e2) _ _ hr, hp2, sz_of (by omega), fun q hq => ?_⟩
  have e3 : Ex H2 (upd H2 q (.lst (us ++ vs))) := Ex.new hq
  exact k q vs _ (fresh_back (e1.trans e2) hq) ((e1.trans e2).trans e3) upd_same (Paired.imp (fun _ _ z => hv _ _ _ _ _ _ z fun a o s ha => ⟨fresh_back e1 s.1, e3 _ _ ha⟩) pp)
/-- sorted(l), texts -/
theorem em_sorted {q : Addr} {zs : List Str} (h : Ev ta σ H (.ref q)) (hq : Seq H q (zs.map V.str)) (hl : zs.length < 64) : EvM (tCB (rSortedSS K) (tCons ta tNil)) σ H SLS (srtS zs) := fun H1 e Q k => h H1 e _ fun H2 e2 => ⟨q, zs, rfl, (hq.ex (e.trans e2)).sq, hl, fun ys l py sy hl' => by
  rw [srtS_eq py sy]
  exact k _ _ (e2.trans (Ex.new hl')) ⟨l, rfl, fresh_back e2 hl', upd_same⟩⟩
theorem et_ninM {r : Pr} {f : Addr} {us : List V} {rs : List Pr} {b : Bool} (h : EvM te σ H PairS r) (hb : ∀ H1, Ex H H1 → Ev ta σ H1 (.ref f)) (hf : H f = some (.lst us)) (hp : Paired (PairAt H) us rs) (o1 : okP r) (o2 : ∀ r ∈ rs, okP r) (e0 : b = true ↔ r ∈ rs) : EvT (tTest (tOp (rNotInD K) te ta)) σ H (!b) := et_test fun H1 e Q q => h H1 e _ fun v H2 e2 hv => hb H2 (e.trans e2) H2 (Ex.refl _) _ fun H3 e3 =>
  rv_ninE (K := K) (enc := encP) (fun H4 e4 => (hv.at'.ex (e3.trans e4)).dp) (((e.trans e2).trans e3) _ _ hf) (fun H4 e4 => dps (F := PairAt H4) (fun _ _ z => z.dp) (Paired.imp (fun _ _ z => z.ex (((e.trans e2).trans e3).trans e4)) hp)) eqvPi (shapedP1 o1) (shapedPs o2) e0 H3 (Ex.refl _) Q fun H4 e4 => q H4 ((e2.trans e3).trans e4)
theorem s_appM {l : Addr} {xs : List V} {m : M} (hl : H l = some (.lst xs)) (ha : Ev ta σ H (.ref l)) (h : EvM te σ H It m) (hz : xs.length < 100000) (k : ∀ v H1, Ex H H1 → (∃ H0, Ex H H0 ∧ It (fun a => H0 a = none) H1 v m) → D.nx σ (upd H1 l (.lst (xs ++ [v])))) :
    tDrop (tBM K "list" rAppend ta (tCons te tNil)) D σ H := ha H (Ex.refl H) _ fun H1 e1 =>
  ⟨Or.inl ⟨rfl, xs, sq_of (e1 l _ hl)⟩, h H1 e1 _ fun v H2 e2 hv => ⟨l, xs, v, rfl, rfl, e2 l _ (e1 l _ hl), sz_lt hz, k v H2 (e1.trans e2) ⟨H1, e1, hv⟩⟩⟩
end
section
variable {P : Program} {w : World} {K : PySem.W.Frag} {mg : Str → Option Value} {base : Heap} {a : Nat → Addr} {d : Nat → FuncData} {tk : Nat → Tok} {c ci : Nat → Addr} {di : Nat → FuncData}
/-! _law_closed -/
/-! _law_subsets -/
theorem plL_few : ∀ n, n ≤ 5 → (plL n).length ≤ 40 := by decide +kernel
theorem plL_in : ∀ n, n ≤ 5 → ∀ c ∈ plL n, c.length ≤ 5 ∧ ∀ j ∈ c, j < n := by decide +kernel
def sp__law_subsets : Sp := fun vs H Q _ => ∃ (q : Addr) (xs : List Str), vs = [.ref q] ∧ H q = some (.lst (xs.map V.str)) ∧ xs.length ≤ 5 ∧ RetSLn (lawS xs) H Q
theorem ok__law_subsets (T : All K mg a d tk c ci di) : FnOk P w K mg base CX0 1 (a 23) (d 23) ["names"] sp__law_subsets := by
  refine T.F__law_subsets.fn.ok sc__law_subsets (fun vs H Q E h => ?_) (fun cdv A outer s H vs Q E hr h => ?_)
  · obtain ⟨q, xs, rfl, _⟩ := h
    rfl
  · obtain ⟨q, xs, rfl, hq, h5, k⟩ := h
    have nd := sc__law_subsets.nd
    refine ⟨_, (pss_cons (ps_set (i := 1) nd rfl (Or.inl rfl) (pe_lst (pa_cons (pe_lst pa_nil) pa_nil)))
 (pss_cons (ps_for PassesOwn.never rfl (pi_list (pv 0)) (pg_name (i := 2) nd rfl (Or.inr rfl))
 (pss_one (ps_set (i := 1) nd rfl (Or.inl rfl) (pe_op op_cat (pv 1) (pe_lc (own := [("some", 3)]) (g := (gName 3)) rfl nd (pi_list (pv 1)) (blkOk_by (N := N__law_subsets) (sc := defScope s__law_subsets) (by decide +kernel)) (fun _ _ _ _ _ => (pg_name (i := 3) nd rfl (Or.inl rfl))) (fun _ _ _ _ _ => pts_nil) (fun _ _ _ _ _ => (pe_op op_cat (pv 3) (pe_lst (pa_cons (pv 2) pa_nil)))))))))
 (pss_one (ps_ret (pv 1))))), ?_⟩
    refine ⟨sz_of (show 0 ≤ 100000 by decide), fun l0 hl0 => ⟨sz_of (show 1 ≤ 100000 by decide), fun r0 hr0 => ?_⟩⟩
    have eA : Ex H (upd H l0 (.lst [])) := Ex.new hl0
    have eB : Ex (upd H l0 (.lst [])) (upd (upd H l0 (.lst [])) r0 (.lst [.ref l0])) := Ex.new hr0
    let Pv : Nat → L2.St → Hp → Prop := fun i σ' H' => Ex H H' ∧ ∃ (r : Addr) (us : List V) (v2 : Option V), H r = none ∧ H' r = some (.lst us) ∧ Paired (SLS (fun a => H a = none) H') us ((plL i).map (atS xs)) ∧ σ' = [some (.ref q), some (.ref r), v2, none]
    refine q_forLn (K := K) (ev_var (i := 0) rfl) (sq_of ((eA.trans eB) _ _ hq)) Pv (fun H1 e => ⟨(eA.trans eB).trans e, r0, [.ref l0], _, fresh_back eA hr0, e _ _ upd_same, .cons ⟨l0, rfl, hl0, e _ _ (eB _ _ upd_same)⟩ .nil, rfl⟩) (fun i σ' H' _ z => sq_of (z.1 _ _ hq)) ?_ ?_
    · rintro i x σ' H' hi ⟨e', r, us, v2, hr', h1, pp, rfl⟩
      obtain ⟨hil, hig⟩ := List.getElem?_eq_some_iff.mp hi
      rw [List.length_map] at hil
      rw [List.getElem_map] at hig
      subst hig
      have hlu := Paired.length pp
      have hfew := plL_few i (by omega)
      have hlu2 : us.length ≤ 40 := by
        rw [List.length_map] at hlu
        omega
      have hin : ∀ j, j < us.length → (((plL i).map (atS xs)).getD j []).length ≤ 5 := fun j hj => by
        obtain ⟨c, hc, e⟩ := List.mem_map.mp (getD_mem (d := []) (show j < ((plL i).map (atS xs)).length by omega))
        rw [← e]
        unfold atS
        rw [List.length_map]
        exact (plL_in i (by omega) c hc).1
      refine s_asgCat (M := List Str) mv_SL (ev_var (i := 1) rfl) h1 (ei_lcN (K := K) (σ := [some (.ref q), some (.ref r), some (.str xs[i]), none]) (H := H') (j := 3) (vs := [3]) mv_SL (ev_var (i := 1) rfl) h1 (by omega) (fun _ => rfl) (fun j => ((plL i).map (atS xs)).getD j [] ++ [xs[i]]) fun j y hy => ?_) (by rw [List.length_map, List.length_range]; omega) fun r2 vs H2 hr2 e2 h2 pv => ?_
      · obtain ⟨zs, hzs, yl, rfl, _, hyl⟩ := Paired.at_l pp j y hy
        have hj := (List.getElem?_eq_some_iff.mp hy).1
        have ez : ((plL i).map (atS xs)).getD j [] = zs := by rw [List.getD_eq_getElem?_getD, hzs] <;> rfl
        have hz5 := hin j hj
        rw [ez] at hz5 ⊢
        exact em_cat1 (ev_var (i := 3) rfl) hyl (by omega) fun H3 e3 => ev_var (i := 2) rfl
      · have em : (List.range us.length).map (fun j => ((plL i).map (atS xs)).getD j [] ++ [xs[i]]) = ((plL i).map (· ++ [i])).map (atS xs) := by
          rw [hlu, range_getD [] (fun zs => zs ++ [xs[i]]) ((plL i).map (atS xs)), List.map_map, List.map_map]
          refine List.map_congr_left fun c hc => ?_
          show atS xs c ++ [xs[i]] = atS xs (c ++ [i])
          unfold atS
          rw [List.map_append, List.map_cons, List.map_nil]
          congr 1
          rw [List.getD_eq_getElem?_getD, List.getElem?_eq_getElem hil] <;> rfl
        rw [em] at pv
        refine ⟨e'.trans e2, r2, us ++ vs, _, fresh_back e' hr2, h2, ?_, rfl⟩
        show Paired (SLS (fun a => H a = none) H2) (us ++ vs) ((plL i ++ (plL i).map (· ++ [i])).map (atS xs))
        rw [List.map_append]
        exact Paired.append (Paired.imp (fun _ _ z => mv_SL _ _ _ _ _ _ z fun a o s ha => ⟨s, e2 _ _ ha⟩) pp) (Paired.imp (fun _ _ z => mv_SL _ _ _ _ _ _ z fun a o s ha => ⟨fresh_back e' s, ha⟩) pv)
    · rintro σ' H' ⟨e', r, us, v2, hr', h1, pp, rfl⟩
      rw [List.length_map] at pp
      exact s_ret (ev_var (i := 1) rfl) fun H2 e2 => k r us H2 hr' (e'.trans e2) (e2 _ _ h1) (Paired.imp (fun _ _ z => mv_SL _ _ _ _ _ _ z fun a o s ha => ⟨s, e2 _ _ ha⟩) pp)
end
end Mv
/-! The law's own pairs and keys. -/
namespace Mv
open PySem PySem.Spec PyProof.Rows L2 Evl Cmb
def RetPs (rs : List Pr) (H : Hp) (Q : VK) : Prop := ∀ r us H2, H r = none → Ex H H2 → H2 r = some (.lst us) → Paired (PairAt H2) us rs → Q (.ref r) H2
theorem RetPs.ex {rs : List Pr} {H H' : Hp} {Q : VK} (k : RetPs rs H Q) (e : Ex H H') : RetPs rs H' Q := fun r us H2 hr e2 h2 p => k r us H2 (fresh_back e hr) (e.trans e2) h2 p
theorem okP_nrm {r : Pr} (h : okP r) : okP (nrm r) := ⟨fun z hz => h.1 z (srtS_mem.mp hz), h.2.1, by show (srtS r.1).length ≤ 100; rw [srtS_len]; exact h.2.2⟩
theorem isEmpty_filter {α : Type} (p : α → Bool) (l : List α) : (l.filter p).isEmpty = !(l.any p) := by
  rw [Bool.eq_iff_iff, List.isEmpty_iff, List.filter_eq_nil_iff, Bool.not_eq_true', List.any_eq_false]
section
variable {K : PySem.W.Frag} {σ : L2.St} {H H' : Hp} {ta tb tl te : TE} {t : TT}
theorem s_ret1 {r : List V → Hp → VK → Prop} {D : Ends} (h : te σ H (fun v H1 => r [v] H1 D.rt)) : tRet (tCB r (tCons te tNil)) D σ H := h
theorem ev_eqNilSL {xss : List (List Str)} (h : EvSL ta σ H xss) : Ev (tOp (rNilEq K false) ta (tLst tNil)) σ H (.bl xss.isEmpty) := fun H1 e Q q => h H1 e _ fun r us H2 hr e2 h2 pp => ⟨sz_of (show 0 ≤ 100000 by decide), fun l hl => ⟨r, l, us, rfl, rfl, sq_of ((Ex.new hl) _ _ h2), sq_of upd_same, by
  have e0 : us.isEmpty = xss.isEmpty := by
    have := Paired.length pp
    cases us <;> cases xss <;> first | rfl | simp at this
  show Q (V.bl us.isEmpty) _
  rw [e0]
  exact q _ (e2.trans (Ex.new hl))⟩⟩
theorem el_sortedS {q : Addr} {zs : List Str} (h : Ev ta σ H (.ref q)) (hq : H q = some (.lst (zs.map V.str))) (hl : zs.length < 64) : EvL (tCB (rSortedS K) (tCons ta tNil)) σ H ((srtS zs).map V.str) := fun H1 e Q k => h H1 e _ fun H2 e2 => ⟨q, zs, rfl, sq_of ((e.trans e2) _ _ hq), hl, fun ys l py sy hl' => by
  rw [srtS_eq py sy]
  exact k _ _ (fresh_back e2 hl') (e2.trans (Ex.new hl')) upd_same⟩
end
section
variable {P : Program} {w : World} {K : PySem.W.Frag} {mg : Str → Option Value} {base : Heap} {a : Nat → Addr} {d : Nat → FuncData} {tk : Nat → Tok} {c ci : Nat → Addr} {di : Nat → FuncData}
theorem lawS_mem {xs s : List Str} (h5 : xs.length ≤ 5) (h : s ∈ lawS xs) : (∀ z ∈ s, z ∈ xs) ∧ s.length ≤ 5 := by
  obtain ⟨c, hc, rfl⟩ := List.mem_map.mp h
  obtain ⟨h1, h2⟩ := plL_in xs.length h5 c hc
  refine ⟨fun z hz => ?_, by unfold atS; rw [List.length_map]; exact h1⟩
  obtain ⟨j, hj, rfl⟩ := List.mem_map.mp hz
  exact getD_mem (h2 j hj)
theorem plLC : ∀ n, n ≤ 5 → (plL n).isPerm (plC n) = true := by decide +kernel
theorem lawS_perm {xs : List Str} (h5 : xs.length ≤ 5) : (lawS xs).Perm (subsC xs) := (List.isPerm_iff.mp (plLC xs.length h5)).map _
theorem lawS_nodup {xs s : List Str} (h5 : xs.length ≤ 5) (nd : xs.Nodup) (h : s ∈ lawS xs) : s.Nodup := (subsC_mem h5 nd ((lawS_perm h5).mem_iff.mp h)).2.1
theorem lawS_len {xs : List Str} (h5 : xs.length ≤ 5) : (lawS xs).length ≤ 40 := by
  unfold lawS
  rw [List.length_map]
  exact plL_few _ h5
end
/-! the two agree -/
theorem leastOf_ord (ws : List (List Str)) : leastOf (ordD encL ws) = ordD encL (leastOf ws) := by
  unfold leastOf
  rw [← ordD_filter injL]
  refine List.filter_congr fun s _ => ?_
  congr 1
  rw [Bool.eq_iff_iff, List.any_eq_true, List.any_eq_true]
  exact ⟨fun ⟨o, h1, h2⟩ => ⟨o, ordD_mem.mp h1, h2⟩, fun ⟨o, h1, h2⟩ => ⟨o, ordD_mem.mpr h1, h2⟩⟩
theorem wideOf_ord (f : List Str → List Str) (known : List Str) (ss : List (List Str)) : wideOf f known (ordD encL ss) = ordD encL (wideOf f known ss) := ordD_filter injL _ _
theorem leastOf_perm {ws vs : List (List Str)} (p : ws.Perm vs) : (leastOf ws).Perm (leastOf vs) := by
  unfold leastOf
  have e : (fun s => !(ws.any fun o => !decide (o = s) && allIn o s)) = fun s => !(vs.any fun o => !decide (o = s) && allIn o s) := by
    funext s
    congr 1
    rw [Bool.eq_iff_iff, List.any_eq_true, List.any_eq_true]
    exact ⟨fun ⟨o, h1, h2⟩ => ⟨o, p.mem_iff.mp h1, h2⟩, fun ⟨o, h1, h2⟩ => ⟨o, p.mem_iff.mpr h1, h2⟩⟩
  rw [e]
  exact p.filter _
theorem keys_same {zs : List Str} {rs rs' : List Pr} (h5 : zs.length ≤ 5) (nd : zs.Nodup) (he : ∀ S, Closed rs S ↔ Closed rs' S) : keysP zs rs = keysL zs rs' := by
  have l5s : (srtS zs).length ≤ 5 := by rw [srtS_len]; exact h5
  have nds : (srtS zs).Nodup := ordD_nodup nd
  unfold keysP keysL
  rw [wideOf_ord, leastOf_ord]
  refine ordD_congr injL (leastOf_perm ?_)
  unfold wideOf
  refine List.Perm.trans ?_ (((lawS_perm l5s).symm).filter _)
  refine List.Perm.of_eq (List.filter_congr fun s hs => ?_)
  have ns := (subsC_mem l5s nds hs).2.1
  rw [clo_congr ns ns he fun _ => Iff.rfl]
/-! the pairs -/
theorem dd_mem : ∀ (rs acc : List Pr) (r : Pr), r ∈ dd acc rs ↔ r ∈ acc ∨ r ∈ rs
  | [], acc, r => by simp [dd]
  | x :: rs, acc, r => by
    rw [dd, dd_mem rs]
    by_cases h : x ∈ acc
    · rw [if_pos h, List.mem_cons]
      constructor
      · rintro (h1 | h1)
        · exact .inl h1
        · exact .inr (.inr h1)
      · rintro (h1 | h1 | h1)
        · exact .inl h1
        · exact .inl (h1 ▸ h)
        · exact .inr h1
    · rw [if_neg h, List.mem_append, List.mem_singleton, List.mem_cons, or_assoc]
theorem dd_nodup : ∀ (rs acc : List Pr), acc.Nodup → (dd acc rs).Nodup
  | [], _, h => h
  | x :: rs, acc, h => by
    rw [dd]
    by_cases hx : x ∈ acc
    · rw [if_pos hx]
      exact dd_nodup rs acc h
    · rw [if_neg hx]
      refine dd_nodup rs _ (List.nodup_append.mpr ⟨h, List.pairwise_singleton _ _, fun a ha b hb e => ?_⟩)
      rw [List.mem_singleton.mp hb] at e
      exact hx (e ▸ ha)
theorem dueP_mem {rs : List Pr} {r : Pr} : r ∈ dueP rs ↔ r ∈ rs.map nrm := by
  unfold dueP
  rw [ordD_mem, dd_mem]
  simp
theorem dueP_congr {rs qs : List Pr} (h : ∀ r, r ∈ rs.map nrm ↔ r ∈ qs.map nrm) : dueP rs = dueP qs := by
  refine ordD_congr injP ((List.perm_ext_iff_of_nodup (dd_nodup _ _ List.nodup_nil) (dd_nodup _ _ List.nodup_nil)).mpr fun r => ?_)
  rw [dd_mem, dd_mem, h r]
theorem closed_due (rs : List Pr) (S : List Str) : Closed (dueP rs) S ↔ Closed rs S := by
  constructor
  · intro h r hr hy
    exact h (nrm r) (dueP_mem.mpr (List.mem_map.mpr ⟨r, hr, rfl⟩)) fun y hy' => hy y (srtS_mem.mp hy')
  · intro h r hr hy
    obtain ⟨q, hq, rfl⟩ := List.mem_map.mp (dueP_mem.mp hr)
    exact h q hq fun y hy' => hy y (srtS_mem.mpr hy')
end Mv
/-! The law's drawn pairs. -/
namespace Mv
open PySem PySem.Spec PyProof.Rows L2 Evl
/-- a pair as the law draws it -/
structure RawP (zs : List Str) (r : Pr) : Prop where
  sub : ∀ z ∈ r.1, z ∈ zs
  nd : r.1.Nodup
  l3 : r.1.length ≤ 3
  rz : r.2 ∈ zs
  rn : r.2 ∉ r.1
theorem cutV_mid (xs : List V) (s : Nat) (h : 1 + s ≤ xs.length) : cutV xs (some 1) (some ((1 : Int) + (s : Int))) = (xs.drop 1).take s := by
  have e : ((1 : Int) + (s : Int)) = ((1 + s : Nat) : Int) := by omega
  rw [e]
  show cutV xs (some ((1 : Nat) : Int)) (some ((1 + s : Nat) : Int)) = _
  unfold cutV
  rw [HT.sIx_nat, HT.sIx_nat, Nat.min_eq_left h, Nat.min_eq_left (by omega), Nat.add_sub_cancel_left]
theorem seven : ∀ m : Nat, m < 7 → ∃ s : Nat, s ≤ 3 ∧ ([V.int 0, .int 1, .int 1, .int 1, .int 2, .int 2, .int 3] : List V)[m]? = some (.int (s : Int))
  | 0, _ => ⟨0, by decide, rfl⟩
  | 1, _ => ⟨1, by decide, rfl⟩
  | 2, _ => ⟨1, by decide, rfl⟩
  | 3, _ => ⟨1, by decide, rfl⟩
  | 4, _ => ⟨2, by decide, rfl⟩
  | 5, _ => ⟨2, by decide, rfl⟩
  | 6, _ => ⟨3, by decide, rfl⟩
  | n + 7, h => absurd h (by omega)
theorem box_strs {H : Hp} {b q : Addr} {n : Nat} {zs : List Str} (hB : BoxAt H b n) (hq : H q = some (.lst (zs.map V.str))) : q ≠ b := fun z => by
  obtain ⟨b0, b1, b2, b3, h, _⟩ := hB
  rw [z, h] at hq
  cases zs with
  | nil => simp at hq
  | cons y ys => simp at hq
section
variable {K : PySem.W.Frag} {σ : L2.St} {H H' : Hp} {te : TE}
theorem em_ofL {zs : List Str} (h : EvL te σ H (zs.map V.str)) : EvM te σ H SLS zs := fun H1 e Q k => h H1 e _ fun p H2 hp e2 h2 => k _ _ e2 ⟨p, rfl, hp, h2⟩
theorem ea_cons1 {tl : TA} {x : V} {vs : List V} (h : Ev te σ H x) (ht : EvA tl σ H vs) : EvA (tCons te tl) σ H (x :: vs) := ea_cons h ht
end
section
variable {P : Program} {w : World} {K : PySem.W.Frag} {mg : Str → Option Value} {base : Heap} {a : Nat → Addr} {d : Nat → FuncData} {tk : Nat → Tok} {c ci : Nat → Addr} {di : Nat → FuncData}
def sp__law_pairs : Sp := fun vs H Q _ => ∃ (b q : Addr) (zs : List Str) (n : Nat), vs = [.ref b, .ref q, .int 6] ∧ H q = some (.lst (zs.map V.str)) ∧ 1 ≤ zs.length ∧ zs.length ≤ 5 ∧ zs.Nodup ∧ BoxAt H b n ∧ n ≤ 50000 ∧
  ∀ (p : Addr) (us : List V) (rs : List Pr) (H2 : Hp), H p = none → ExB b H H2 → BoxAt H2 b (n + 1000) → H2 p = some (.lst us) → Paired (PairS (fun a => H a = none) H2) us rs → (∀ r ∈ rs, RawP zs r) → rs.length ≤ 8 → Q (.ref p) H2
theorem ok__law_pairs (T : All K mg a d tk c ci di) : FnOk P w K mg base CX0 3 (a 21) (d 21) ["box", "columns", "most"] sp__law_pairs := by
  refine T.F__law_pairs.fn.ok sc__law_pairs (fun vs H Q E h => ?_) (fun cdv A outer s H vs Q E hr h => ?_)
  · obtain ⟨b, q, zs, n, rfl, _⟩ := h
    rfl
  · obtain ⟨b, q, zs, n, rfl, hq, h1, h5, hnd, hB, hn, k⟩ := h
    have nd := sc__law_pairs.nd
    refine ⟨_, (pss_cons (ps_set (i := 3) nd rfl (Or.inl rfl) (pe_lst pa_nil))
 (pss_cons (ps_for PassesOwn.never rfl (pi_range1 rfl T.n_range (pa_cons (pe_call (ok__law_take T) (hr.mono (by decide)) rfl T.F__law_take.m T.F__law_take.kp T.F__law_take.b .nil pass0 (pa_cons (pv 0) (pa_cons (pe_op op_add (pv 2) pe_int) pa_nil))) pa_nil)) (pg_name (i := 4) nd rfl (Or.inl rfl))
 (pss_cons (ps_set (i := 5) nd rfl (Or.inl rfl) (pe_call (ok__law_mixed T) (hr.mono (by decide)) rfl T.F__law_mixed.m T.F__law_mixed.kp T.F__law_mixed.b .nil pass0 (pa_cons (pv 0) (pa_cons (pv 1) pa_nil))))
 (pss_cons (ps_set (i := 6) nd rfl (Or.inl rfl) (pe_ifExp (pt_cmpR op_gt (pe_callB call_len_seq (by rfl) T.n_len PySem.boot_len (pa_cons (pv 1) pa_nil)) pe_int (nomark _)) (pe_ix ix_list (pe_lst (pa_cons pe_int (pa_cons pe_int (pa_cons pe_int (pa_cons pe_int (pa_cons pe_int (pa_cons pe_int (pa_cons pe_int pa_nil)))))))) (pe_call (ok__law_take T) (hr.mono (by decide)) rfl T.F__law_take.m T.F__law_take.kp T.F__law_take.b .nil pass0 (pa_cons (pv 0) (pa_cons pe_int pa_nil))) (fun _ _ => rfl)) pe_int))
 (pss_cons (ps_set (i := 6) nd rfl (Or.inl rfl) (pe_ifExp (pt_cmpR op_lt (pv 6) (pe_callB call_len_seq (by rfl) T.n_len PySem.boot_len (pa_cons (pv 1) pa_nil)) (nomark _)) (pv 6) (pe_op op_sub (pe_callB call_len_seq (by rfl) T.n_len PySem.boot_len (pa_cons (pv 1) pa_nil)) pe_int)))
 (pss_one (ps_expr (pe_bm PySem.F.plainAttrs_list PySem.F.slot_list_append PySem.F.type_list_append mt_append (pv 3) (pa_cons (pe_tup (pa_cons (pe_slice sl_list (pv 5) (po_some pe_int) (po_some (pe_op op_add pe_int (pv 6)))) (pa_cons (pe_ix ix_list (pv 5) pe_int (fun _ _ => rfl)) pa_nil))) pa_nil))))))))
 (pss_one (ps_ret (pv 3))))), ?_⟩
    have nq := box_strs hB hq
    refine q_asgL (el_lst ea_nil (by decide)) fun f H1 hf e1 h1' => ?_
    have nbf : f ≠ b := Ne.symm (hB.ne hf)
    refine ⟨_, rfl, _, rfl, (6 : Int), 1, rfl, rfl, ?_⟩
    refine ⟨b, _, n, rfl, by decide, by decide, hB.ex e1, by omega, fun j H2 j0 j1 e2 hB2 => ?_⟩
    let Pv : Nat → L2.St → Hp → Prop := fun i σ' H' => ExB b H H' ∧ BoxAt H' b (n + 1 + 70 * i) ∧ (∃ (us : List V) (rs : List Pr), H' f = some (.lst us) ∧ Paired (PairS (fun a => H a = none ∧ a ≠ f) H') us rs ∧ rs.length = i ∧ (∀ r ∈ rs, RawP zs r)) ∧ ∃ v4 v5 v6, σ' = [some (.ref b), some (.ref q), some (.int 6), some (.ref f), v4, v5, v6]
    refine ⟨j, rfl, by omega, by omega, for_range (lo := 0) (n := j.toNat) Pv ⟨(Ex.b e1).trans e2, hB2, ⟨[], [], e2 _ _ nbf h1', .nil, rfl, fun _ h => nomatch h⟩, _, _, _, rfl⟩ ?_ ?_⟩
    · rintro i σ' H3 hi ⟨e3, hB3, ⟨us, rs, hf3, hp3, hl3, hR3⟩, v4, v5, v6, rfl⟩
      have hq3 := e3 _ _ nq hq
      refine ⟨_, rfl, _, rfl, b, q, zs.map V.str, _, rfl, hq3, by rw [List.length_map]; omega, hB3, by omega, fun r ys H4 pm hr4 hr4' e4 hB4 => ?_⟩
      obtain ⟨ey, pz⟩ := perm_strs pm
      generalize ys.map strOf = ws at ey pz
      subst ey
      have lw := pz.length_eq
      have nr : r ≠ b := Ne.symm (hB3.ne hr4)
      have nf4 : f ≠ r := fun z => by rw [z, hr4] at hf3; cases hf3
      have hq4 := e4 _ _ nq hq3
      have hf4 := e4 _ _ nbf hf3
      have size : ∀ (R : TS) (D : Ends), (∀ (s : Nat) (H5 : Hp), s ≤ 3 → ExB b H4 H5 → BoxAt H5 b (n + 1 + 70 * i + 61) → R D [some (.ref b), some (.ref q), some (.int 6), some (.ref f), some (.int (0 + (i : Int))), some (.ref r), some (.int (s : Int))] H5) →
          tSeq (tAsg (tIf (tTest (tOp (rI0 fun i j => .bl (decide (j < i))) (tCB (rLenS K) (tCons (tVar 1) tNil)) (tC (.int 1)))) (tOp (rIxL K) (tLst (tCons (tC (.int 0)) (tCons (tC (.int 1)) (tCons (tC (.int 1)) (tCons (tC (.int 1)) (tCons (tC (.int 2)) (tCons (tC (.int 2)) (tCons (tC (.int 3)) tNil)))))))) (tCall sp__law_take [] E0 (tCons (tVar 0) (tCons (tC (.int 7)) tNil)))) (tC (.int 0))) (gName 6)) R D [some (.ref b), some (.ref q), some (.int 6), some (.ref f), some (.int (0 + (i : Int))), some (.ref r), v6] H4 := fun R D kk => by
        have lt : Ev (tCB (rLenS K) (tCons (tVar 1) tNil)) [some (.ref b), some (.ref q), some (.int 6), some (.ref f), some (.int (0 + (i : Int))), some (.ref r), v6] H4 (.int (zs.length : Int)) := ev_is (ev_lenS (K := K) (ev_var (i := 1) rfl) (.inl hq4)) (by rw [List.length_map])
        refine et_I0 (g := fun i j => decide (j < i)) (j := 1) lt ev_c H4 (Ex.refl _) _ fun H5 e5 => ?_
        by_cases hgt : (1 : Int) < (zs.length : Int)
        · rw [decide_eq_true hgt]
          refine ⟨sz_of (show 7 ≤ 100000 by decide), fun l hl => ?_⟩
          have nl : l ≠ b := Ne.symm ((hB4.ex e5).ne hl)
          refine ⟨_, rfl, b, 7, _, rfl, by decide, by decide, (hB4.ex e5).upd (Ne.symm nl), by omega, fun m H6 m0 m1 e6 hB6 => ?_⟩
          obtain ⟨s, s3, hs⟩ := seven m.toNat (by omega)
          have em : m = ((m.toNat : Nat) : Int) := by omega
          rw [em]
          refine (rv_ixL (K := K) (sq_of (e6 _ _ nl upd_same)) (atI_nat hs)) H6 (Ex.refl _) _ fun H7 e7 => ?_
          exact kk s H7 s3 (((Ex.b (e5.trans (Ex.new hl))).trans e6).trans (Ex.b e7)) (hB6.ex e7)
        · rw [decide_eq_false hgt]
          exact kk 0 H5 (by decide) (Ex.b e5) ((hB4.ex e5).mono (by omega))
      refine size _ _ fun s H5 s3 e5 hB5 => ?_
      have hq5 := e5 _ _ nq hq4
      have hr5 := e5 _ _ nr hr4'
      have hf5 := e5 _ _ nbf hf4
      have lt5 : ∀ {H6 : Hp}, Ex H5 H6 → Ev (tCB (rLenS K) (tCons (tVar 1) tNil)) [some (.ref b), some (.ref q), some (.int 6), some (.ref f), some (.int (0 + (i : Int))), some (.ref r), some (.int (s : Int))] H6 (.int (zs.length : Int)) := fun e => ev_is (ev_lenS (K := K) (ev_var (i := 1) rfl) (.inl (e _ _ hq5))) (by rw [List.length_map])
      obtain ⟨s', hs', ev6⟩ : ∃ s' : Nat, (s' ≤ 3 ∧ s' < zs.length) ∧ Ev (tIf (tTest (tOp (rI0 fun i j => .bl (decide (i < j))) (tVar 6) (tCB (rLenS K) (tCons (tVar 1) tNil)))) (tVar 6) (tOp (rI0 fun i j => .int (i - j)) (tCB (rLenS K) (tCons (tVar 1) tNil)) (tC (.int 1)))) [some (.ref b), some (.ref q), some (.int 6), some (.ref f), some (.int (0 + (i : Int))), some (.ref r), some (.int (s : Int))] H5 (.int (s' : Int)) := by
        by_cases hs : s < zs.length
        · exact ⟨s, ⟨s3, hs⟩, ev_if (b := true) (et_is (et_I0 (g := fun i j => decide (i < j)) (ev_var (i := 6) rfl) (lt5 (Ex.refl _))) (decide_eq_true (by omega))) (fun _ => ev_var (i := 6) rfl) fun h => nomatch h⟩
        · exact ⟨zs.length - 1, ⟨by omega, by omega⟩, ev_if (b := false) (et_is (et_I0 (g := fun i j => decide (i < j)) (ev_var (i := 6) rfl) (lt5 (Ex.refl _))) (decide_eq_false (by omega))) (fun h => nomatch h) fun _ => ev_is (ev_I0 (g := fun i j => .int (i - j)) (lt5 (Ex.refl _)) ev_c) (by congr 1; omega)⟩
      refine q_asg ev6 fun H6 e6 => ?_
      have hlu := Paired.length hp3
      have j8 : j.toNat ≤ 8 := by omega
      obtain ⟨hd, tl, ew⟩ : ∃ hd tl, ws = hd :: tl := by
        cases ws with
        | nil => rw [List.length_nil] at lw; omega
        | cons x l => exact ⟨x, l, rfl⟩
      subst ew
      rw [List.length_cons] at lw
      have em := em_pair (te := tSl (rSlL K) (tVar 5) (tPart (tC (.int 1))) (tPart (tOp (rI0 fun i j => .int (i + j)) (tC (.int 1)) (tVar 6)))) (ta := tOp (rIxL K) (tVar 5) (tC (.int 0))) (σ := [some (.ref b), some (.ref q), some (.int 6), some (.ref f), some (.int (0 + (i : Int))), some (.ref r), some (.int (s' : Int))]) (H := H6) (zs := tl.take s') (z := hd) (em_ofL (by
          have z := el_sl (K := K) (te := tVar 5) (σ := [some (.ref b), some (.ref q), some (.int 6), some (.ref f), some (.int (0 + (i : Int))), some (.ref r), some (.int (s' : Int))]) (H := H6) (ev_var (i := 5) rfl) (eo_some (ev_c (v := .int 1))) (eo_some (ev_I0 (g := fun i j => .int (i + j)) (ev_c (v := .int 1)) (ev_var (i := 6) rfl))) (sq_of (e6 _ _ hr5))
          rw [cutV_mid _ s' (by rw [List.length_map, List.length_cons]; omega)] at z
          rw [List.map_take]
          exact z)) fun H7 e7 => ev_ixL (i := 0) (ev_var (i := 5) rfl) ev_c (sq_of (e7 _ _ (e6 _ _ hr5))) (atI_nat (j := 0) rfl)
      refine s_appM (e6 _ _ hf5) (ev_var (i := 3) rfl) em (by omega) fun v H7 e7 ⟨H0, e0, hv⟩ => ?_
      have e67 := e6.trans e7
      have eB57 : ExB b H3 H7 := (e4.trans e5).trans (Ex.b e67)
      have raw : RawP zs (tl.take s', hd) := by
        have nw := pz.nodup_iff.mpr hnd
        have nc := List.nodup_cons.mp nw
        refine ⟨fun z hz => pz.mem_iff.mp (List.mem_cons_of_mem _ (List.mem_of_mem_take hz)), nc.2.sublist (List.take_sublist _ _), ?_, pz.mem_iff.mp List.mem_cons_self, fun hm => nc.1 (List.mem_of_mem_take hm)⟩
        show (tl.take s').length ≤ 3
        rw [List.length_take]
        omega
      have eT : ExB b H H7 := e3.trans eB57
      have p1 : Paired (PairS (fun a => H a = none ∧ a ≠ f) (upd H7 f (.lst (us ++ [v])))) us rs := Paired.imp (fun _ _ z => z.mv fun y o hy h => ⟨hy, by
        rw [upd_ne hy.2]
        exact eB57 _ _ (Ne.symm (hB.ne hy.1)) h⟩) hp3
      have p2 : PairS (fun a => H a = none ∧ a ≠ f) (upd H7 f (.lst (us ++ [v]))) v (tl.take s', hd) := hv.mv fun y o hy h => by
        have hy : H0 y = none := hy
        have ny : y ≠ f := fun z => by
          rw [z, e0 _ _ (e6 _ _ hf5)] at hy
          cases hy
        have nyb : y ≠ b := Ne.symm (((hB5.ex e6).ex e0).ne hy)
        have e50 : ExB b H H0 := (e3.trans (e4.trans e5)).trans (Ex.b (e6.trans e0))
        exact ⟨⟨e50.back nyb hy, ny⟩, by rw [upd_ne ny]; exact h⟩
      have p3 : ∀ r ∈ rs ++ [(tl.take s', hd)], RawP zs r := fun z hz => by
        rcases List.mem_append.mp hz with h | h
        · exact hR3 z h
        · rw [List.mem_singleton.mp h]
          exact raw
      exact ⟨eT.mut hf, (((hB5.ex e67).upd (Ne.symm nbf)).mono (by omega)), ⟨us ++ [v], rs ++ [(tl.take s', hd)], upd_same, Paired.append p1 (.cons p2 .nil), by rw [List.length_append, List.length_singleton, hl3], p3⟩, _, _, _, rfl⟩
    · rintro σ' H3 ⟨e3, hB3, ⟨us, rs, hf3, hp3, hl3, hR3⟩, v4, v5, v6, rfl⟩
      refine s_ret (ev_var (i := 3) rfl) fun H4 e4 => k f us rs H4 hf (e3.trans (Ex.b e4)) ((hB3.ex e4).mono (by omega)) (e4 _ _ hf3) (Paired.imp (fun _ _ z => z.mv fun y o hy h => ⟨hy.1, e4 _ _ h⟩) hp3) hR3 (by omega)
end
end Mv
/-! The same things. -/
namespace Mv
open PySem PySem.Spec PyProof.Rows L2 Evl
/-- no part in the heap -/
inductive Prim : V → Prop
  | non : Prim .non
  | bl (b : Bool) : Prim (.bl b)
  | int (i : Int) : Prim (.int i)
  | str (s : Str) : Prim (.str s)
/-- an empty dict -/
def D0 (H : Hp) (p : Addr) : Prop := H p = some (.dK [])
/-- the same, n levels deep at most -/
def Sm (H : Hp) : Nat → V → V → Prop
  | 0, _, _ => False
  | n + 1, x, y => (x = y ∧ Prim x) ∨ (∃ p, x = .ref p ∧ y = .ref p ∧ D0 H p) ∨ ∃ p q xs ys, x = .ref p ∧ y = .ref q ∧ ((H p = some (.lst xs) ∧ H q = some (.lst ys)) ∨ (H p = some (.tup xs) ∧ H q = some (.tup ys))) ∧ xs.length ≤ 200 ∧ Paired (Sm H n) xs ys
theorem Sm.ex {H H' : Hp} (e : Ex H H') : ∀ {n : Nat} {x y : V}, Sm H n x y → Sm H' n x y
  | 0, _, _, h => h
  | n + 1, _, _, .inl h => .inl h
  | n + 1, _, _, .inr (.inl ⟨p, h1, h2, h3⟩) => .inr (.inl ⟨p, h1, h2, e _ _ h3⟩)
  | n + 1, _, _, .inr (.inr ⟨p, q, xs, ys, h1, h2, h3, h4, h5⟩) => .inr (.inr ⟨p, q, xs, ys, h1, h2, h3.elim (fun z => .inl ⟨e _ _ z.1, e _ _ z.2⟩) (fun z => .inr ⟨e _ _ z.1, e _ _ z.2⟩), h4, Paired.imp (fun _ _ z => z.ex e) h5⟩)
theorem Sm.up {H : Hp} : ∀ {n m : Nat} {x y : V}, n ≤ m → Sm H n x y → Sm H m x y
  | 0, _, _, _, _, h => h.elim
  | n + 1, m + 1, _, _, _, .inl h => .inl h
  | n + 1, m + 1, _, _, _, .inr (.inl h) => .inr (.inl h)
  | n + 1, m + 1, _, _, l, .inr (.inr ⟨p, q, xs, ys, h1, h2, h3, h4, h5⟩) => .inr (.inr ⟨p, q, xs, ys, h1, h2, h3, h4, Paired.imp (fun _ _ z => z.up (Nat.le_of_succ_le_succ l)) h5⟩)
section
variable {P : Program} {w : World} {K : PySem.W.Frag} {mg : Str → Option Value} {base : Heap} {a : Nat → Addr} {d : Nat → FuncData} {tk : Nat → Tok} {c ci : Nat → Addr} {di : Nat → FuncData}
theorem okG {x qual : Str} {st : Stmt} {f : Addr} {fd : FuncData} {N ps : List Str} {k : Nat} {sp : Sp} (F : Fun K x qual st f fd) (S : FnScope N ps (defScope st)) (len : ∀ vs H Q E, sp vs H Q E → vs.length = ps.length)
    (hbody : ∀ (cdv : Value) (A : Around) (outer : List Env) (s : Shared) (H : Hp) (vs : List V) (Q : VK) (E : XK), (A.deeper (envOfC qual (defScope st) s.heap.objs.size f cdv)).guards = some [] → Room k (A.deeper (envOfC qual (defScope st) s.heap.objs.size f cdv)) → sp vs H Q E →
      ∃ t, PSs (cxOf CX0 P w K mg base N qual (defScope st) f cdv A outer s H E).nox (defBody st) t ∧ t { nx := fun _ H' => Q .non H', rt := Q } (start N vs) H) : FnG P w K mg base CX0 (k + 1) f fd ps sp := by
  obtain ⟨oc, od, kV, doc, pm, an, cdv, ct, osl, rfl, lk, hcd⟩ := F.ex
  refine fn_ofG lk hcd S len fun A outer s H vs Q E hgd hr hsp => ?_
  obtain ⟨t, h, q⟩ := hbody cdv A outer s H vs Q E hgd hr hsp
  exact ⟨t, h.nox, q⟩
theorem ev_isN {σ : L2.St} {H : Hp} {ta : TE} {x : V} (h : Ev ta σ H x) : Ev (tIsN ta) σ H (.bl (decide (x = .non))) := fun H1 e Q q => h H1 e _ fun H2 e2 => q H2 e2
theorem ev_isB {σ : L2.St} {H : Hp} {ta tb : TE} {x y : Bool} (ha : Ev ta σ H (.bl x)) (hb : Ev tb σ H (.bl y)) : Ev (tOp (fun x y H Q => ∃ a b, x = V.bl a ∧ y = V.bl b ∧ Q (V.bl (decide (a = b))) H) ta tb) σ H (.bl (decide (x = y))) := ev_op ha hb fun H1 _ Q q => ⟨x, y, rfl, rfl, q H1 (Ex.refl H1)⟩
theorem rv_ixQ {K : PySem.W.Frag} {H : Hp} {p : Addr} {xs : List V} {i : Int} {v : V} (h : Seq H p xs) (ha : atI xs i = some v) : RV (rIx K) (.ref p) (.int i) H v := fun H1 e Q q => h.elim (fun z => .inl ⟨p, xs, i, v, rfl, rfl, sq_of (e _ _ z), ha, q H1 (Ex.refl H1)⟩) fun z => .inr (.inl ⟨p, xs, i, v, rfl, rfl, st_of (e _ _ z), ha, q H1 (Ex.refl H1)⟩)
theorem given_none (n : Nat) (v : Nat → V) : given n (fun _ => false) v = [] := by
  unfold given
  rw [List.filter_eq_nil_iff.mpr (fun _ _ => Bool.false_ne_true)] <;> rfl
theorem d0_repr {K : PySem.W.Frag} {H : Hp} {p : Addr} (h : D0 H p) : ∃ t : Str, RC (rReprK K) [.ref p] H (.str t) := ⟨_, fun H1 e Q q' => ⟨p, _, [], rfl, e _ _ h, .nil, (by decide +kernel), (by show (PyData.dict []).showable = true; decide +kernel), (by show (PyData.dict []).depth ≤ 60; decide +kernel), sz_of (by show (PyData.dict []).shown.length ≤ 100000; decide +kernel), q' H1 (Ex.refl H1)⟩⟩
def sp_same (n : Nat) : Sp := fun vs H Q _ => ∃ x y, vs = [x, y] ∧ Sm H n x y ∧ RetV (.bl true) H Q
theorem same_0 (T : All K mg a d tk c ci di) : FnG P w K mg base CX0 3 (a 19) (d 19) ["given", "due"] (sp_same 0) :=
  okG T.F__law_same.fn sc__law_same (fun vs H Q E h => by
    obtain ⟨x, y, rfl, _⟩ := h
    rfl) (fun cdv A outer s H vs Q E hgd hr h => by
    obtain ⟨x, y, _, h, _⟩ := h
    exact h.elim)
theorem same_S (T : All K mg a d tk c ci di) {n : Nat} (ih : FnG P w K mg base CX0 (n + 3) (a 19) (d 19) ["given", "due"] (sp_same n)) : FnG P w K mg base CX0 (n + 3 + 1) (a 19) (d 19) ["given", "due"] (sp_same (n + 1)) := by
  refine okG T.F__law_same.fn sc__law_same (fun vs H Q E h => ?_) (fun cdv A outer s H vs Q E hgd hr h => ?_)
  · obtain ⟨x, y, rfl, _⟩ := h
    rfl
  · obtain ⟨x, y, rfl, h, k⟩ := h
    have nd := sc__law_same.nd
    have hu0 := hr.units0
    refine ⟨_, (pss_cons (ps_if (PW.pt (pw_or (pt_cmp (pc_isN (pv 1))) (pw_or1 (pt_val (pe_callB call_isi (by rfl) T.n_isinstance PyProof.Rows.boot_isinstance (pa_cons (pv 1) (pa_cons (pe_bltn (v := .ty "bool") rfl T.n_bool PyProof.Rows.boot_bool rfl) pa_nil)))))))
 (pss_one (ps_ret (pe_ifExp (pt_cmp (pc_isN (pv 1))) (pe_cmp (pc_isN (pv 0))) (pe_and (pe_callB call_isi (by rfl) T.n_isinstance PyProof.Rows.boot_isinstance (pa_cons (pv 0) (pa_cons (pe_bltn (v := .ty "bool") rfl T.n_bool PyProof.Rows.boot_bool rfl) pa_nil))) (pe_one (pe_cmpR op_eq (pe_cmpR op_is_bl (pv 0) pe_bl (nomark _)) (pe_cmpR op_is_bl (pv 1) pe_bl (nomark _)) (nomark _)))))))
 pss_nil)
 (pss_cons (ps_if (pt_val (pe_callB call_isi (by rfl) T.n_isinstance PyProof.Rows.boot_isinstance (pa_cons (pv 1) (pa_cons (pe_bltn (v := .ty "int") rfl T.n_int PyProof.Rows.boot_int rfl) pa_nil))))
 (pss_one (ps_ret (pe_and (pe_callB call_isi (by rfl) T.n_isinstance PyProof.Rows.boot_isinstance (pa_cons (pv 0) (pa_cons (pe_bltn (v := .ty "int") rfl T.n_int PyProof.Rows.boot_int rfl) pa_nil))) (pe_and (pe_not (pe_callB call_isi (by rfl) T.n_isinstance PyProof.Rows.boot_isinstance (pa_cons (pv 0) (pa_cons (pe_bltn (v := .ty "bool") rfl T.n_bool PyProof.Rows.boot_bool rfl) pa_nil)))) (pe_one (pe_cmpR op_eq (pe_op op_sub (pe_callTy call_int1 rfl T.n_int PyProof.Rows.boot_int (pa_cons (pv 0) pa_nil)) (pv 1)) pe_int (nomark _)))))))
 pss_nil)
 (pss_cons (ps_if (pt_val (pe_callB call_isi (by rfl) T.n_isinstance PyProof.Rows.boot_isinstance (pa_cons (pv 1) (pa_cons (pe_bltn (v := .ty "str") rfl T.n_str PyProof.Rows.boot_str rfl) pa_nil))))
 (pss_one (ps_ret (pe_and (pe_callB call_isi (by rfl) T.n_isinstance PyProof.Rows.boot_isinstance (pa_cons (pv 0) (pa_cons (pe_bltn (v := .ty "str") rfl T.n_str PyProof.Rows.boot_str rfl) pa_nil))) (pe_one (pe_cmpR op_eq (pv 0) (pv 1) (nomark _))))))
 pss_nil)
 (pss_cons (ps_if (PW.pt (pw_or (pt_cmpR op_ne (pe_callB call_isi (by rfl) T.n_isinstance PyProof.Rows.boot_isinstance (pa_cons (pv 0) (pa_cons (pe_bltn (v := .ty "list") rfl T.n_list PyProof.Rows.boot_list rfl) pa_nil))) (pe_callB call_isi (by rfl) T.n_isinstance PyProof.Rows.boot_isinstance (pa_cons (pv 1) (pa_cons (pe_bltn (v := .ty "list") rfl T.n_list PyProof.Rows.boot_list rfl) pa_nil))) (nomark _)) (pw_or1 (pt_cmpR op_ne (pe_callB call_isi (by rfl) T.n_isinstance PyProof.Rows.boot_isinstance (pa_cons (pv 0) (pa_cons (pe_bltn (v := .ty "tuple") rfl T.n_tuple PyProof.Rows.boot_tuple rfl) pa_nil))) (pe_callB call_isi (by rfl) T.n_isinstance PyProof.Rows.boot_isinstance (pa_cons (pv 1) (pa_cons (pe_bltn (v := .ty "tuple") rfl T.n_tuple PyProof.Rows.boot_tuple rfl) pa_nil))) (nomark _)))))
 (pss_one (ps_ret pe_bl))
 pss_nil)
 (pss_cons (ps_if (pt_not (pt_val (pe_callB call_isiT (by rfl) T.n_isinstance PyProof.Rows.boot_isinstance (pa_cons (pv 1) (pa_cons (pe_tup (pa_cons (pe_bltn (v := .ty "list") rfl T.n_list PyProof.Rows.boot_list rfl) (pa_cons (pe_bltn (v := .ty "tuple") rfl T.n_tuple PyProof.Rows.boot_tuple rfl) pa_nil))) pa_nil)))))
 (pss_one (ps_ret (pe_cmpR op_eq (pe_callB (call_reprK hgd hr.units) (by rfl) T.n_repr PyProof.Rows.boot_repr (pa_cons (pv 0) pa_nil)) (pe_callB (call_reprK hgd hr.units) (by rfl) T.n_repr PyProof.Rows.boot_repr (pa_cons (pv 1) pa_nil)) (nomark _))))
 pss_nil)
 (pss_one (ps_ret (pe_and (pe_cmpR op_eq (pe_callB call_len_seq (by rfl) T.n_len PySem.boot_len (pa_cons (pv 0) pa_nil)) (pe_callB call_len_seq (by rfl) T.n_len PySem.boot_len (pa_cons (pv 1) pa_nil)) (nomark _)) (pe_one (pe_cmpR (op_eqNil hu0) (pe_lc (own := [("k", 2)]) (g := (gName 2)) rfl nd (pi_range1 rfl T.n_range (pa_cons (pe_callB call_len_seq (by rfl) T.n_len PySem.boot_len (pa_cons (pv 1) pa_nil)) pa_nil)) (blkOk_by (N := N__law_same) (sc := defScope s__law_same) (by decide +kernel)) (fun _ _ _ _ _ => (pg_name (i := 2) nd rfl (Or.inl rfl))) (fun _ _ _ _ _ => (pts_one (pt_not (pt_val (pe_callG ih hgd (hr.mono (Nat.le_refl _)) rfl T.F__law_same.m T.F__law_same.kp T.F__law_same.b .nil pass0 (pa_cons (pe_ix (show IxR _ (rIx K) from ix_seq) (pv 0) (pv 2) (fun _ _ => rfl)) (pa_cons (pe_ix (show IxR _ (rIx K) from ix_seq) (pv 1) (pv 2) (fun _ _ => rfl)) pa_nil))))))) (fun _ _ _ _ _ => (pv 2))) (pe_lst pa_nil) (nomark _))))))))))), ?_⟩
    have nB : ∀ {z : Bool}, decide (V.bl z = .non) = false := fun {z} => decide_eq_false fun h => nomatch h
    have nI : ∀ {z : Int}, decide (V.int z = .non) = false := fun {z} => decide_eq_false fun h => nomatch h
    have nS : ∀ {z : Str}, decide (V.str z = .non) = false := fun {z} => decide_eq_false fun h => nomatch h
    have nR : ∀ {z : Addr}, decide (V.ref z = .non) = false := fun {z} => decide_eq_false fun h => nomatch h
    rcases h with ⟨rfl, hp⟩ | ⟨p, rfl, rfl, hp⟩ | ⟨p, q, xs, ys, rfl, rfl, hs, h60, hx⟩
    · cases hp with
      | non =>
        refine q_when (b := true) (et_or (a := true) (b := true) (et_is (et_B (ev_isN (ev_var (i := 1) rfl))) (decide_eq_true rfl)) (fun h => nomatch h)) (fun _ H1 e1 => ?_) (fun h => nomatch h)
        exact s_ret (ev_if (b := true) (et_is (et_B (ev_isN (ev_var (i := 1) rfl))) (decide_eq_true rfl)) (fun _ => ev_is (ev_isN (ev_var (i := 0) rfl)) (by rw [decide_eq_true rfl])) (fun h => nomatch h)) fun H2 e2 => k H2 (e1.trans e2)
      | bl z =>
        refine q_when (b := true) (et_or (a := false) (b := true) (et_is (et_B (ev_isN (ev_var (i := 1) rfl))) nB) (fun _ => et_B (is_bl.b (ev_var (i := 1) rfl)))) (fun _ H1 e1 => ?_) (fun h => nomatch h)
        exact s_ret (ev_if (b := false) (et_is (et_B (ev_isN (ev_var (i := 1) rfl))) nB) (fun h => nomatch h) (fun _ => ev_is (ev_andV (a := true) (is_bl.b (ev_var (i := 0) rfl)) fun _ => ev_op (ev_isB (ev_var (i := 0) rfl) ev_c) (ev_isB (ev_var (i := 1) rfl) ev_c) (rv_eq rfl)) (by rw [decide_eq_true rfl] <;> rfl))) fun H2 e2 => k H2 (e1.trans e2)
      | int z =>
        refine q_when (b := false) (et_or (a := false) (b := false) (et_is (et_B (ev_isN (ev_var (i := 1) rfl))) nI) (fun _ => et_B (is_int.b (ev_var (i := 1) rfl)))) (fun h => nomatch h) fun _ H1 e1 => ?_
        refine q_when (b := true) (et_B (is_int.i (ev_var (i := 1) rfl))) (fun _ H2 e2 => ?_) fun h => nomatch h
        refine s_ret (ev_is (ev_andV (a := true) (is_int.i (ev_var (i := 0) rfl)) fun _ => ev_andV (a := true) (ev_notV (is_int.b (ev_var (i := 0) rfl))) fun _ => ev_op (ev_I0 (i := z) (j := z) (ev_cb (ea_cons (ev_var (i := 0) rfl) ea_nil) (fun H1 _ Q q => .inl ⟨z, rfl, q H1 (Ex.refl H1)⟩)) (ev_var (i := 1) rfl)) ev_c (rv_eq rfl)) ?_) fun H3 e3 => k H3 ((e1.trans e2).trans e3)
        rw [Int.sub_self, decide_eq_true rfl] <;> rfl
      | str z =>
        refine q_when (b := false) (et_or (a := false) (b := false) (et_is (et_B (ev_isN (ev_var (i := 1) rfl))) nS) (fun _ => et_B (is_str.b (ev_var (i := 1) rfl)))) (fun h => nomatch h) fun _ H1 e1 => ?_
        refine q_when (b := false) (et_B (is_str.i (ev_var (i := 1) rfl))) (fun h => nomatch h) fun _ H2 e2 => ?_
        refine q_when (b := true) (et_B (is_str.s (ev_var (i := 1) rfl))) (fun _ H3 e3 => ?_) fun h => nomatch h
        exact s_ret (ev_is (ev_andV (a := true) (is_str.s (ev_var (i := 0) rfl)) fun _ => ev_op (ev_var (i := 0) rfl) (ev_var (i := 1) rfl) (rv_eq rfl)) (by rw [decide_eq_true rfl] <;> rfl)) fun H4 e4 => k H4 (((e1.trans e2).trans e3).trans e4)
    · have I := is_dct (K := K) hp
      refine q_when (b := false) (et_or (a := false) (b := false) (et_is (et_B (ev_isN (ev_var (i := 1) rfl))) nR) (fun _ => et_B (I.b (ev_var (i := 1) rfl)))) (fun h => nomatch h) fun _ H1 e1 => ?_
      have I1 := I.ex e1
      refine q_when (b := false) (et_B (I1.i (ev_var (i := 1) rfl))) (fun h => nomatch h) fun _ H2 e2 => ?_
      have I2 := I1.ex e2
      refine q_when (b := false) (et_B (I2.s (ev_var (i := 1) rfl))) (fun h => nomatch h) fun _ H3 e3 => ?_
      have I3 := I2.ex e3
      refine q_when (b := false) (et_or (a := false) (b := false) (et_is (et_test (ev_op (I3.l (ev_var (i := 0) rfl)) (I3.l (ev_var (i := 1) rfl)) (rv_ne rfl))) (by decide)) fun _ => et_is (et_test (ev_op (I3.t (ev_var (i := 0) rfl)) (I3.t (ev_var (i := 1) rfl)) (rv_ne rfl))) (by decide)) (fun h => nomatch h) fun _ H4 e4 => ?_
      have I4 := I3.ex e4
      refine q_when (b := true) (et_not (et_B (I4.lt (ev_var (i := 1) rfl)))) (fun _ H5 e5 => ?_) fun h => nomatch h
      obtain ⟨t, ht⟩ := d0_repr (K := K) (((((e1.trans e2).trans e3).trans e4).trans e5) _ _ hp)
      exact s_ret (ev_is (ev_op (ev_cb (ea_cons (ev_var (i := 0) rfl) ea_nil) ht) (ev_cb (ea_cons (ev_var (i := 1) rfl) ea_nil) ht) (rv_eq rfl)) (by rw [decide_eq_true rfl])) fun H6 e6 => k H6 (((((e1.trans e2).trans e3).trans e4).trans e5).trans e6)
    · have hl := Paired.length hx
      have sp : Seq H p xs := hs.elim (fun z => .inl z.1) fun z => .inr z.1
      have sq : Seq H q ys := hs.elim (fun z => .inl z.2) fun z => .inr z.2
      obtain ⟨l, t, hlt, I, J⟩ : ∃ l t, (l || t) = true ∧ Is5 K H (.ref p) false false false l t ∧ Is5 K H (.ref q) false false false l t := hs.elim (fun z => ⟨true, false, rfl, is_lst z.1, is_lst z.2⟩) fun z => ⟨false, true, rfl, is_tup z.1, is_tup z.2⟩
      refine q_when (b := false) (et_or (a := false) (b := false) (et_is (et_B (ev_isN (ev_var (i := 1) rfl))) nR) (fun _ => et_B (J.b (ev_var (i := 1) rfl)))) (fun h => nomatch h) fun _ H1 e1 => ?_
      have J1 := J.ex e1
      refine q_when (b := false) (et_B (J1.i (ev_var (i := 1) rfl))) (fun h => nomatch h) fun _ H2 e2 => ?_
      have J2 := J1.ex e2
      refine q_when (b := false) (et_B (J2.s (ev_var (i := 1) rfl))) (fun h => nomatch h) fun _ H3 e3 => ?_
      have J3 := J2.ex e3
      have I3 := I.ex ((e1.trans e2).trans e3)
      refine q_when (b := false) (et_or (a := false) (b := false) (et_is (et_test (ev_op (I3.l (ev_var (i := 0) rfl)) (J3.l (ev_var (i := 1) rfl)) (rv_ne rfl))) (by rw [decide_eq_true rfl] <;> rfl)) fun _ => et_is (et_test (ev_op (I3.t (ev_var (i := 0) rfl)) (J3.t (ev_var (i := 1) rfl)) (rv_ne rfl))) (by rw [decide_eq_true rfl] <;> rfl)) (fun h => nomatch h) fun _ H4 e4 => ?_
      have J4 := J3.ex e4
      refine q_when (b := false) (et_is (et_not (et_B (J4.lt (ev_var (i := 1) rfl)))) (by rw [hlt] <;> rfl)) (fun h => nomatch h) fun _ H5 e5 => ?_
      have e15 := (((e1.trans e2).trans e3).trans e4).trans e5
      have sp5 := sp.ex e15
      have sq5 := sq.ex e15
      refine s_ret (ev_is (ev_andV (a := true) (b := true) (ev_is (ev_op (ev_lenS (ev_var (i := 0) rfl) sp5) (ev_lenS (ev_var (i := 1) rfl) sq5) (rv_eq rfl)) (by rw [hl, decide_eq_true rfl])) fun _ => ev_is (ev_eqNilN (el_lcR1 (n := (ys.length : Int)) (fun _ => false) (fun i => .int i) (ea_cons (ev_lenS (ev_var (i := 1) rfl) sq5) ea_nil) ⟨by omega, by omega⟩ (fun _ => rfl) (fun i H6 e6 hi => ?_) fun _ _ _ _ h => nomatch h)) ?_) rfl) fun H6 e6 => k H6 (e15.trans e6)
      · have hiy : i < ys.length := by omega
        have hix : i < xs.length := by omega
        obtain ⟨y, hy, hxy⟩ := Paired.at_l hx i xs[i] (List.getElem?_eq_getElem hix)
        refine et_not (a := true) (et_B ?_)
        refine ev_call (ea_cons (ev_op (ev_var (i := 0) rfl) (ev_var (i := 2) rfl) (rv_ixQ (sp5.ex e6) (atI_nat (List.getElem?_eq_getElem hix)))) (ea_cons (ev_op (ev_var (i := 1) rfl) (ev_var (i := 2) rfl) (rv_ixQ (sq5.ex e6) (atI_nat hy))) ea_nil)) ?_
        exact fun H7 e7 Q' q' _ => ⟨_, _, rfl, hxy.ex ((e15.trans e6).trans e7), q'⟩
      · rw [given_none] <;> rfl
/-- the same, five levels deep -/
theorem ok__law_same (T : All K mg a d tk c ci di) : FnG P w K mg base CX0 8 (a 19) (d 19) ["given", "due"] (sp_same 5) :=
  same_S T (same_S T (same_S T (same_S T (same_S T (same_0 T)))))
end
end Mv
/-! What is returned, or what is raised. -/
namespace Mv
open PySem PySem.Spec PyProof.Rows L2 Evl
/-! the classes -/
def bs (i : Nat) : Nat := ([7, 7, 7, 7, 8, 7, 7] : List Nat).getD i 0
def tlb : Nat → List Value
  | 7 => veT
  | 8 => keT
  | _ => []
theorem ho_veT {c : Addr} : (Value.ref c :: veT).contains (.type "object") = true := by rw [List.contains_cons, show veT.contains (.type "object") = true by decide +kernel, Bool.or_true]
theorem ho_keT {c : Addr} : (Value.ref c :: keT).contains (.type "object") = true := by rw [List.contains_cons, show keT.contains (.type "object") = true by decide +kernel, Bool.or_true]
theorem kit_base {K : PySem.W.Frag} {mg : Str → Option Value} {x q y : Str} {st : Stmt} {C fI S : Addr} {fd : FuncData} {fs : List Str} {tail : List Value} {nI iI : String} (F : ExF K mg x q st C fI fd fs (.ref S :: tail) nI) (B : BsF K mg y S tail iI) : PySem.W.kitOne K (.ref C) (.ref S) = some true := by
  obtain ⟨_, _, _, _, _, _, _, _, _, _, _, _, _, _, _, hC⟩ := B.lk
  have e2 : ((PySem.W.clsIn K S).isSome && PySem.W.typeIn K (.ref S) == some (.type "type")) = true := by rw [cls_of hC, typ_of hC] <;> rfl
  unfold PySem.W.kitOne
  split
  · rfl
  · show (if ((PySem.W.clsIn K S).isSome && PySem.W.typeIn K (.ref S) == some (.type "type")) = true then PySem.W.subIn K (.ref C) (.ref S) else none) = _
    rw [if_pos e2, F.sub, List.contains_cons, List.contains_cons, beq_self_eq_true, Bool.true_or, Bool.or_true]
section
variable {P : Program} {w : World} {K : PySem.W.Frag} {mg : Str → Option Value} {base : Heap} {a : Nat → Addr} {d : Nat → FuncData} {tk : Nat → Tok} {c ci : Nat → Addr} {di : Nat → FuncData}
theorem sub_fact (T : All K mg a d tk c ci di) (v : Value) : ∀ i, i < 7 → PySem.W.subIn K (.ref (c i)) v = some ((Value.ref (c i) :: Value.ref (c (bs i)) :: tlb (bs i)).contains v)
  | 0, _ => T.X_InvalidName.sub v
  | 1, _ => T.X_InvalidColumns.sub v
  | 2, _ => T.X_DuplicateName.sub v
  | 3, _ => T.X_InvalidRows.sub v
  | 4, _ => T.X_UnknownColumn.sub v
  | 5, _ => T.X_InvalidPairs.sub v
  | 6, _ => T.X_InvalidPair.sub v
  | n + 7, h => absurd h (by omega)
theorem exm_k (T : All K mg a d tk c ci di) (cls : Value) : ∀ i, i < 7 → PySem.W.exmOne K cls (.ref (c i)) = PySem.W.subIn K cls (.ref (c i))
  | 0, _ => T.X_InvalidName.exm hb_veT cls
  | 1, _ => T.X_InvalidColumns.exm hb_veT cls
  | 2, _ => T.X_DuplicateName.exm hb_veT cls
  | 3, _ => T.X_InvalidRows.exm hb_veT cls
  | 4, _ => T.X_UnknownColumn.exm hb_keT cls
  | 5, _ => T.X_InvalidPairs.exm hb_veT cls
  | 6, _ => T.X_InvalidPair.exm hb_veT cls
  | n + 7, h => absurd h (by omega)
theorem bs_lt : ∀ i, i < 7 → 7 ≤ bs i ∧ bs i ≤ 8 := by decide
theorem no_refs : ∀ n, 7 ≤ n → n ≤ 8 → ∀ x : Addr, (tlb n).contains (.ref x) = false := by
  intro n h1 h2 x
  have : n = 7 ∨ n = 8 := by omega
  rcases this with rfl | rfl <;> rfl
theorem ref_beq (x y : Addr) : (Value.ref x == Value.ref y) = decide (x = y) := by
  by_cases h : x = y
  · rw [h, decide_eq_true rfl]
    exact beq_self_eq_true _
  · rw [decide_eq_false h]
    exact beq_eq_false_iff_ne.mpr fun z => h (by injection z)
theorem inj_dec (T : All K mg a d tk c ci di) {i j : Nat} (hi : i < 9) (hj : j < 9) : decide (c i = c j) = decide (i = j) := decide_eq_decide.mpr ⟨T.inj i j hi hj, fun h => by rw [h]⟩
theorem exm_fact (T : All K mg a d tk c ci di) {i k : Nat} (hi : i < 7) (hk : k < 7) : PySem.W.exmOne K (.ref (c i)) (.ref (c k)) = some (decide (i = k)) := by
  obtain ⟨b1, b2⟩ := bs_lt i hi
  rw [exm_k T _ k hk, sub_fact T _ i hi, List.contains_cons, List.contains_cons, no_refs _ b1 b2, ref_beq, ref_beq, inj_dec T (by omega) (by omega), inj_dec T (by omega) (by omega), decide_eq_false (show ¬ k = bs i by omega)]
  have e : decide (k = i) = decide (i = k) := decide_eq_decide.mpr ⟨Eq.symm, Eq.symm⟩
  rw [e, Bool.or_false, Bool.or_false]
/-! another end for what is raised -/
theorem Rs.impE {i : Nat} {x : V} {H : Hp} {E E' : XK} (h : Rs c i x H E) (f : ∀ cls od H2, E cls od H2 → E' cls od H2) : Rs c i x H E' := fun dx H' h1 h2 h3 => f _ _ _ (h dx H' h1 h2 h3)
theorem colsO_impE {x : V} {H : Hp} {Q : VK} {E E' : XK} {o : Option (Addr × List V)} (h : colsO K c x H Q E o) (f : ∀ cls od H2, E cls od H2 → E' cls od H2) : colsO K c x H Q E' o := by
  cases o with
  | none => exact Rs.impE h f
  | some p =>
    obtain ⟨q, xs⟩ := p
    rcases h with ⟨h1, h2⟩ | ⟨h1, h2, bs, hp, hO⟩
    · exact .inl ⟨h1, h2.impE f⟩
    · refine .inr ⟨h1, h2, bs, hp, ?_⟩
      cases hw : walkC (xs.zip bs) [] with
      | some p =>
        obtain ⟨i, y⟩ := p
        rw [hw] at hO
        exact Rs.impE hO f
      | none =>
        rw [hw] at hO
        exact hO
theorem someO_impE {zs : List Str} {x : V} {H : Hp} {Q : VK} {E E' : XK} {o : Option (Addr × List V)} (h : someO K c zs x H Q E o) (f : ∀ cls od H2, E cls od H2 → E' cls od H2) : someO K c zs x H Q E' o := by
  cases o with
  | none => exact Rs.impE h f
  | some p =>
    obtain ⟨q, xs⟩ := p
    rcases h with ⟨h1, h2⟩ | ⟨h2, bs, hp, hO⟩
    · exact .inl ⟨h1, h2.impE f⟩
    · refine .inr ⟨h2, bs, hp, ?_⟩
      cases hw : walkS zs (xs.zip bs) [] with
      | some p =>
        obtain ⟨i, y⟩ := p
        rw [hw] at hO
        exact Rs.impE hO f
      | none =>
        rw [hw] at hO
        exact hO
theorem PairO.impE {zs : List Str} {x : V} {H : Hp} {Q : VK} {E E' : XK} (h : PairO K c zs x H Q E) (f : ∀ cls od H2, E cls od H2 → E' cls od H2) : PairO K c zs x H Q E' := by
  cases h with
  | oth h r => exact .oth h (r.impE f)
  | len q us e1 h l r => exact .len q us e1 h l (r.impE f)
  | lft q y z o e1 h hy l r => exact .lft q y z o e1 h hy l (r.impE f)
  | two q l xs bs r e1 h hs h5 hp hO =>
    refine .two q l xs bs r e1 h hs h5 hp ?_
    cases hw : walkS zs (xs.zip bs) [] with
    | some p =>
      obtain ⟨i, y⟩ := p
      rw [hw] at hO
      exact Rs.impE hO f
    | none =>
      rw [hw] at hO
      obtain ⟨b, hn, hO⟩ := hO
      refine ⟨b, hn, ?_⟩
      cases hc : ncR zs (xs.map strOf) r b with
      | some p =>
        obtain ⟨i, y⟩ := p
        rw [hc] at hO
        exact Rs.impE hO f
      | none =>
        rw [hc] at hO
        exact hO
theorem PrsW_imp {zs : List Str} {H H' : Hp} {F F' : List Pr → Prop} {E E' : XK} (e : Ex H H') (f : ∀ cls od H2, E cls od H2 → E' cls od H2) (g : ∀ rs, F rs → F' rs) : ∀ {us : List V} {rs : List Pr}, PrsW K c zs H F E us rs → PrsW K c zs H' F' E' us rs
  | [], rs, h => g rs h
  | u :: us, rs, .inl h => .inl ((h.ex e fun _ _ z => z).impE f)
  | u :: us, rs, .inr ⟨r, h1, h2⟩ => .inr ⟨r, h1.ex e, PrsW_imp e f g h2⟩
theorem InitO.imp {x y : V} {H H' : Hp} {F F' : List Str → List Pr → Prop} {E E' : XK} (h : InitO K c x y H F E) (e : Ex H H') (f : ∀ cls od H2, E cls od H2 → E' cls od H2) (g : ∀ zs rs, F zs rs → F' zs rs) : InitO K c x y H' F' E' := by
  cases h with
  | cols o hx h => exact .cols o (hx.ex e) (colsO_impE (colsO_ex h e fun _ _ z => z) f)
  | prs q zs o e1 hs h1 h5 hz nd hy l r => exact .prs q zs o e1 (hs.ex e) h1 h5 hz nd (hy.ex e) l ((r.ex e).impE f)
  | all q m zs us e1 hs h1 h5 hz nd e2 hm l hW => exact .all q m zs us e1 (hs.ex e) h1 h5 hz nd e2 (hm.ex e) l (PrsW_imp e f (g zs) hW)
  | dflt q m zs e1 hs h1 h5 hz nd e2 hm hW => exact .dflt q m zs e1 (hs.ex e) h1 h5 hz nd e2 hm (g zs [] hW)
/-! the suites -/
def wd (i : Nat) : Str := (["name", "columns", "twice", "rows"] : List Str).getD i ""
def RetT (z : Str) (v : V) (H : Hp) (Q : VK) : Prop := ∀ p H2, H p = none → Ex H H2 → H2 p = some (.lst [.str z, v]) → Q (.ref p) H2
theorem RetT.ex {z : Str} {v : V} {H H' : Hp} {Q : VK} (k : RetT z v H Q) (e : Ex H H') : RetT z v H' Q := fun p H2 hp e2 h => k p H2 (fresh_back e hp) (e.trans e2) h
def tE (c : Nat → Addr) (Q : VK) : XK := fun cls od H2 => ∃ (i : Nat) (x : V) (dx : Addr), i < 4 ∧ cls = .ref (c i) ∧ od = some dx ∧ H2 dx = some (.xd [(fldOf i, x)]) ∧ RetT (wd i) x H2 Q
theorem Rs.t {i : Nat} {x : V} {H : Hp} {Q : VK} (hi : i < 4) (k : RetT (wd i) x H Q) : Rs c i x H (tE c Q) := fun dx H' h1 h2 h3 => ⟨i, x, dx, hi, rfl, rfl, h3, k.ex h2⟩
abbrev asS (i : Nat) (ts : Addr → Value → Option Addr → TS) : Addr → Value → Option Addr → TS := fun a cls d D σ H => ts a cls d { nx := fun σ' H' => D.nx (σ'.set i none) H', rt := D.rt, bk := fun σ' H' => D.bk (σ'.set i none) H', ct := fun σ' H' => D.ct (σ'.set i none) H' } (σ.set i (some (.ref a))) H
abbrev hdl (K : PySem.W.Frag) (c : Nat → Addr) : List (Value × (Addr → Value → Option Addr → TS)) := [
  (.ref (c 3), asS 4 fun a cls d => tRet (tLst (tCons (tIf (tB (tCB (rIsX K a cls d) (tCons (tVar 4) (tCons (tC (.ref (c 7))) tNil)))) (tC (.str "rows")) (tC (.str ""))) (tCons (tXg K a cls d "value" (tVar 4)) tNil)))),
  (.ref (c 1), asS 4 fun a cls d => tRet (tLst (tCons (tC (.str "columns")) (tCons (tXg K a cls d "value" (tVar 4)) tNil)))),
  (.ref (c 0), asS 4 fun a cls d => tRet (tLst (tCons (tC (.str "name")) (tCons (tXg K a cls d "value" (tVar 4)) tNil)))),
  (.ref (c 2), asS 4 fun a cls d => tRet (tLst (tCons (tC (.str "twice")) (tCons (tXg K a cls d "name" (tVar 4)) tNil))))]
theorem told_catch (T : All K mg a d tk c ci di) {Wout : WX} {D : Ends} {s0 s1 s2 s3 s4 : Option V} {cls : Value} {od : Option Addr} {H2 : Hp} (h : tE c D.rt cls od H2) : wMany K Wout D (hdl K c) cls od [s0, s1, s2, s3, s4] H2 := by
  obtain ⟨i, x, dx, hi, rfl, rfl, h3, k⟩ := h
  have hi7 : i < 7 := by omega
  refine ⟨decide (i = 3), exm_fact T hi7 (by decide), fun hb a0 _ => ?_, fun hb => ?_⟩
  · have hk : i = 3 := of_decide_eq_true hb
    subst hk
    refine ⟨_, rfl, c 3, dx, _, .ref (c 7), .ref (c 7), true, rfl, rfl, rfl, T.X_InvalidRows.exc hb_veT ho_veT T.hn T.ht, h3, (fun u hu => hu), kit_base T.X_InvalidRows T.B_SearchError, true, rfl, ?_⟩
    exact ⟨_, rfl, c 3, dx, _, x, rfl, rfl, T.X_InvalidRows.xf hb_veT, T.X_InvalidRows.no "value" (by decide), rfl, h3, (by show List.lookup ("value" : Str) ([("value", x)] : List (Str × V)) = some x; rw [lookup_put, if_pos rfl]), sz_of (show 2 ≤ 100000 by decide), fun p hp => k p _ hp (Ex.new hp) upd_same⟩
  have n3 : i ≠ 3 := of_decide_eq_false hb
  refine ⟨decide (i = 1), exm_fact T hi7 (by decide), fun hb a0 _ => ?_, fun hb => ?_⟩
  · have hk : i = 1 := of_decide_eq_true hb
    subst hk
    exact ⟨_, rfl, c 1, dx, _, x, rfl, rfl, T.X_InvalidColumns.xf hb_veT, T.X_InvalidColumns.no "value" (by decide), rfl, h3, (by show List.lookup ("value" : Str) ([("value", x)] : List (Str × V)) = some x; rw [lookup_put, if_pos rfl]), sz_of (show 2 ≤ 100000 by decide), fun p hp => k p _ hp (Ex.new hp) upd_same⟩
  have n1 : i ≠ 1 := of_decide_eq_false hb
  refine ⟨decide (i = 0), exm_fact T hi7 (by decide), fun hb a0 _ => ?_, fun hb => ?_⟩
  · have hk : i = 0 := of_decide_eq_true hb
    subst hk
    exact ⟨_, rfl, c 0, dx, _, x, rfl, rfl, T.X_InvalidName.xf hb_veT, T.X_InvalidName.no "value" (by decide), rfl, h3, (by show List.lookup ("value" : Str) ([("value", x)] : List (Str × V)) = some x; rw [lookup_put, if_pos rfl]), sz_of (show 2 ≤ 100000 by decide), fun p hp => k p _ hp (Ex.new hp) upd_same⟩
  have n0 : i ≠ 0 := of_decide_eq_false hb
  refine ⟨decide (i = 2), exm_fact T hi7 (by decide), fun hb a0 _ => ?_, fun hb => ?_⟩
  · have hk : i = 2 := of_decide_eq_true hb
    subst hk
    exact ⟨_, rfl, c 2, dx, _, x, rfl, rfl, T.X_DuplicateName.xf hb_veT, T.X_DuplicateName.no "name" (by decide), rfl, h3, (by show List.lookup ("name" : Str) ([("name", x)] : List (Str × V)) = some x; rw [lookup_put, if_pos rfl]), sz_of (show 2 ≤ 100000 by decide), fun p hp => k p _ hp (Ex.new hp) upd_same⟩
  have n2 : i ≠ 2 := of_decide_eq_false hb
  omega
end
end Mv
/-! _law_told. -/
namespace Mv
open PySem PySem.Spec PyProof.Rows L2 Evl
section
variable {P : Program} {w : World} {K : PySem.W.Frag} {mg : Str → Option Value} {base : Heap} {a : Nat → Addr} {d : Nat → FuncData} {tk : Nat → Tok} {c ci : Nat → Addr} {di : Nat → FuncData}
def sp_init' (K : PySem.W.Frag) (c : Nat → Addr) (x y : V) (H : Hp) (Q : VK) (E : XK) : Prop := InitO K c x y H (fun zs rs => ∀ p H2, H p = none → Ex H H2 → DepR (c 9) H2 p zs (ordD encP rs) → Q (.ref p) H2) E
/-- what making them asks -/
theorem made_sp {x y : V} {H : Hp} {Q : VK} {E E' : XK} (h : sp_init' K c x y H Q E') (f : ∀ cls od H2, E' cls od H2 → E cls od H2) : ∀ p dx, H p = none → H dx = none → dx ≠ p → sp_Dependencies_init K c [.ref p, x, y] (upd (upd H dx (.own p)) p (.ins (c 9) dx [])) (fun v H2 => v = .non ∧ Q (.ref p) H2) E := fun p dx hp hd ne => by
  have e1 : Ex H (upd H dx (.own p)) := Ex.new hd
  have hp1 : upd H dx (.own p) p = none := by rw [upd_ne (Ne.symm ne)]; exact hp
  have e2 := e1.trans (Ex.new (o := .ins (c 9) dx []) hp1)
  exact ⟨p, dx, x, y, H, rfl, upd_same, hp, e2, InitO.imp h (Ex.refl H) f fun zs rs k H2 e hD => ⟨rfl, k p H2 hp e hD⟩⟩
theorem sp_init'.ex {x y : V} {H H' : Hp} {Q Q' : VK} {E : XK} (h : sp_init' K c x y H Q E) (e : Ex H H') (g : ∀ v H2, Ex H' H2 → Q v H2 → Q' v H2) : sp_init' K c x y H' Q' E := InitO.imp h e (fun _ _ _ z => z) fun zs rs k p H2 hp e2 hD => g _ _ e2 (k p H2 (fresh_back e hp) (e.trans e2) hD)
theorem s_told {tt : TT} {ta tb : TE} {D : Ends} {σ : L2.St} {H : Hp} {b : Bool} {z : Str} (h : EvT tt σ H b) (h1 : b = true → ∀ H1, Ex H H1 → ta σ H1 (fun v H2 => ([V.str z, v] : List V).length ≤ sizeLine ∧ ∀ p, H2 p = none → D.rt (.ref p) (upd H2 p (.lst [.str z, v])))) (h2 : b = false → ∀ H1, Ex H H1 → tb σ H1 (fun v H2 => ([V.str z, v] : List V).length ≤ sizeLine ∧ ∀ p, H2 p = none → D.rt (.ref p) (upd H2 p (.lst [.str z, v])))) :
    tRet (tLst (tCons (tC (.str z)) (tCons (tIf tt ta tb) tNil))) D σ H := h H (Ex.refl H) _ fun H1 e1 => by
  cases b with
  | true => exact h1 rfl H1 e1
  | false => exact h2 rfl H1 e1
end
end Mv
/-! The closures are right. -/
namespace Mv
open PySem PySem.Spec PyProof.Rows L2 Evl Cmb
/-- all but the box -/
def noB (b : Addr) (H : Hp) : Hp := fun a => if a = b then none else H a
theorem noB_b {b : Addr} {H : Hp} : noB b H b = none := if_pos rfl
theorem noB_ne {b a : Addr} {H : Hp} (h : a ≠ b) : noB b H a = H a := if_neg h
theorem noB_ex {b : Addr} {H : Hp} : Ex (noB b H) H := fun a o h => by
  by_cases e : a = b
  · rw [e, noB_b] at h
    cases h
  · rwa [noB_ne e] at h
theorem noB_exB {b : Addr} {H H' : Hp} (e : ExB b H H') : Ex (noB b H) H' := fun a o h => by
  by_cases q : a = b
  · rw [q, noB_b] at h
    cases h
  · rw [noB_ne q] at h
    exact e a o q h
theorem exB_of {b : Addr} {H H1 H' : Hp} (e : ExB b H H1) (e1 : Ex (noB b H1) H') : ExB b H H' := fun a o n h => e1 a o (by rw [noB_ne n]; exact e a o n h)
theorem ex_noB {b : Addr} {B H : Hp} (hb : B b = none) (e : Ex B H) : Ex B (noB b H) := fun a o h => by
  rw [noB_ne (fun q => by rw [q, hb] at h; cases h)]
  exact e a o h
theorem ex_exB {b : Addr} {B H H' : Hp} (hb : B b = none) (e : Ex B H) (e1 : ExB b H H') : Ex B H' := fun a o h => e1 a o (fun q => by rw [q, hb] at h; cases h) (e a o h)
theorem cutV_take (xs : List V) (n : Nat) : cutV xs none (some (n : Int)) = xs.take n := by
  by_cases h : n ≤ xs.length
  · exact cutV_to xs n h
  · unfold cutV
    rw [HT.sIx_nat, HT.sIx_none, Nat.min_eq_right (by omega), List.drop_zero, Nat.sub_zero, List.take_length, List.take_of_length_le (by omega)]
section
variable {K : PySem.W.Frag} {σ : L2.St} {H H' : Hp} {ta tb tc te tl : TE} {c : Nat → Addr}
theorem sm_map {n : Nat} : ∀ zs : List Str, Paired (Sm H (n + 1)) (zs.map V.str) (zs.map V.str)
  | [] => .nil
  | z :: zs => .cons (.inl ⟨rfl, .str z⟩) (sm_map zs)
theorem sm_lst {n : Nat} {p q : Addr} {xs ys : List V} (hp : H p = some (.lst xs)) (hq : H q = some (.lst ys)) (l : xs.length ≤ 200) (h : Paired (Sm H n) xs ys) : Sm H (n + 1) (.ref p) (.ref q) := .inr (.inr ⟨p, q, xs, ys, rfl, rfl, .inl ⟨hp, hq⟩, l, h⟩)
theorem sm_strs {n : Nat} {p q : Addr} {zs : List Str} (hp : H p = some (.lst (zs.map V.str))) (hq : H q = some (.lst (zs.map V.str))) (l : zs.length ≤ 200) : Sm H (n + 2) (.ref p) (.ref q) := sm_lst hp hq (by rw [List.length_map]; exact l) (sm_map zs)
theorem ev_sameV {x y : V} (h1 : Ev ta σ H x) (h2 : ∀ H1, Ex H H1 → Ev tb σ H1 y) (hs : ∀ H1, Ex H H1 → Sm H1 5 x y) : Ev (tCall (sp_same 5) [] E0 (tCons ta (tCons tb tNil))) σ H (.bl true) := fun H1 e Q q => h1 H1 e _ fun H2 e2 => h2 H2 (e.trans e2) H2 (Ex.refl _) _ fun H3 e3 => ⟨x, y, rfl, hs H3 ((e.trans e2).trans e3), fun H4 e4 => q H4 ((e2.trans e3).trans e4)⟩
theorem ev_sameVL {x : V} {ys : List V} (h1 : Ev ta σ H x) (h2 : ∀ H1, Ex H H1 → EvL tb σ H1 ys) (hs : ∀ q H1, Ex H H1 → H1 q = some (.lst ys) → Sm H1 5 x (.ref q)) : Ev (tCall (sp_same 5) [] E0 (tCons ta (tCons tb tNil))) σ H (.bl true) := fun H1 e Q q => h1 H1 e _ fun H2 e2 => h2 H2 (e.trans e2) H2 (Ex.refl _) _ fun p H3 _ e3 h3 => ⟨x, .ref p, rfl, hs p H3 ((e.trans e2).trans e3) h3, fun H4 e4 => q H4 ((e2.trans e3).trans e4)⟩
theorem ev_sameLL {xs ys : List V} (h1 : EvL ta σ H xs) (h2 : ∀ H1, Ex H H1 → EvL tb σ H1 ys) (hs : ∀ p q H1, Ex H H1 → H1 p = some (.lst xs) → H1 q = some (.lst ys) → Sm H1 5 (.ref p) (.ref q)) : Ev (tCall (sp_same 5) [] E0 (tCons ta (tCons tb tNil))) σ H (.bl true) := fun H1 e Q q => h1 H1 e _ fun p H2 _ e2 hp => h2 H2 (e.trans e2) H2 (Ex.refl _) _ fun p' H3 _ e3 h3 => ⟨.ref p, .ref p', rfl, hs p p' H3 ((e.trans e2).trans e3) (e3 _ _ hp) h3, fun H4 e4 => q H4 ((e2.trans e3).trans e4)⟩
/-- a told thing: the arguments as they are made -/
def EvG (tl : TE) (σ : L2.St) (H : Hp) (F : Hp → List V → Prop) : Prop := ∀ H1, Ex H H1 → ∀ Q : VK, (∀ q xs H2, Ex H1 H2 → H2 q = some (.lst xs) → (∀ H3, Ex H2 H3 → F H3 xs) → Q (.ref q) H2) → tl σ H1 Q
theorem eg_lst {tA : TA} {xs : List V} {F : Hp → List V → Prop} (h : EvA tA σ H xs) (hl : xs.length ≤ 100000) (f : ∀ H3, Ex H H3 → F H3 xs) : EvG (tLst tA) σ H F := fun H1 e Q q => h H1 e _ fun H2 e2 => ⟨sz_of hl, fun p hp => q p xs _ (e2.trans (Ex.new hp)) upd_same fun H3 e3 => f H3 (((e.trans e2).trans (Ex.new hp)).trans e3)⟩
end
theorem due_ok {zs : List Str} {rs : List Pr} (hz : ∀ z ∈ zs, nameB z = true) (h : ∀ r ∈ rs, RawP zs r) : (∀ r ∈ rs, okP r ∧ r.2 ∈ zs) ∧ ∀ r ∈ rs, okP r ∧ r.1.length ≤ 10 := by
  have o : ∀ r ∈ rs, okP r := fun r hr => ⟨fun z hm => ok_of_name (hz z ((h r hr).sub z hm)), ok_of_name (hz _ (h r hr).rz), by have := (h r hr).l3; omega⟩
  exact ⟨fun r hr => ⟨o r hr, (h r hr).rz⟩, fun r hr => ⟨o r hr, by have := (h r hr).l3; omega⟩⟩
section
variable {P : Program} {w : World} {K : PySem.W.Frag} {mg : Str → Option Value} {base : Heap} {a : Nat → Addr} {d : Nat → FuncData} {tk : Nat → Tok} {c ci : Nat → Addr} {di : Nat → FuncData}
end
end Mv
/-! Things of all kinds, in lists; wrong names. -/
namespace Mv
open PySem PySem.Spec PyProof.Rows L2 Evl
/-- what stays while the heap grows -/
def Sta (P : V → Hp → Prop) : Prop := ∀ v H1 H2, P v H1 → Ex H1 H2 → P v H2
def StaA (S : List V → Hp → Prop) : Prop := ∀ v H1 H2, S v H1 → Ex H1 H2 → S v H2
def EvAP (t : TA) (σ : L2.St) (H : Hp) (P : List V → Hp → Prop) : Prop := ∀ H1, Ex H H1 → ∀ Q : List V → Hp → Prop, (∀ vs H2, Ex H1 H2 → P vs H2 → Q vs H2) → t σ H1 Q
section
variable {K : PySem.W.Frag} {σ : L2.St} {H : Hp} {ta tb te tl : TE} {t : TA} {x y z : V} {D : Ends} {tz : TS} {P R : V → Hp → Prop} {S : List V → Hp → Prop}
theorem eap_nil : EvAP tNil σ H (fun vs _ => vs = []) := fun H1 _ Q q => q [] H1 (Ex.refl _) rfl
theorem eap_cons (h : EvP te σ H P) (sP : Sta P) (hr : EvAP t σ H S) : EvAP (tCons te t) σ H (fun vs H2 => ∃ v ws, vs = v :: ws ∧ P v H2 ∧ S ws H2) := fun H1 e Q q =>
  h H1 e _ fun v H2 e2 hv => hr H2 (e.trans e2) _ fun ws H3 e3 hw => q _ H3 (e2.trans e3) ⟨v, ws, rfl, sP _ _ _ hv e3, hw⟩
theorem EvP.imp (h : EvP te σ H P) (f : ∀ v H2, Ex H H2 → P v H2 → R v H2) : EvP te σ H R := fun H1 e Q q => h H1 e Q fun v H2 e2 hp => q v H2 e2 (f v H2 (e.trans e2) hp)
theorem EvAP.imp {R : List V → Hp → Prop} (h : EvAP t σ H S) (f : ∀ v H2, Ex H H2 → S v H2 → R v H2) : EvAP t σ H R := fun H1 e Q q => h H1 e Q fun v H2 e2 hp => q v H2 e2 (f v H2 (e.trans e2) hp)
theorem ep_of (h : Ev te σ H z) (hP : ∀ H1, Ex H H1 → P z H1) : EvP te σ H P := fun H1 e Q q => h H1 e _ fun H2 e2 => q z H2 e2 (hP H2 (e.trans e2))
theorem sta_eq {x : V} : Sta fun v _ => v = x := fun _ _ _ h _ => h
/-- all of them are P -/
def EvAl (t : TA) (σ : L2.St) (H : Hp) (P : V → Hp → Prop) (n : Nat) : Prop := EvAP t σ H fun vs H2 => vs.length = n ∧ ∀ v ∈ vs, P v H2
theorem al_nil : EvAl tNil σ H P 0 := fun H1 _ Q q => q [] H1 (Ex.refl _) ⟨rfl, fun _ h => nomatch h⟩
theorem al_cons {n : Nat} (sP : Sta P) (h : EvP te σ H P) (hr : EvAl t σ H P n) : EvAl (tCons te t) σ H P (n + 1) := fun H1 e Q q =>
  h H1 e _ fun v H2 e2 hv => hr H2 (e.trans e2) _ fun ws H3 e3 ⟨hl, hw⟩ => q _ H3 (e2.trans e3) ⟨by rw [List.length_cons, hl], fun y hy => by
    rcases List.mem_cons.mp hy with e | hy
    · rw [e]
      exact sP _ _ _ hv e3
    · exact hw y hy⟩
theorem s_retEP (h : EvP te σ H P) (k : ∀ v H1, Ex H H1 → P v H1 → D.rt v H1) : tRet te D σ H := h H (Ex.refl H) _ k
theorem al_fin {n : Nat} (sP : Sta P) (h : EvAl t σ H P n) (hn : n ≤ 100000) : EvP (tLst t) σ H (fun v H2 => ∃ l vs, v = .ref l ∧ H2 l = some (.lst vs) ∧ vs.length = n ∧ ∀ u ∈ vs, P u H2) := fun H1 e Q q => h H1 e _ fun vs H2 e2 ⟨hl, hv⟩ => ⟨sz_of (by omega), fun p hp => q _ _ (e2.trans (Ex.new hp)) ⟨p, vs, rfl, upd_same, hl, fun u hu => sP _ _ _ (hv u hu) (Ex.new hp)⟩⟩
theorem al_new {n : Nat} (sP : Sta P) (h : EvAl t σ H P n) (hn : n ≤ 100000) (k : ∀ l vs H1, H l = none → Ex H H1 → H1 l = some (.lst vs) → vs.length = n → (∀ u ∈ vs, P u H1) → D.rt (.ref l) H1) : tRet (tLst t) D σ H := h H (Ex.refl H) _ fun vs H2 e2 ⟨hl, hv⟩ => ⟨sz_of (by omega), fun p hp => k p vs _ (fresh_back e2 hp) (e2.trans (Ex.new hp)) upd_same hl fun u hu => sP _ _ _ (hv u hu) (Ex.new hp)⟩
/-- a list, a tuple of things -/
def LstOf (S : List V → Hp → Prop) : V → Hp → Prop := fun v H2 => ∃ l vs, v = .ref l ∧ H2 l = some (.lst vs) ∧ S vs H2
def TupOf (S : List V → Hp → Prop) : V → Hp → Prop := fun v H2 => ∃ l vs, v = .ref l ∧ H2 l = some (.tup vs) ∧ S vs H2
theorem sta_lst (sS : StaA S) : Sta (LstOf S) := fun v H1 H2 ⟨l, vs, h1, h2, h3⟩ e => ⟨l, vs, h1, e _ _ h2, sS _ _ _ h3 e⟩
theorem sta_tup (sS : StaA S) : Sta (TupOf S) := fun v H1 H2 ⟨l, vs, h1, h2, h3⟩ e => ⟨l, vs, h1, e _ _ h2, sS _ _ _ h3 e⟩
theorem staA_nil : StaA (fun vs _ => vs = []) := fun _ _ _ h _ => h
theorem staA_cons (sP : Sta P) (sS : StaA S) : StaA (fun vs H2 => ∃ v ws, vs = v :: ws ∧ P v H2 ∧ S ws H2) := fun _ _ _ ⟨v, ws, h1, h2, h3⟩ e => ⟨v, ws, h1, sP _ _ _ h2 e, sS _ _ _ h3 e⟩
theorem ep_lst (h : EvAP t σ H S) (sS : StaA S) (hl : ∀ vs H2, S vs H2 → vs.length ≤ 100000) : EvP (tLst t) σ H (LstOf S) := fun H1 e Q q => h H1 e _ fun vs H2 e2 hv => ⟨sz_of (hl _ _ hv), fun p hp => q _ _ (e2.trans (Ex.new hp)) ⟨p, vs, rfl, upd_same, sS _ _ _ hv (Ex.new hp)⟩⟩
theorem ep_tup (h : EvAP t σ H S) (sS : StaA S) (hl : ∀ vs H2, S vs H2 → vs.length ≤ 100000) : EvP (tTup t) σ H (TupOf S) := fun H1 e Q q => h H1 e _ fun vs H2 e2 hv => ⟨sz_of (hl _ _ hv), fun p hp => q _ _ (e2.trans (Ex.new hp)) ⟨p, vs, rfl, upd_same, sS _ _ _ hv (Ex.new hp)⟩⟩
/-- a list times a number -/
theorem ep_rep {k : Nat} (h : EvP ta σ H (LstOf S)) (sS : StaA S) (hk : k ≤ 20) (hl : ∀ vs H2, S vs H2 → vs.length ≤ 20) : EvP (tOp rRep ta (tC (.int (k : Int)))) σ H (LstOf fun ws H2 => ∃ vs, ws = (List.replicate k vs).flatten ∧ S vs H2) := fun H1 e Q q => h H1 e _ fun v H2 e2 ⟨l, vs, h1, h2, h3⟩ => by
  subst h1
  refine ⟨l, (k : Int), vs, rfl, rfl, h2, by omega, by omega, ?_, fun p hp => ?_⟩
  · have := hl _ _ h3
    have e0 : ((k : Int)).toNat = k := by omega
    rw [e0, sizeLine_eq]
    have : vs.length * k ≤ 20 * 20 := Nat.mul_le_mul this hk
    omega
  · have e0 : ((k : Int)).toNat = k := by omega
    rw [e0]
    exact q _ _ (e2.trans (Ex.new hp)) ⟨p, _, rfl, upd_same, vs, rfl, sS _ _ _ h3 (Ex.new hp)⟩
theorem ep_dict : EvP tDNewK σ H (fun v H2 => ∃ p, v = .ref p ∧ H2 p = some (.dK [])) := fun H1 e Q q p hp => q _ _ (Ex.new hp) ⟨p, rfl, upd_same⟩
theorem sta_dict : Sta (fun v H2 => ∃ p, v = .ref p ∧ H2 p = some (.dK [])) := fun _ _ _ ⟨p, h1, h2⟩ e => ⟨p, h1, e _ _ h2⟩
theorem EvP.g {F : Hp → List V → Prop} (h : EvP tl σ H (LstOf S)) (sS : StaA S) (f : ∀ H3 xs, Ex H H3 → S xs H3 → F H3 xs) : EvG tl σ H F := fun H1 e Q q => h H1 e _ fun v H2 e2 ⟨l, vs, h1, h2, h3⟩ => by
  subst h1
  exact q l vs H2 e2 h2 fun H3 e3 => f H3 vs ((e.trans e2).trans e3) (sS _ _ _ h3 e3)
end
section
variable {H : Hp}
theorem sm_refl {n : Nat} : ∀ {xs : List V}, (∀ x ∈ xs, Sm H n x x) → Paired (Sm H n) xs xs
  | [], _ => .nil
  | x :: xs, h => .cons (h x List.mem_cons_self) (sm_refl fun y hy => h y (List.mem_cons_of_mem _ hy))
theorem sm_tup {n : Nat} {p q : Addr} {xs ys : List V} (hp : H p = some (.tup xs)) (hq : H q = some (.tup ys)) (l : xs.length ≤ 200) (h : Paired (Sm H n) xs ys) : Sm H (n + 1) (.ref p) (.ref q) := .inr (.inr ⟨p, q, xs, ys, rfl, rfl, .inr ⟨hp, hq⟩, l, h⟩)
theorem sm_prim {n : Nat} {x : V} (h : Prim x) : Sm H (n + 1) x x := .inl ⟨rfl, h⟩
theorem sm_d0 {n : Nat} {p : Addr} (h : H p = some (.dK [])) : Sm H (n + 1) (.ref p) (.ref p) := .inr (.inl ⟨p, rfl, rfl, h⟩)
end
section
variable {P : Program} {w : World} {K : PySem.W.Frag} {mg : Str → Option Value} {base : Heap} {a : Nat → Addr} {d : Nat → FuncData} {tk : Nat → Tok} {c ci : Nat → Addr} {di : Nat → FuncData}
theorem name_no {H : Hp} {z : Str} (h : nameB z = false) (l : z.length ≤ 1000) : NameR K H (.str z) false := by
  have z0 := NameR.str (K := K) (H := H) z l
  rw [h] at z0
  exact z0
theorem free3 : ∀ z ∈ (["q", "other", "zz"] : List Str), z ∉ allNm ∧ nameB z = true := by decide +kernel
end
end Mv
/-! What is wrong is refused. -/
namespace Mv
open PySem PySem.Spec PyProof.Rows L2 Evl
section
variable {K : PySem.W.Frag} {σ : L2.St} {H H' : Hp} {ta tb te tl : TE} {t : TA} {x y z v : V} {D : Ends} {tu tz : TS} {P R : V → Hp → Prop} {S : List V → Hp → Prop}
theorem q_forAl {n j : Nat} (sP : Sta P) (h : EvAl t σ H P n) (hn : n ≤ 100000) (I : L2.St → Prop) (h0 : I σ) (hs : ∀ (N : L2.St → Hp → Prop) x σ' H', (∀ σ2 H2, Ex H' H2 → I σ2 → N σ2 H2) → Ex H H' → P x H' → I σ' → tu { D with nx := N, ct := N, bk := tz D } (σ'.set j (some x)) H') (hd : ∀ σ' H', Ex H H' → I σ' → tz D σ' H') :
    tSeq (tFor (iList K (tLst t)) (gName j) tu) tz D σ H := h H (Ex.refl H) _ fun vs H2 e2 ⟨hl, hv⟩ => ⟨sz_of (by omega), fun p hp => by
  have e3 : Ex H2 (upd H2 p (.lst vs)) := Ex.new hp
  refine ⟨p, rfl, ⟨_, sq_of upd_same⟩, for_list (K := K) (a := p) (xs := vs) (fun _ σ' H' => Ex (upd H2 p (.lst vs)) H' ∧ I σ') ⟨Ex.refl _, h0⟩ (fun i σ' H' _ z => sq_of (z.1 _ _ upd_same)) (fun i x σ' H' hi q => ?_) fun σ' H' q => hd σ' H' ((e2.trans e3).trans q.1) q.2⟩
  exact hs _ x σ' H' (fun σ2 H2 e i => ⟨q.1.trans e, i⟩) ((e2.trans e3).trans q.1) (sP _ _ _ (hv x (List.mem_of_getElem? hi)) (e3.trans q.1)) q.2⟩
/-- new list [i] -/
theorem ev_ixN {xs : List V} {i : Int} (h : EvL ta σ H xs) (hb : ∀ H1, Ex H H1 → Ev tb σ H1 (.int i)) (hi : atI xs i = some v) : Ev (tOp (rIxL K) ta tb) σ H v := ev_opL h hb fun p H1 _ h1 => rv_ixL (sq_of h1) hi
theorem q_asgAl {n i : Nat} (sP : Sta P) (h : EvAl t σ H P n) (hn : n ≤ 100000) (k : ∀ l vs H1, H l = none → Ex H H1 → H1 l = some (.lst vs) → vs.length = n → (∀ u ∈ vs, P u H1) → tz D (σ.set i (some (.ref l))) H1) : tSeq (tAsg (tLst t) (gName i)) tz D σ H := h H (Ex.refl H) _ fun vs H2 e2 ⟨hl, hv⟩ => ⟨sz_of (by omega), fun p hp => k p vs _ (fresh_back e2 hp) (e2.trans (Ex.new hp)) upd_same hl fun u hu => sP _ _ _ (hv u hu) (Ex.new hp)⟩
theorem q_asgCatAl {n i : Nat} {r : Addr} {us : List V} (sP : Sta P) (h1 : Ev ta σ H (.ref r)) (hr : H r = some (.lst us)) (hu : ∀ u ∈ us, P u H) (h : EvAl t σ H P n) (hn : us.length + n ≤ 40000) (k : ∀ l vs H1, H l = none → Ex H H1 → H1 l = some (.lst vs) → vs.length = us.length + n → (∀ u ∈ vs, P u H1) → tz D (σ.set i (some (.ref l))) H1) :
    tSeq (tAsg (tOp rCat ta (tLst t)) (gName i)) tz D σ H := h1 H (Ex.refl H) _ fun H1 e1 => h H1 e1 _ fun vs H2 e2 ⟨hl, hv⟩ => ⟨sz_of (by omega), fun p hp => by
  have e3 : Ex H2 (upd H2 p (.lst vs)) := Ex.new hp
  refine ⟨r, p, us, vs, rfl, rfl, ((e1.trans e2).trans e3) _ _ hr, upd_same, sz_of (by omega), fun q hq => ?_⟩
  have e4 : Ex (upd H2 p (.lst vs)) (upd (upd H2 p (.lst vs)) q (.lst (us ++ vs))) := Ex.new hq
  refine k q (us ++ vs) _ (fresh_back ((e1.trans e2).trans e3) hq) (((e1.trans e2).trans e3).trans e4) upd_same (by rw [List.length_append, hl]) fun u hm => ?_
  rcases List.mem_append.mp hm with hm | hm
  · exact sP _ _ _ (hu u hm) (((e1.trans e2).trans e3).trans e4)
  · exact sP _ _ _ (hv u hm) (e3.trans e4)⟩
/-- a new list [w, x] -/
def PL (w : Str) (x : V) : V → Hp → Prop := fun v H => ∃ l, v = .ref l ∧ H l = some (.lst [.str w, x])
theorem sta_PL {w : Str} {x : V} : Sta (PL w x) := fun _ _ _ ⟨l, h1, h2⟩ e => ⟨l, h1, e _ _ h2⟩
theorem EvL.pl {w : Str} {x : V} (h : EvL te σ H [.str w, x]) : EvP te σ H (PL w x) := fun H1 e Q q => h H1 e _ fun p H2 _ e2 h2 => q _ H2 e2 ⟨p, rfl, h2⟩
end
/-! what is no list, or too long -/
def NoList (K : PySem.W.Frag) (m : Nat) (x : V) (H : Hp) : Prop := (∃ o, ListR K H x o ∧ ∀ p xs, o = some (p, xs) → m < xs.length) ∧ Sm H 3 x x
theorem sta_NoList {K : PySem.W.Frag} {m : Nat} : Sta (NoList K m) := fun _ _ _ ⟨⟨o, h1, h2⟩, h3⟩ e => ⟨⟨o, h1.ex e, h2⟩, h3.ex e⟩
theorem noL_of {K : PySem.W.Frag} {m : Nat} {x : V} {H : Hp} {v1 v2 v3 : Bool} (h : Is5 K H x v1 v2 v3 false false) (s : Sm H 3 x x) : NoList K m x H := ⟨⟨none, .oth h, fun _ _ h => nomatch h⟩, s⟩
theorem noL_lst {K : PySem.W.Frag} {m : Nat} {l : Addr} {xs : List V} {H : Hp} (h : H l = some (.lst xs)) (lx : m < xs.length) (l60 : xs.length ≤ 200) (s : ∀ x ∈ xs, Sm H 2 x x) : NoList K m (.ref l) H := ⟨⟨some (l, xs), .seq (.inl h), fun p ys e => by cases e; exact lx⟩, sm_lst h h l60 (sm_refl s)⟩
theorem NoList.some {K : PySem.W.Frag} {c : Nat → Addr} {zs : List Str} {x : V} {H : Hp} {E : XK} (h : NoList K 5 x H) (r : Rs c 1 x H E) : ∃ o, ListR K H x o ∧ someO K c zs x H (fun _ _ => False) E o := by
  obtain ⟨⟨o, h1, h2⟩, _⟩ := h
  refine ⟨o, h1, ?_⟩
  cases o with
  | none => exact r
  | some p =>
    obtain ⟨q, xs⟩ := p
    exact .inl ⟨Nat.not_le.mpr (h2 q xs rfl), r⟩
/-! what is no pair -/
inductive Bad5 (K : PySem.W.Frag) (x : V) (H : Hp) : Prop
  | oth {v1 v2 v3 v4 : Bool} (h : Is5 K H x v1 v2 v3 v4 false)
  | len (q : Addr) (us : List V) (e : x = .ref q) (h : H q = some (.tup us)) (l : us.length ≠ 2)
  | lft (q : Addr) (y z : V) (o : Option (Addr × List V)) (e : x = .ref q) (h : H q = some (.tup [y, z])) (hy : ListR K H y o) (l : ∀ p xs, o = some (p, xs) → 5 < xs.length)
theorem Bad5.ex {K : PySem.W.Frag} {x : V} {H H' : Hp} (h : Bad5 K x H) (e : Ex H H') : Bad5 K x H' := by
  cases h with
  | oth h => exact .oth (h.ex e)
  | len q us e1 h l => exact .len q us e1 (e _ _ h) l
  | lft q y z o e1 h hy l => exact .lft q y z o e1 (e _ _ h) (hy.ex e) l
theorem Bad5.o {K : PySem.W.Frag} {c : Nat → Addr} {zs : List Str} {x : V} {H : Hp} {Q : VK} {E : XK} (h : Bad5 K x H) (r : Rs c 6 x H E) : PairO K c zs x H Q E := by
  cases h with
  | oth h => exact .oth h r
  | len q us e1 h l => exact .len q us e1 h l r
  | lft q y z o e1 h hy l => exact .lft q y z o e1 h hy l r
def NoPair (K : PySem.W.Frag) (x : V) (H : Hp) : Prop := Bad5 K x H ∧ Sm H 3 x x
theorem sta_NoPair {K : PySem.W.Frag} : Sta (NoPair K) := fun _ _ _ ⟨h1, h3⟩ e => ⟨h1.ex e, h3.ex e⟩
/-! what are no columns: what is told of them -/
def NoCols (K : PySem.W.Frag) (x : V) (w : Str) (H : Hp) : Prop := ∃ (o : Option (Addr × List V)) (i : Nat) (y : V), i < 4 ∧ wd i = w ∧ ListR K H x o ∧ ((o = none ∧ i = 1 ∧ y = x) ∨ ∃ p xs, o = some (p, xs) ∧ ((¬ (1 ≤ xs.length ∧ xs.length ≤ 5) ∧ i = 1 ∧ y = x) ∨ (1 ≤ xs.length ∧ xs.length ≤ 5 ∧ ∃ bs, Paired (NameR K H) xs bs ∧ walkC (xs.zip bs) [] = some (i, y))))
theorem NoCols.ex {K : PySem.W.Frag} {x : V} {w : Str} {H H' : Hp} (h : NoCols K x w H) (e : Ex H H') : NoCols K x w H' := by
  obtain ⟨o, i, y, h1, h2, h3, h4⟩ := h
  refine ⟨o, i, y, h1, h2, h3.ex e, ?_⟩
  rcases h4 with h4 | ⟨p, xs, e1, h4⟩
  · exact .inl h4
  · refine .inr ⟨p, xs, e1, ?_⟩
    rcases h4 with h4 | ⟨l1, l2, bs, hp, hw⟩
    · exact .inl h4
    · exact .inr ⟨l1, l2, bs, Paired.imp (fun _ _ z => z.ex e) hp, hw⟩
def NoColsL (K : PySem.W.Frag) : V → Hp → Prop := fun v H => ∃ l x w, v = .ref l ∧ H l = some (.lst [x, .str w]) ∧ NoCols K x w H
theorem sta_NoColsL {K : PySem.W.Frag} : Sta (NoColsL K) := fun _ _ _ ⟨l, x, w, h1, h2, h3⟩ e => ⟨l, x, w, h1, e _ _ h2, h3.ex e⟩
/-! the three ways of a wrong name -/
section
variable {K : PySem.W.Frag} {c : Nat → Addr} {zs : List Str} {z0 : Str} {x : V} {w : Str} {H : Hp} {rs : List Pr}
theorem walk_wv {b : Bool} {i : Nat} (h0 : z0 ∈ zs) (e : ncR zs [z0] x b = some (i, x)) {r : List (V × Bool)} : walkS zs ((.str z0, true) :: (x, b) :: r) [] = some (i, x) := by
  rw [walkS, ncR_ok (ws := []) h0 (fun h => nomatch h)]
  show walkS zs ((x, b) :: r) [z0] = _
  rw [walkS, e]
theorem wv_pairL {q l : Addr} {r : V} {Q : VK} {E : XK} (G : DG zs rs) (h0 : z0 ∈ zs) {b : Bool} {i : Nat} (hn : NameR K H x b) (e : ncR zs [z0] x b = some (i, x)) (hq : H q = some (.tup [.ref l, r])) (hl : H l = some (.lst [.str z0, x, .non])) (k : Rs c i x H E) : PairO K c zs (.ref q) H Q E := by
  refine .two q l [.str z0, x, .non] [true, b, false] r rfl hq (.inl hl) (show 3 ≤ 5 by decide) (.cons (nameR_ok (G.hz z0 h0)) (.cons hn (.cons (.oth is_non) .nil))) ?_
  rw [show ([V.str z0, x, .non] : List V).zip [true, b, false] = (.str z0, true) :: (x, b) :: [(.non, false)] from rfl, walk_wv h0 e]
  exact k
theorem wv_pairR {q l : Addr} {Q : VK} {E : XK} (G : DG zs rs) (h0 : z0 ∈ zs) {b : Bool} {i : Nat} (hn : NameR K H x b) (e : ncR zs [z0] x b = some (i, x)) (hq : H q = some (.tup [.ref l, x])) (hl : H l = some (.lst [.str z0])) (k : Rs c i x H E) : PairO K c zs (.ref q) H Q E := by
  refine .two q l [.str z0] [true] x rfl hq (.inl hl) (show 1 ≤ 5 by decide) (.cons (nameR_ok (G.hz z0 h0)) .nil) ?_
  have ew : walkS zs (([V.str z0] : List V).zip [true]) [] = none := by
    show walkS zs [(.str z0, true)] [] = none
    rw [walkS, ncR_ok (ws := []) h0 (fun h => nomatch h)] <;> rfl
  rw [ew]
  refine ⟨b, hn, ?_⟩
  rw [show ([V.str z0] : List V).map strOf = [z0] from rfl, e]
  exact k
theorem wv_some {l : Addr} {E : XK} (G : DG zs rs) (h0 : z0 ∈ zs) {b : Bool} {i : Nat} (hn : NameR K H x b) (e : ncR zs [z0] x b = some (i, x)) (hl : H l = some (.lst [.str z0, x, .non])) (k : Rs c i x H E) : ListR K H (.ref l) (some (l, [.str z0, x, .non])) ∧ someO K c zs (.ref l) H (fun _ _ => False) E (some (l, [.str z0, x, .non])) := by
  refine ⟨.seq (.inl hl), .inr ⟨show 3 ≤ 5 by decide, [true, b, false], .cons (nameR_ok (G.hz z0 h0)) (.cons hn (.cons (.oth is_non) .nil)), ?_⟩⟩
  rw [show ([V.str z0, x, .non] : List V).zip [true, b, false] = (.str z0, true) :: (x, b) :: [(.non, false)] from rfl, walk_wv h0 e]
  exact k
end
end Mv
/-! _law_refused. -/
namespace Mv
open PySem PySem.Spec PyProof.Rows L2 Evl
section
variable {K : PySem.W.Frag} {σ : L2.St} {H H' : Hp} {ta tb te tl : TE} {t : TA} {x y z v : V} {P R : V → Hp → Prop}
/-- (a new list, y) -/
def TL (xs : List V) (y : V) : V → Hp → Prop := fun v H => ∃ t l, v = .ref t ∧ H t = some (.tup [.ref l, y]) ∧ H l = some (.lst xs)
theorem sta_TL {xs : List V} {y : V} : Sta (TL xs y) := fun _ _ _ ⟨t, l, h1, h2, h3⟩ e => ⟨t, l, h1, e _ _ h2, e _ _ h3⟩
theorem ep_tupL {xs : List V} (h : EvL te σ H xs) (hb : ∀ H1, Ex H H1 → Ev tb σ H1 y) : EvP (tTup (tCons te (tCons tb tNil))) σ H (TL xs y) := fun H1 e Q k => h H1 e _ fun p H2 _ e2 h2 => hb H2 (e.trans e2) H2 (Ex.refl _) _ fun H3 e3 => ⟨sz_of (show 2 ≤ 100000 by decide), fun t ht => k _ _ ((e2.trans e3).trans (Ex.new ht)) ⟨t, p, rfl, upd_same, (Ex.new ht) _ _ (e3 _ _ h2)⟩⟩
def LH (vs : List V) (P : V → Hp → Prop) : V → Hp → Prop := fun v H => ∃ l u, v = .ref l ∧ H l = some (.lst (u :: vs)) ∧ P u H
theorem sta_LH {vs : List V} (sP : Sta P) : Sta (LH vs P) := fun _ _ _ ⟨l, u, h1, h2, h3⟩ e => ⟨l, u, h1, e _ _ h2, sP _ _ _ h3 e⟩
theorem ep_lst1 {vs : List V} (sP : Sta P) (h : EvP te σ H P) (ht : ∀ H1, Ex H H1 → EvA t σ H1 vs) (hl : vs.length ≤ 1000) : EvP (tLst (tCons te t)) σ H (LH vs P) := fun H1 e Q k => h H1 e _ fun u H2 e2 h2 => ht H2 (e.trans e2) H2 (Ex.refl _) _ fun H3 e3 => ⟨sz_of (by rw [List.length_cons]; omega), fun p hp => k _ _ ((e2.trans e3).trans (Ex.new hp)) ⟨p, u, rfl, upd_same, sP _ _ _ (sP _ _ _ h2 e3) (Ex.new hp)⟩⟩
theorem eg_2 {F : Hp → List V → Prop} (sP : Sta P) (h1 : Ev ta σ H x) (h2 : ∀ H1, Ex H H1 → EvP tb σ H1 P) (f : ∀ H3 y, Ex H H3 → P y H3 → F H3 [x, y]) : EvG (tLst (tCons ta (tCons tb tNil))) σ H F := fun H1 e Q q => h1 H1 e _ fun H2 e2 => h2 H2 (e.trans e2) H2 (Ex.refl _) _ fun y H3 e3 hy => ⟨sz_of (show 2 ≤ 100000 by decide), fun p hp =>
  q p _ _ ((e2.trans e3).trans (Ex.new hp)) upd_same fun H4 e4 => f H4 y ((((e.trans e2).trans e3).trans (Ex.new hp)).trans e4) (sP _ _ _ hy ((Ex.new hp).trans e4))⟩
theorem eg_3 {tc : TE} {F : Hp → List V → Prop} (sP : Sta P) (h1 : Ev ta σ H x) (h2 : ∀ H1, Ex H H1 → EvP tb σ H1 P) (h3 : ∀ H1, Ex H H1 → Ev tc σ H1 z) (f : ∀ H3 y, Ex H H3 → P y H3 → F H3 [x, y, z]) : EvG (tLst (tCons ta (tCons tb (tCons tc tNil)))) σ H F := fun H1 e Q q => h1 H1 e _ fun H2 e2 => h2 H2 (e.trans e2) H2 (Ex.refl _) _ fun y H3 e3 hy => h3 H3 ((e.trans e2).trans e3) H3 (Ex.refl _) _ fun H3' e3' => ⟨sz_of (show 3 ≤ 100000 by decide), fun p hp =>
  q p _ _ (((e2.trans e3).trans e3').trans (Ex.new hp)) upd_same fun H4 e4 => f H4 y (((((e.trans e2).trans e3).trans e3').trans (Ex.new hp)).trans e4) (sP _ _ _ hy ((e3'.trans (Ex.new hp)).trans e4))⟩
theorem ep_L {xs : List V} (h : EvL te σ H xs) : EvP te σ H (fun v H2 => ∃ l, v = .ref l ∧ H2 l = some (.lst xs)) := fun H1 e Q q => h H1 e _ fun p H2 _ e2 h2 => q _ H2 e2 ⟨p, rfl, h2⟩
theorem sta_L {xs : List V} : Sta (fun v H2 => ∃ l, v = .ref l ∧ H2 l = some (.lst xs)) := fun _ _ _ ⟨l, h1, h2⟩ e => ⟨l, h1, e _ _ h2⟩
theorem el_rep {k : Nat} {l : Addr} {xs : List V} (h : Ev ta σ H (.ref l)) (hl : H l = some (.lst xs)) (h1 : k ≤ 20) (h2 : xs.length ≤ 20) : EvL (tOp rRep ta (tC (.int (k : Int)))) σ H (List.replicate k xs).flatten := fun H1 e Q q => h H1 e _ fun H2 e2 => by
  refine ⟨l, (k : Int), xs, rfl, rfl, (e.trans e2) _ _ hl, by omega, by omega, ?_, fun p hp => ?_⟩
  · have e0 : ((k : Int)).toNat = k := by omega
    rw [e0, sizeLine_eq]
    have : xs.length * k ≤ 20 * 20 := Nat.mul_le_mul h2 h1
    omega
  · have e0 : ((k : Int)).toNat = k := by omega
    rw [e0]
    exact q p _ (fresh_back e2 hp) (e2.trans (Ex.new hp)) upd_same
theorem el_repN {k : Nat} {xs : List V} (h : EvL ta σ H xs) (h1 : k ≤ 20) (h2 : xs.length ≤ 20) : EvL (tOp rRep ta (tC (.int (k : Int)))) σ H (List.replicate k xs).flatten := fun H1 e Q q => h H1 e _ fun l H2 hl e2 hl2 => by
  refine ⟨l, (k : Int), xs, rfl, rfl, hl2, by omega, by omega, ?_, fun p hp => ?_⟩
  · have e0 : ((k : Int)).toNat = k := by omega
    rw [e0, sizeLine_eq]
    have : xs.length * k ≤ 20 * 20 := Nat.mul_le_mul h2 h1
    omega
  · have e0 : ((k : Int)).toNat = k := by omega
    rw [e0]
    exact q p _ (fresh_back e2 hp) (e2.trans (Ex.new hp)) upd_same
/-- the common end of a turn -/
theorem chk {pt : Addr} {W : Str} {i5 i4 : Nat} (h5 : σ[i5]? = some (some (.ref pt))) (h4 : σ[i4]? = some (some x)) (h : H pt = some (.lst [.str W, x])) (s : Sm H 3 x x) (hW : Ev tb σ H (.str W)) :
    EvT (tOr (tTest (tOp rNe (tOp (rIxL K) (tVar i5) (tC (.int 0))) tb)) (tNot (tB (tCall (sp_same 5) [] E0 (tCons (tOp (rIxL K) (tVar i5) (tC (.int 1))) (tCons (tVar i4) tNil)))))) σ H false :=
  et_or (a := false) (b := false) (et_is (et_test (ev_op (ev_ixL (i := 0) (ev_var h5) ev_c (sq_of h) (atI_nat (j := 0) rfl)) hW (rv_ne rfl))) (by rw [decide_eq_true rfl] <;> rfl)) fun _ => et_not (a := true) (et_B (ev_sameV (ev_ixL (i := 1) (ev_var h5) ev_c (sq_of h) (atI_nat (j := 1) rfl)) (fun H1 e1 => ev_var h4) fun H1 e1 => (s.ex e1).up (by decide)))
theorem rep1 (n : Nat) (x : V) : (List.replicate n [x]).flatten = List.replicate n x := by
  induction n with
  | zero => rfl
  | succ n ih => rw [List.replicate_succ, List.flatten_cons, ih, List.replicate_succ] <;> rfl
theorem rep_len (n : Nat) (xs : List V) : (List.replicate n xs).flatten.length = n * xs.length := by
  induction n with
  | zero => simp
  | succ n ih => rw [List.replicate_succ, List.flatten_cons, List.length_append, ih, Nat.succ_mul, Nat.add_comm]
theorem rep_mem {n : Nat} {xs : List V} {x : V} (h : x ∈ (List.replicate n xs).flatten) : x ∈ xs := by
  obtain ⟨l, hl, hx⟩ := List.mem_flatten.mp h
  rw [(List.mem_replicate.mp hl).2] at hx
  exact hx
end
section
variable {P : Program} {w : World} {K : PySem.W.Frag} {mg : Str → Option Value} {base : Heap} {a : Nat → Addr} {d : Nat → FuncData} {tk : Nat → Tok} {c ci : Nat → Addr} {di : Nat → FuncData}
/-- the names that stay -/
def St9 (b p q : Addr) : L2.St → Prop := fun σ' => ∃ (bn : Bool) (v4 v5 v6 v7 v8 : Option V), σ' = [some (.ref b), some (.ref p), some (.ref q), some (.bl bn), v4, v5, v6, v7, v8]
end
end Mv
/-! Tools for what is made. -/
namespace Mv
open PySem PySem.Spec PyProof.Rows L2 Evl
section
variable {K : PySem.W.Frag} {c : Nat → Addr} {zs : List Str} {H H' : Hp} {E : XK}
theorem good_of {u : V} {r : Pr} (h : PairAt H u r) (R : RawP zs r) : GoodP zs u H (nrm r) := let ⟨t, v, h1, h2, h3⟩ := h; ⟨t, v, r.1, h1, h2, .inl h3, by have := R.l3; omega, R.sub, R.nd, R.rz, R.rn, rfl⟩
/-- a tuple of a reversed tuple -/
def TupR : ItP Pr := fun S H u r => ∃ t v : Addr, u = .ref t ∧ S t ∧ S v ∧ H t = some (.tup [.ref v, .str r.2]) ∧ H v = some (.tup (r.1.reverse.map V.str))
theorem mv_R : MvP TupR := fun _ _ _ _ _ _ ⟨t, v, h1, h2, h3, h4, h5⟩ e => ⟨t, v, h1, (e _ _ h2 h4).1, (e _ _ h3 h5).1, (e _ _ h2 h4).2, (e _ _ h3 h5).2⟩
theorem srtS_rev (zs : List Str) : srtS zs.reverse = srtS zs := ordD_congr injS (List.reverse_perm zs)
theorem good_rev {S : Addr → Prop} {u : V} {r : Pr} (h : TupR S H u r) (R : RawP zs r) : GoodP zs u H (nrm r) := let ⟨t, v, h1, _, _, h2, h3⟩ := h; ⟨t, v, r.1.reverse, h1, h2, .inr h3, by have := R.l3; rw [List.length_reverse]; omega, fun y hy => R.sub y (List.mem_reverse.mp hy), ((List.reverse_perm r.1).nodup_iff).mpr R.nd, R.rz, fun hm => R.rn (List.mem_reverse.mp hm), (srtS_rev r.1).symm⟩
theorem prsW_all {F : List Pr → Prop} : ∀ {us : List V} {rs : List Pr} (acc : List Pr), Paired (fun u r => GoodP zs u H (nrm r)) us rs → F (dd acc (rs.map nrm)) → PrsW K c zs H F E us acc
  | _, _, acc, .nil, k => k
  | _, _, acc, .cons (b := r) h t, k => .inr ⟨nrm r, h, prsW_all _ t k⟩
theorem dueP_len (rs : List Pr) : (dueP rs).length ≤ rs.length := by
  unfold dueP
  rw [ordD_length]
  have z := nodup_len (dd_nodup (rs.map nrm) [] List.nodup_nil) (ys := rs.map nrm) fun r hr => by
    rw [dd_mem] at hr
    exact hr.resolve_left (fun h => nomatch h)
  rw [List.length_map] at z
  exact z
theorem dg_due {rs : List Pr} (l1 : 1 ≤ zs.length) (l5 : zs.length ≤ 5) (hz : ∀ z ∈ zs, nameB z = true) (nd : zs.Nodup) (hR : ∀ r ∈ rs, RawP zs r) (hl : rs.length ≤ 10) : DG zs (dueP rs) := by
  obtain ⟨o1, _⟩ := due_ok hz hR
  refine ⟨l1, l5, hz, nd, fun r hr => ?_, by have := dueP_len rs; omega, fun r hr => ?_⟩
  · obtain ⟨q, hq, rfl⟩ := List.mem_map.mp (dueP_mem.mp hr)
    exact okP_nrm (o1 q hq).1
  · obtain ⟨q, hq, rfl⟩ := List.mem_map.mp (dueP_mem.mp hr)
    exact (o1 q hq).2
theorem dueP_perm {rs qs : List Pr} (p : rs.Perm qs) : dueP rs = dueP qs := dueP_congr fun r => (p.map nrm).mem_iff
/-- they are made: columns in x, pairs in y -/
def MadeG (K : PySem.W.Frag) (c : Nat → Addr) (zs : List Str) (rs : List Pr) (x y : V) (H : Hp) : Prop := ∀ (F : List Str → List Pr → Prop) (E : XK), F zs (dd [] (rs.map nrm)) → InitO K c x y H F E
theorem madeG {q m : Addr} {us : List V} {rs : List Pr} (l1 : 1 ≤ zs.length) (l5 : zs.length ≤ 5) (hz : ∀ z ∈ zs, nameB z = true) (nd : zs.Nodup) (hq : Seq H q (zs.map V.str)) (hm : Seq H m us) (hl : us.length ≤ 10) (hp : Paired (fun u r => GoodP zs u H (nrm r)) us rs) : MadeG K c zs rs (.ref q) (.ref m) H := fun F E k =>
  .all q m zs us rfl hq l1 l5 hz nd rfl hm hl (prsW_all [] hp k)
theorem made_at {x y : V} {rs : List Pr} {p dx : Addr} {R : Hp → Prop} (hm : MadeG K c zs rs x y H) (hp : H p = none) (hd : H dx = none) (ne : dx ≠ p) (k : ∀ H2, Ex H H2 → DepR (c 9) H2 p zs (dueP rs) → R H2) : sp_Dependencies_init K c [.ref p, x, y] (upd (upd H dx (.own p)) p (.ins (c 9) dx [])) (fun v H2 => v = .non ∧ R H2) E := by
  have e1 : Ex H (upd H dx (.own p)) := Ex.new hd
  have hp1 : upd H dx (.own p) p = none := by rw [upd_ne (Ne.symm ne)]; exact hp
  have e2 := e1.trans (Ex.new (o := .ins (c 9) dx []) hp1)
  exact ⟨p, dx, x, y, H, rfl, upd_same, hp, e2, hm _ _ fun H2 e hD => ⟨rfl, k H2 e hD⟩⟩
/-- an expression that makes them -/
def EvD (c : Nat → Addr) (te : TE) (σ : L2.St) (H : Hp) (zs : List Str) (rs : List Pr) : Prop := ∀ H1, Ex H H1 → ∀ Q : VK, (∀ p H2, H1 p = none → Ex H1 H2 → DepR (c 9) H2 p zs (dueP rs) → Q (.ref p) H2) → te σ H1 Q
/-- two arguments as they are made -/
def EvA2 (t : TA) (σ : L2.St) (H : Hp) (R : V → V → Hp → Prop) : Prop := ∀ H1, Ex H H1 → ∀ Q : List V → Hp → Prop, (∀ x y H2, Ex H1 H2 → R x y H2 → Q [x, y] H2) → t σ H1 Q
theorem made_D {σ : L2.St} {t : TA} {rs : List Pr} {E : XK} (h : EvA2 t σ H fun x y H2 => MadeG K c zs rs x y H2) : EvD c (tMake (c 9) (sp_Dependencies_init K c) [] E t) σ H zs rs := fun H1 e Q k => h H1 e _ fun x y H2 e2 hm p dx hp hd ne =>
  made_sp (Q := Q) (E' := E) (hm _ _ fun p' H3 hp' e3 hD => k p' H3 (fresh_back e2 hp') (e2.trans e3) hD) (fun _ _ _ z => z) p dx hp hd ne
/-! beside the box -/
theorem pairs_noB {b d : Addr} {n : Nat} {us : List V} {rs : List Pr} (hB : BoxAt H b n) (hd : H d = some (.lst us)) (hp : Paired (PairAt H) us rs) : noB b H d = some (.lst us) ∧ Paired (PairAt (noB b H)) us rs := by
  obtain ⟨b0, b1, b2, b3, hb, _⟩ := id hB
  constructor
  · rw [noB_ne]
    · exact hd
    · intro z
      rw [z, hb] at hd
      cases hd
      cases hp with
      | cons h t =>
        obtain ⟨t', v, h1, _⟩ := h
        cases h1
  · refine Paired.imp (fun u r z => ?_) hp
    obtain ⟨t, v, h1, h2, h3⟩ := z
    have nt : t ≠ b := fun z => by rw [z, hb] at h2; cases h2
    exact ⟨t, v, h1, by rw [noB_ne nt]; exact h2, by rw [noB_ne (box_strs hB h3)]; exact h3⟩
theorem dep_noB {b p : Addr} {n : Nat} {rs : List Pr} {C : Addr} (hB : BoxAt H b n) (hD : DepR C H p zs rs) : DepR C (noB b H) p zs rs := by
  obtain ⟨dx, l, m, us, h1, h2, h3, h4⟩ := hD
  obtain ⟨z1, z2⟩ := pairs_noB hB h3 h4
  obtain ⟨b0, b1, b2, b3, hb, _⟩ := id hB
  have np : p ≠ b := fun z => by rw [z, hb] at h1; cases h1
  exact ⟨dx, l, m, us, by rw [noB_ne np]; exact h1, by rw [noB_ne (box_strs hB h2)]; exact h2, z1, z2⟩
theorem paired_perm {α β : Type} {F : α → β → Prop} {xs ys : List α} (p : xs.Perm ys) : ∀ {rs : List β}, Paired F ys rs → ∃ qs, qs.Perm rs ∧ Paired F xs qs := by
  induction p with
  | nil => exact fun {rs} h => ⟨rs, .refl _, h⟩
  | cons x _ ih =>
    intro rs h
    cases h with
    | cons h t =>
      obtain ⟨qs, q1, q2⟩ := ih t
      exact ⟨_, q1.cons _, .cons h q2⟩
  | swap x y l =>
    intro rs h
    cases h with
    | cons h t =>
      cases t with
      | cons h2 t2 => exact ⟨_, .swap _ _ _, .cons h2 (.cons h t2)⟩
  | trans _ _ ih1 ih2 =>
    intro rs h
    obtain ⟨q1, p1, h1⟩ := ih2 h
    obtain ⟨q2, p2, h2⟩ := ih1 h1
    exact ⟨q2, p2.trans p1, h2⟩
/-! the same -/
theorem paired_join {α β γ : Type} {F : α → γ → Prop} {G : β → γ → Prop} {R : α → β → Prop} (f : ∀ a b c, F a c → G b c → R a b) : ∀ {xs : List α} {ys : List β} {zs : List γ}, Paired F xs zs → Paired G ys zs → Paired R xs ys
  | _, _, _, .nil, .nil => .nil
  | _, _, _, .cons h t, .cons h2 t2 => .cons (f _ _ _ h h2) (paired_join f t t2)
theorem paired_mem {α β : Type} {F : α → β → Prop} : ∀ {xs : List α} {ys : List β}, Paired F xs ys → Paired (fun a b => F a b ∧ b ∈ ys) xs ys
  | _, _, .nil => .nil
  | _, _, .cons h t => .cons ⟨h, List.mem_cons_self⟩ (Paired.imp (fun _ _ z => ⟨z.1, List.mem_cons_of_mem _ z.2⟩) (paired_mem t))
theorem sm_pairs {p q : Addr} {us vs : List V} {rs : List Pr} (hp : H p = some (.lst us)) (hq : H q = some (.lst vs)) (h1 : Paired (PairAt H) us rs) (h2 : Paired (PairAt H) vs rs) (l : rs.length ≤ 200) (lr : ∀ r ∈ rs, r.1.length ≤ 200) : Sm H 5 (.ref p) (.ref q) :=
  sm_lst hp hq (by rw [Paired.length h1]; exact l) (paired_join (fun u v r ⟨a, m⟩ b => by
    obtain ⟨t, v', e1, g1, g2⟩ := a
    obtain ⟨t2, v2, e2, k1, k2⟩ := b
    subst e1 e2
    exact sm_tup g1 k1 (show 2 ≤ 200 by decide) (.cons (sm_strs g2 k2 (lr r m)) (.cons (sm_prim (.str _)) .nil))) (paired_mem h1) h2)
theorem sm_SL {p q : Addr} {us vs : List V} {xss : List (List Str)} (hp : H p = some (.lst us)) (hq : H q = some (.lst vs)) (h1 : Paired (IsSL H) us xss) (h2 : Paired (IsSL H) vs xss) (l : xss.length ≤ 200) (lr : ∀ r ∈ xss, r.length ≤ 200) : Sm H 5 (.ref p) (.ref q) :=
  sm_lst hp hq (by rw [Paired.length h1]; exact l) (paired_join (fun u v r ⟨a, m⟩ b => by
    obtain ⟨v', e1, g1⟩ := a
    obtain ⟨v2, e2, k1⟩ := b
    subst e1 e2
    exact sm_strs g1 k1 (lr r m)) (paired_mem h1) h2)
end
section
variable {K : PySem.W.Frag} {σ : L2.St} {H H' : Hp} {ta tb tc te tl : TE} {c : Nat → Addr}
theorem ev_sameLV {xs : List V} {y : V} (h1 : EvL ta σ H xs) (h2 : ∀ H1, Ex H H1 → Ev tb σ H1 y) (hs : ∀ p H1, Ex H H1 → H1 p = some (.lst xs) → Sm H1 5 (.ref p) y) : Ev (tCall (sp_same 5) [] E0 (tCons ta (tCons tb tNil))) σ H (.bl true) := fun H1 e Q q => h1 H1 e _ fun p H2 _ e2 hp => h2 H2 (e.trans e2) H2 (Ex.refl _) _ fun H3 e3 => ⟨.ref p, y, rfl, hs p H3 ((e.trans e2).trans e3) (e3 _ _ hp), fun H4 e4 => q H4 ((e2.trans e3).trans e4)⟩
theorem ev_sameSL {xss yss : List (List Str)} (h1 : EvSL ta σ H xss) (h2 : ∀ H1, Ex H H1 → EvSL tb σ H1 yss) (e0 : xss = yss) (l : xss.length ≤ 200) (lr : ∀ r ∈ xss, r.length ≤ 200) : Ev (tCall (sp_same 5) [] E0 (tCons ta (tCons tb tNil))) σ H (.bl true) := by
  subst e0
  exact fun H1 e Q q => h1 H1 e _ fun p us H2 _ e2 hp pp => h2 H2 (e.trans e2) H2 (Ex.refl _) _ fun p' us' H3 _ e3 hp' pp' => ⟨.ref p, .ref p', rfl, sm_SL (e3 _ _ hp) hp' (Paired.imp (fun _ _ z => z.ex e3) pp) pp' l lr, fun H4 e4 => q H4 ((e2.trans e3).trans e4)⟩
theorem el_revL {p : Addr} {xs : List V} (h : Ev te σ H (.ref p)) (hp : H p = some (.lst xs)) : EvL (tRevL K te) σ H xs.reverse := fun H1 e Q q => h H1 e _ fun H2 e2 => ⟨p, xs, rfl, sq_of ((e.trans e2) _ _ hp), fun l hl => q l _ (fresh_back e2 hl) (e2.trans (Ex.new hl)) upd_same⟩
end
section
variable {K : PySem.W.Frag} {σ : L2.St} {H H' : Hp} {ta tb tc te tl : TE} {c : Nat → Addr} {D : Ends} {tz : TS} {v : V}
theorem s_appNew {xs : List V} (h : EvL ta σ H xs) (hb : ∀ H1, Ex H H1 → Ev te σ H1 v) (hl : xs.length < 100000) (k : ∀ H1, Ex H H1 → D.nx σ H1) : tDrop (tBM K "list" rAppend ta (tCons te tNil)) D σ H := h H (Ex.refl H) _ fun l H1 hn e1 h1 => ⟨Or.inl ⟨rfl, xs, sq_of h1⟩, hb H1 e1 H1 (Ex.refl _) _ fun H2 e2 => ⟨l, xs, v, rfl, rfl, e2 _ _ h1, sz_lt hl, k _ (Ex.mut (e1.trans e2) hn)⟩⟩
theorem q_appNew {xs : List V} (h : EvL ta σ H xs) (hb : ∀ H1, Ex H H1 → Ev te σ H1 v) (hl : xs.length < 100000) (k : ∀ H1, Ex H H1 → tz D σ H1) : tSeq (tDrop (tBM K "list" rAppend ta (tCons te tNil))) tz D σ H := s_appNew (D := { D with nx := tz D }) h hb hl k
theorem s_appNewSL {xss : List (List Str)} (h : EvSL ta σ H xss) (hb : ∀ H1, Ex H H1 → Ev te σ H1 v) (hl : xss.length < 100000) (k : ∀ H1, Ex H H1 → D.nx σ H1) : tDrop (tBM K "list" rAppend ta (tCons te tNil)) D σ H := h H (Ex.refl H) _ fun l us H1 hn e1 h1 pp => ⟨Or.inl ⟨rfl, us, sq_of h1⟩, hb H1 e1 H1 (Ex.refl _) _ fun H2 e2 => ⟨l, us, v, rfl, rfl, e2 _ _ h1, sz_lt (by have := Paired.length pp; omega), k _ (Ex.mut (e1.trans e2) hn)⟩⟩
theorem ci_listD {M : Type} {It : ItP M} {g : TG} {Dl a : Addr} {xs : List V} {vs : List Nat} {Qd : Hp → Prop} (hv : MvP It) (hD : H Dl = none) (hx : H a = some (.lst xs)) (hz : xs.length ≤ 40000) (σs : Nat → L2.St) (hg : ∀ (i : Nat) (x : V) (H' : Hp) (R : L2.St → Hp → Prop), xs[i]? = some x → Ex H H' → R (σs i) H' → g x (wipe σ vs) H' R) (hw : ∀ i, i < xs.length → wipe (σs i) vs = wipe σ vs) (m : Nat → M) (he : ∀ i, i < xs.length → EvM te (σs i) H It (m i))
    (k : ∀ us H2, Ex H H2 → H2 Dl = some (.lst us) → Paired (It (fun a => H a = none ∧ a ≠ Dl) H2) us ((List.range xs.length).map m) → Qd H2) :
    ∃ W : Nat → Nat → Hp → Prop, (∃ m, W 0 m (upd H Dl (.lst []))) ∧ ∀ i m H, W i m H →
      ((Itl K a).stop i H ∧ Qd H) ∨ ((Itl K a).go i H ∧ ∃ Nx : Hp → Prop, (∀ H', Nx H' → ∃ m', m' < m ∧ W (i + 1) m' H') ∧ ∀ x H', (Itl K a).yld i H x H' → g x (wipe σ vs) H' fun σ2 H2 => wipe σ2 vs = wipe σ vs ∧ tYes σ2 H2 fun b H3 =>
        if b = true then te σ2 H3 fun y H4 => ∃ acc, H4 Dl = some (.lst acc) ∧ acc.length < sizeLine ∧ Nx (upd H4 Dl (.lst (acc ++ [y]))) else Nx H3) :=
  lc_list (xs := xs) (fun i H' => Ci It H Dl ((List.range i).map m) H') (Ci.start hD) (fun i H' _ p => sq_of (p.2.1 _ _ hx)) (fun i x H' hi p => by
    have hil : i < xs.length := (List.getElem?_eq_some_iff.mp hi).1
    refine hg i x H' _ hi p.2.1 ⟨hw i hil, ?_⟩
    have z := ci_turn (m := m i) hv p (by rw [List.length_map, List.length_range]; omega) ((he i hil).mono p.2.1)
    rw [List.range_succ, List.map_append]
    exact z) fun H' p => let ⟨p1, p2, us, p3, p4⟩ := p; k us H' p2 p3 p4
theorem eu_tupL {xs : List V} (h : EvL te σ H xs) : EvU (tCB (rTupOf K) (tCons te tNil)) σ H xs := fun H1 e Q k => h H1 e _ fun lr H2 hlr e2 h2 => ⟨lr, _, rfl, .inl ⟨sq_of h2, fun tv htv => k tv _ (fresh_back e2 htv) (e2.trans (Ex.new htv)) upd_same⟩⟩
/-- (tuple(l[::-1]), r) -/
theorem em_tupU {zs : List Str} {z : Str} (h : EvU te σ H (zs.reverse.map V.str)) (hb : ∀ H1, Ex H H1 → Ev tb σ H1 (.str z)) : EvM (tTup (tCons te (tCons tb tNil))) σ H TupR (zs, z) := fun H1 e Q k => h H1 e _ fun tv H2 htv e2 h2 => hb H2 (e.trans e2) H2 (Ex.refl _) _ fun H4 e4 => ⟨sz_of (show 2 ≤ 100000 by decide), fun t ht => k _ _ ((e2.trans e4).trans (Ex.new ht)) ⟨t, tv, rfl, fresh_back (e2.trans e4) ht, htv, upd_same, (Ex.new ht) _ _ (e4 _ _ h2)⟩⟩
theorem em_revp {l : Addr} {zs : List Str} {z : Str} (h : Ev ta σ H (.ref l)) (hl : H l = some (.lst (zs.map V.str))) (hb : ∀ H1, Ex H H1 → Ev tb σ H1 (.str z)) : EvM (tTup (tCons (tCB (rTupOf K) (tCons (tRevL K ta) tNil)) (tCons tb tNil))) σ H TupR (zs, z) := em_tupU (by
  have z := eu_tupL (K := K) (el_revL (K := K) h hl)
  rw [← List.map_reverse] at z
  exact z) hb
/-- _law_due_pairs(..) != due -/
theorem et_neDue {us : List V} {rs qs : List Pr} {d : Addr} {b : Bool} (h : ∀ H1, Ex H H1 → ∀ Q : VK, (∀ m vs H2, H1 m = none → Ex H1 H2 → H2 m = some (.lst vs) → Paired (PairAt H2) vs rs → Q (.ref m) H2) → ta σ H1 Q) (hb : ∀ H1, Ex H H1 → Ev tb σ H1 (.ref d)) (hd : H d = some (.lst us)) (hp : Paired (PairAt H) us qs) (o1 : ∀ r ∈ rs, okP r) (o2 : ∀ r ∈ qs, okP r) (e0 : b = true ↔ rs = qs) : EvT (tTest (tOp (rNeD K) ta tb)) σ H (!b) := et_test fun H1 e Q q => h H1 e _ fun m vs H2 hm e2 h2 pp => hb H2 (e.trans e2) H2 (Ex.refl _) _ fun H3 e3 =>
  rv_neP (K := K) (e3 _ _ h2) (Paired.imp (fun _ _ z => z.ex e3) pp) (((e.trans e2).trans e3) _ _ hd) (Paired.imp (fun _ _ z => z.ex ((e.trans e2).trans e3)) hp) o1 o2 e0 H3 (Ex.refl _) Q fun H4 e4 => q H4 ((e2.trans e3).trans e4)
theorem RawP.rev {zs : List Str} {r : Pr} (R : RawP zs r) : RawP zs.reverse r := ⟨fun z hz => List.mem_reverse.mpr (R.sub z hz), R.nd, R.l3, List.mem_reverse.mpr R.rz, R.rn⟩
theorem paired_drop {α β : Type} {F : α → β → Prop} : ∀ (n : Nat) {xs : List α} {ys : List β}, Paired F xs ys → Paired F (xs.drop n) (ys.drop n)
  | 0, _, _, h => h
  | n + 1, _, _, .nil => .nil
  | n + 1, _, _, .cons _ t => paired_drop n t
end
end Mv
/-! Data of any kind, as it lies; what a check finds of it. -/
namespace Mv
open PySem PySem.Spec PyProof.Rows L2 Evl
mutual
inductive Da (H : Hp) : V → PyData → Prop
  | non : Da H .non .none
  | bl (b : Bool) : Da H (.bl b) (.bool b)
  | int (i : Int) : Da H (.int i) (.int i)
  | str (x : Str) : Da H (.str x) (.str x)
  | lst {a : Addr} {xs : List V} {ds : List PyData} : H a = some (.lst xs) → DaAll H xs ds → Da H (.ref a) (.list ds)
  | tup {a : Addr} {xs : List V} {ds : List PyData} : H a = some (.tup xs) → DaAll H xs ds → Da H (.ref a) (.tuple ds)
  | dK {a : Addr} {kvs : List (Key × V)} : H a = some (.dK kvs) → Da H (.ref a) (.dict [])
  | dT {a : Addr} {kvs : List (List Key × V)} : H a = some (.dT kvs) → Da H (.ref a) (.dict [])
inductive DaAll (H : Hp) : List V → List PyData → Prop
  | nil : DaAll H [] []
  | cons {v : V} {vs : List V} {d : PyData} {ds : List PyData} : Da H v d → DaAll H vs ds → DaAll H (v :: vs) (d :: ds)
end
mutual
theorem Da.ex {H H' : Hp} (e : Ex H H') : ∀ {v : V} {d : PyData}, Da H v d → Da H' v d
  | _, _, .non => .non
  | _, _, .bl b => .bl b
  | _, _, .int i => .int i
  | _, _, .str x => .str x
  | _, _, .lst h t => .lst (e _ _ h) (DaAll.ex e t)
  | _, _, .tup h t => .tup (e _ _ h) (DaAll.ex e t)
  | _, _, .dK h => .dK (e _ _ h)
  | _, _, .dT h => .dT (e _ _ h)
theorem DaAll.ex {H H' : Hp} (e : Ex H H') : ∀ {vs : List V} {ds : List PyData}, DaAll H vs ds → DaAll H' vs ds
  | _, _, .nil => .nil
  | _, _, .cons h t => .cons (Da.ex e h) (DaAll.ex e t)
end
theorem DaAll.p {H : Hp} : ∀ {vs : List V} {ds : List PyData}, DaAll H vs ds → Paired (Da H) vs ds
  | _, _, .nil => .nil
  | _, _, .cons h t => .cons h t.p
theorem DaAll.of {H : Hp} : ∀ {vs : List V} {ds : List PyData}, Paired (Da H) vs ds → DaAll H vs ds
  | _, _, .nil => .nil
  | _, _, .cons h t => .cons h (DaAll.of t)
/-- no dict in it -/
def nod : PyData → Bool
  | .list ds => nodAll ds
  | .tuple ds => nodAll ds
  | .dict _ => false
  | _ => true
where nodAll : List PyData → Bool
  | [] => true
  | d :: ds => nod d && nodAll ds
mutual
theorem Da.dp {K : PySem.W.Frag} {H : Hp} : ∀ {v : V} {d : PyData}, Da H v d → nod d = true → Dp K H v d
  | _, _, .non, _ => .non
  | _, _, .bl b, _ => .bl b
  | _, _, .int i, _ => .int i
  | _, _, .str x, _ => .str x
  | _, _, .lst h t, n => .lst (sq_of h) (DaAll.dp t (by rw [nod] at n; exact n))
  | _, _, .tup h t, n => .tup (st_of h) (DaAll.dp t (by rw [nod] at n; exact n))
  | _, _, .dK h, n => by rw [nod] at n; cases n
  | _, _, .dT h, n => by rw [nod] at n; cases n
theorem DaAll.dp {K : PySem.W.Frag} {H : Hp} : ∀ {vs : List V} {ds : List PyData}, DaAll H vs ds → nod.nodAll ds = true → DpAll K H vs ds
  | _, _, .nil, _ => .nil
  | _, _, .cons h t, n => by
    rw [nod.nodAll, Bool.and_eq_true] at n
    exact .cons (Da.dp h n.1) (DaAll.dp t n.2)
end
theorem nodAll_iff : ∀ {ds : List PyData}, nod.nodAll ds = true ↔ ∀ d ∈ ds, nod d = true
  | [] => by simp [nod.nodAll]
  | d :: ds => by simp [nod.nodAll, nodAll_iff (ds := ds)]
def tyD : PyData → String
  | .none => "NoneType"
  | .bool _ => "bool"
  | .int _ => "int"
  | .str _ => "str"
  | .list _ => "list"
  | .tuple _ => "tuple"
  | .dict _ => "dict"
theorem Da.ty {K : PySem.W.Frag} {H : Hp} {x : V} {d : PyData} (h : Da H x d) : ∀ H1, Ex H H1 → TyX K H1 x (.type (tyD d)) := fun H1 e => by
  cases h with
  | non => exact .base .non
  | bl b => exact .base (.bl b)
  | int i => exact .base (.int i)
  | str x => exact .base (.str x)
  | lst h t => exact .base (.lst (e _ _ h))
  | tup h t => exact .base (.tup (e _ _ h))
  | dK h => exact .base (.dK (e _ _ h))
  | dT h => exact .base (.dT (e _ _ h))
def isBoolD : PyData → Bool
  | .bool _ => true
  | _ => false
def isIntD : PyData → Bool
  | .bool _ => true
  | .int _ => true
  | _ => false
def isTupD : PyData → Bool
  | .tuple _ => true
  | _ => false
def seqD : PyData → Option (List PyData)
  | .list ds => some ds
  | .tuple ds => some ds
  | _ => none
theorem Da.seq {H : Hp} {x : V} {d : PyData} {ds : List PyData} (h : Da H x d) (e : seqD d = some ds) : ∃ a xs, x = .ref a ∧ Seq H a xs ∧ DaAll H xs ds := by
  cases h with
  | lst h t => cases e; exact ⟨_, _, rfl, .inl h, t⟩
  | tup h t => cases e; exact ⟨_, _, rfl, .inr h, t⟩
  | _ => cases e
theorem Da.tup' {H : Hp} {x : V} {ds : List PyData} (h : Da H x (.tuple ds)) : ∃ a xs, x = .ref a ∧ H a = some (.tup xs) ∧ DaAll H xs ds := by
  cases h with
  | tup h t => exact ⟨_, _, rfl, h, t⟩
theorem Da.lst' {H : Hp} {x : V} {ds : List PyData} (h : Da H x (.list ds)) : ∃ a xs, x = .ref a ∧ H a = some (.lst xs) ∧ DaAll H xs ds := by
  cases h with
  | lst h t => exact ⟨_, _, rfl, h, t⟩
theorem kT {n m : String} {K : PySem.W.Frag} {b : Bool} (h : kitB n m = some b) : PySem.W.kitOne K (.type n) (.type m) = some b := kit_ty h
section
variable {K : PySem.W.Frag} {σ : L2.St} {H H' : Hp} {ta tb tc te tl tx : TE} {t u : TT} {x y z v : V} {d : PyData}
theorem ev_isBoolD (h : Ev ta σ H x) (hd : Da H x d) : Ev (tCB (rIsi K) (tCons ta (tCons (tC (.ty "bool")) tNil))) σ H (.bl (isBoolD d)) :=
  ev_isi h hd.ty (kT (by cases d <;> simp only [tyD, isBoolD] <;> decide +kernel))
theorem ev_isIntD (h : Ev ta σ H x) (hd : Da H x d) : Ev (tCB (rIsi K) (tCons ta (tCons (tC (.ty "int")) tNil))) σ H (.bl (isIntD d)) :=
  ev_isi h hd.ty (kT (by cases d <;> simp only [tyD, isIntD] <;> decide +kernel))
theorem ev_isTupD (h : Ev ta σ H x) (hd : Da H x d) : Ev (tCB (rIsi K) (tCons ta (tCons (tC (.ty "tuple")) tNil))) σ H (.bl (isTupD d)) :=
  ev_isi h hd.ty (kT (by cases d <;> simp only [tyD, isTupD] <;> decide +kernel))
theorem kit2 {n m k : String} {a b : Bool} (h1 : kitB n m = some a) (h2 : kitB n k = some b) : PySem.W.kitAny K (.type n) [.type m, .type k] = some (a || b) := by
  cases a with
  | true => exact kitAny_cons (kT h1) (fun h => nomatch h) fun _ => rfl
  | false =>
    refine kitAny_cons (kT h1) (fun _ => ?_) fun h => nomatch h
    cases b with
    | true => exact kitAny_cons (kT h2) (fun h => nomatch h) fun _ => rfl
    | false => exact kitAny_cons (kT h2) (fun _ => rfl) fun h => nomatch h
/-- the answer of isinstance(_, (list, tuple)) -/
def IsSq (K : PySem.W.Frag) (H : Hp) (x : V) (b : Bool) : Prop := ∃ t, (∀ H1, Ex H H1 → TyX K H1 x t) ∧ PySem.W.kitAny K t [.type "list", .type "tuple"] = some b
theorem IsSq.ex {b : Bool} (h : IsSq K H x b) (e : Ex H H') : IsSq K H' x b := let ⟨t, h1, h2⟩ := h; ⟨t, fun H1 e1 => h1 H1 (e.trans e1), h2⟩
theorem Da.isq (h : Da H x d) : IsSq K H x (seqD d).isSome := ⟨_, h.ty, by
  cases d with
  | none => exact kit2 (a := false) (b := false) (by decide +kernel) (by decide +kernel)
  | bool _ => exact kit2 (a := false) (b := false) (by simp only [tyD] <;> decide +kernel) (by simp only [tyD] <;> decide +kernel)
  | int _ => exact kit2 (a := false) (b := false) (by simp only [tyD] <;> decide +kernel) (by simp only [tyD] <;> decide +kernel)
  | str _ => exact kit2 (a := false) (b := false) (by simp only [tyD] <;> decide +kernel) (by simp only [tyD] <;> decide +kernel)
  | list _ => exact kit2 (a := true) (b := false) (by simp only [tyD] <;> decide +kernel) (by simp only [tyD] <;> decide +kernel)
  | tuple _ => exact kit2 (a := false) (b := true) (by simp only [tyD] <;> decide +kernel) (by simp only [tyD] <;> decide +kernel)
  | dict _ => exact kit2 (a := false) (b := false) (by simp only [tyD] <;> decide +kernel) (by simp only [tyD] <;> decide +kernel)⟩
theorem Seq.isq {a : Addr} {xs : List V} (h : Seq H a xs) : IsSq K H (.ref a) true := h.elim (fun z => ⟨_, ty_lst z, kit2 (a := true) (b := false) (by decide +kernel) (by decide +kernel)⟩) fun z => ⟨_, ty_tup z, kit2 (a := false) (b := true) (by decide +kernel) (by decide +kernel)⟩
theorem ev_isSq {b : Bool} (h : Ev ta σ H x) (hd : IsSq K H x b) : Ev (tCB (rIsiT K) (tCons ta (tCons (tTup (tCons (tC (.ty "list")) (tCons (tC (.ty "tuple")) tNil))) tNil))) σ H (.bl b) :=
  let ⟨_, h1, h2⟩ := hd; ev_isiT h h1 h2
/-- over a list or a tuple: test and value by place -/
theorem el_lcSi {a : Addr} {xs : List V} {j : Nat} {vs : List Nat} (f : Nat → Bool) (g : Nat → V) (h : Ev tl σ H (.ref a)) (hx : Seq H a xs) (hz : xs.length ≤ 40000) (hw : ∀ x, wipe ((wipe σ vs).set j (some x)) vs = wipe σ vs)
    (ht : ∀ (i : Nat) (x : V) H1, Ex H H1 → xs[i]? = some x → EvT t ((wipe σ vs).set j (some x)) H1 (f i)) (he : ∀ (i : Nat) (x : V) H1, Ex H H1 → xs[i]? = some x → f i = true → Ev te ((wipe σ vs).set j (some x)) H1 (g i)) :
    EvL (tLc (iSeq K tl) (gName j) t te vs) σ H (given xs.length f g) := by
  intro H0 e Q q
  rcases hx with hx | hx
  · exact .inl (el_lcL (K := K) (xs := xs) f g h (sq_of hx) hz hw (fun i x H1 e1 hi => ht i x H1 e1 hi) (fun i x H1 e1 hi hf => he i x H1 e1 hi hf) H0 e Q q)
  · exact .inr (h H0 e _ fun H1 e1 => ⟨a, rfl, ⟨xs, ex_t (e.trans e1) (st_of hx)⟩, fun Dl hD =>
      lc_tup (xs := xs) (Cw H1 f g Dl) ⟨hD, Ex.new hD, upd_same⟩ (fun i H' _ p => ex_t ((e.trans e1).trans p.2.1) (st_of hx)) (fun i x H' hi p => ⟨hw x, cw_turn p (by have := (List.getElem?_eq_some_iff.mp hi).1; omega)
        (ht i x H1 (e.trans e1) hi) (fun hf => he i x H1 (e.trans e1) hi hf)⟩)
        (fun H' p => q Dl H' (fresh_back e1 p.1) (e1.trans p.2.1) p.2.2)⟩)
theorem givenT (out : List V) : given out.length (fun _ => true) (fun i => out.getD i .non) = out := by
  have z := given_eq out (fun _ => true) id
  rw [filter_true, List.map_id] at z
  exact z
/-- all([g(item) for item in value]) of data -/
theorem ev_allD {a : Addr} {xs : List V} {ds : List PyData} {j : Nat} {vs : List Nat} (g : PyData → Bool) (h : Ev tl σ H (.ref a)) (hx : Seq H a xs) (hp : DaAll H xs ds) (hz : xs.length ≤ 40000) (hw : ∀ x, wipe ((wipe σ vs).set j (some x)) vs = wipe σ vs)
    (he : ∀ (x : V) (d : PyData) H1, Ex H H1 → x ∈ xs → d ∈ ds → Da H1 x d → Ev te ((wipe σ vs).set j (some x)) H1 (.bl (g d))) : Ev (tCB (rAll K) (tCons (tLc (iSeq K tl) (gName j) tYes te vs) tNil)) σ H (.bl (ds.all g)) := by
  have hl : xs.length = (ds.map fun d => V.bl (g d)).length := by rw [List.length_map]; exact Paired.length hp.p
  have z := el_lcSi (K := K) (t := tYes) (te := te) (vs := vs) (j := j) (fun _ => true) (fun i => (ds.map fun d => V.bl (g d)).getD i .non) h hx hz hw (fun _ _ _ _ _ => et_yes) fun i x H1 e hi _ => by
    obtain ⟨d, hd, hxd⟩ := Paired.at_l hp.p i x hi
    have : (ds.map fun d => V.bl (g d)).getD i .non = V.bl (g d) := by rw [List.getD_eq_getElem?_getD, List.getElem?_map, hd] <;> rfl
    rw [this]
    exact he x d H1 e (List.mem_of_getElem? hi) (List.mem_of_getElem? hd) (hxd.ex e)
  rw [hl, givenT] at z
  have e2 : (ds.map fun d => V.bl (g d)) = (ds.map g).map V.bl := by rw [List.map_map] <;> rfl
  rw [e2] at z
  have e3 : (ds.map g).all id = ds.all g := by rw [List.all_map] <;> rfl
  rw [← e3]
  exact ev_allN z
end
/-- an integer within bounds -/
def intIn (lo hi : Int) : PyData → Bool
  | .int v => decide (lo ≤ v) && decide (v ≤ hi)
  | _ => false
/-- the answers of is_row and is_any_row -/
def rowB (n : Int) : PyData → Bool
  | .tuple ds => decide ((ds.length : Int) = n) && ds.all (intIn 0 999)
  | _ => false
def rowAnyB : PyData → Bool
  | .tuple ds => (decide (0 < ds.length) && decide (ds.length ≤ 5)) && ds.all (intIn 0 999)
  | _ => false
open Classical in
/-- the answer to a question -/
noncomputable def rb (p : Prop) : Bool := decide p
theorem rb_iff {p : Prop} : rb p = true ↔ p := by unfold rb; exact @decide_eq_true_iff p (Classical.propDecidable p)
theorem rb_yes {p : Prop} (h : p) : rb p = true := rb_iff.mpr h
theorem rb_no {p : Prop} (h : ¬p) : rb p = false := by
  cases e : rb p with
  | false => rfl
  | true => exact absurd (rb_iff.mp e) h
theorem rb_eq {p : Prop} {b : Bool} (h : b = true ↔ p) : b = rb p := by
  cases b with
  | true => exact (rb_yes (h.mp rfl)).symm
  | false => exact (rb_no fun hp => nomatch h.mpr hp).symm
end Mv
/-! Rows, of any value. -/
namespace Mv
open PySem PySem.Spec PyProof.Rows L2 Evl
theorem OkRow.any {n : Nat} {r : List Int} (ho : OkRow n r) : (r.map PyData.int).all (intIn 0 999) = true := by
  rw [List.all_map, List.all_eq_true]
  intro i hi
  obtain ⟨h0, h9⟩ := ho.2 i hi
  show (decide (0 ≤ i) && decide (i ≤ 999)) = true
  rw [decide_eq_true h0, decide_eq_true h9] <;> rfl
theorem daInts {H : Hp} : ∀ r : List Int, DaAll H (r.map V.int) (r.map PyData.int)
  | [] => .nil
  | i :: r => .cons (.int i) (daInts r)
theorem IsRow.da {H : Hp} {x : V} {r : List Int} (h : IsRow H x r) : Da H x (.tuple (r.map PyData.int)) := by
  obtain ⟨b, rfl, hb⟩ := h
  exact .tup hb (daInts r)
section
variable {P : Program} {w : World} {K : PySem.W.Frag} {mg : Str → Option Value} {base : Heap} {a : Nat → Addr} {d : Nat → FuncData} {tk : Nat → Tok} {c ci : Nat → Addr} {di : Nat → FuncData}
/-! is_integer -/
def sp_is_integer : Sp := fun vs H Q _ => ∃ (x : V) (dd : PyData) (lo hi : Int), vs = [x, .int lo, .int hi] ∧ Da H x dd ∧ RetV (.bl (intIn lo hi dd)) H Q
theorem ok_is_integer (T : All K mg a d tk c ci di) : FnOk P w K mg base CX0 1 (a 0) (d 0) ["value", "low", "high"] sp_is_integer := by
  refine T.F_is_integer.fn.ok sc_is_integer (fun vs H Q E h => ?_) (fun cdv A outer s H vs Q E hr h => ?_)
  · obtain ⟨x, dd, lo, hi, rfl, _⟩ := h
    rfl
  · obtain ⟨x, dd, lo, hi, rfl, hd, k⟩ := h
    have nd := sc_is_integer.nd
    refine ⟨_, (pss_cons (ps_if (PW.pt (pw_or (pt_val (pe_callB call_isi (by rfl) T.n_isinstance PyProof.Rows.boot_isinstance (pa_cons (pv 0) (pa_cons (pe_bltn (v := .ty "bool") rfl T.n_bool PyProof.Rows.boot_bool rfl) pa_nil)))) (pw_or1 (pt_not (pt_val (pe_callB call_isi (by rfl) T.n_isinstance PyProof.Rows.boot_isinstance (pa_cons (pv 0) (pa_cons (pe_bltn (v := .ty "int") rfl T.n_int PyProof.Rows.boot_int rfl) pa_nil))))))))
 (pss_one (ps_ret pe_bl))
 pss_nil)
 (pss_one (ps_ret (pe_chain op_le op_le (pv 1) (pv 0) (pv 2))))), ?_⟩
    refine q_when (b := isBoolD dd || !isIntD dd) (et_or (et_B (ev_isBoolD (ev_var rfl) hd)) fun _ => et_not (et_B (ev_isIntD (ev_var rfl) hd))) (fun h H1 e1 => ?_) fun h H1 e1 => ?_
    · refine s_ret ev_c fun H2 e2 => ?_
      have z : intIn lo hi dd = false := by cases dd <;> first | rfl | cases h
      rw [z] at k
      exact k H2 (e1.trans e2)
    · cases hd with
      | int i => exact s_ret (ev_chain (ev_var rfl) (ev_var rfl) (ev_var rfl)) fun H2 e2 => k H2 (e1.trans e2)
      | _ => cases h
theorem spv_intD {x : V} {dd : PyData} {lo hi : Int} {H : Hp} (h : Da H x dd) : SpV sp_is_integer [x, .int lo, .int hi] H (.bl (intIn lo hi dd)) := fun H1 e Q q _ => ⟨x, dd, lo, hi, rfl, h.ex e, q⟩
theorem spv_is_integer {v lo hi : Int} {H : Hp} : SpV sp_is_integer [.int v, .int lo, .int hi] H (.bl (decide (lo ≤ v) && decide (v ≤ hi))) := spv_intD (.int v)
/-! is_row -/
def sp_is_row : Sp := fun vs H Q _ => ∃ (x : V) (dd : PyData) (n : Int), vs = [x, .int n] ∧ Da H x dd ∧ n ≤ 5 ∧ RetV (.bl (rowB n dd)) H Q
theorem ok_is_row (T : All K mg a d tk c ci di) : FnOk P w K mg base CX0 2 (a 3) (d 3) ["value", "width"] sp_is_row := by
  refine T.F_is_row.fn.ok sc_is_row (fun vs H Q E h => ?_) (fun cdv A outer s H vs Q E hr h => ?_)
  · obtain ⟨x, dd, n, rfl, _⟩ := h
    rfl
  · obtain ⟨x, dd, n, rfl, hd, h5, k⟩ := h
    have nd := sc_is_row.nd
    refine ⟨_, (pss_cons (ps_if (PW.pt (pw_or (pt_not (pt_val (pe_callB call_isi (by rfl) T.n_isinstance PyProof.Rows.boot_isinstance (pa_cons (pv 0) (pa_cons (pe_bltn (v := .ty "tuple") rfl T.n_tuple PyProof.Rows.boot_tuple rfl) pa_nil))))) (pw_or1 (pt_cmpR op_ne (pe_callB call_len_seq (by rfl) T.n_len PySem.boot_len (pa_cons (pv 0) pa_nil)) (pv 1) (nomark _)))))
 (pss_one (ps_ret pe_bl))
 pss_nil)
 (pss_one (ps_ret (pe_callB (cr_all rfl) (by rfl) T.n_all PyProof.Rows.boot_all (pa_cons (pe_lc (own := [("item", 2)]) (g := (gName 2)) rfl nd (pi_seq (pv 0)) (blkOk_by (N := N_is_row) (sc := defScope s_is_row) (by decide +kernel)) (fun _ _ _ _ _ => (pg_name (i := 2) nd rfl (Or.inl rfl))) (fun _ _ _ _ _ => pts_nil) (fun _ _ _ _ _ => (pe_call (ok_is_integer T) (hr.mono (by decide)) rfl T.F_is_integer.m T.F_is_integer.kp T.F_is_integer.b .nil pass0 (pa_cons (pv 2) (pa_cons pe_int (pa_cons (pe_glob (v := .int 999) rfl T.c_MOST_VALUE ⟨_, rfl⟩) pa_nil)))))) pa_nil))))), ?_⟩
    by_cases ht : ∃ ds, dd = .tuple ds
    · obtain ⟨ds, rfl⟩ := ht
      obtain ⟨b, xs, rfl, hb, hp⟩ := hd.tup'
      have hl : xs.length = ds.length := Paired.length hp.p
      refine q_when (et_or (et_not (et_B (ev_isTupD (ev_var rfl) hd))) fun _ => et_test (ev_op (ev_lenS (ev_var rfl) (.inr hb)) (ev_var rfl) (rv_ne rfl))) (fun h H1 e1 => ?_) fun h H1 e1 => ?_
      · have h : (!decide (V.int (xs.length : Int) = V.int n)) = true := h
        have z : rowB n (.tuple ds) = false := by
          show (decide ((ds.length : Int) = n) && _) = false
          rw [decide_eq_false fun z => by rw [hl, z, decide_eq_true rfl] at h; cases h] <;> rfl
        rw [z] at k
        exact s_ret ev_c fun H2 e2 => k H2 (e1.trans e2)
      · have h : (!decide (V.int (xs.length : Int) = V.int n)) = false := h
        have hn : (ds.length : Int) = n := by
          by_cases z : (ds.length : Int) = n
          · exact z
          · rw [decide_eq_false fun e => by injection e with e; rw [hl] at e; exact z e] at h
            cases h
        have z : rowB n (.tuple ds) = ds.all (intIn 0 999) := by
          show (decide ((ds.length : Int) = n) && _) = _
          rw [decide_eq_true hn] <;> rfl
        rw [z] at k
        exact s_ret (ev_allD (ds := ds) (intIn 0 999) (ev_var rfl) (Seq.ex (.inr hb) e1) (hp.ex e1) (by omega) (fun _ => rfl) fun x d H2 e2 _ _ hx => ev_call (ea_cons (ev_var rfl) (ea_cons ev_c (ea_cons ev_c ea_nil))) (spv_intD hx)) fun H2 e2 => k H2 (e1.trans e2)
    · have z : isTupD dd = false := by cases dd <;> first | rfl | exact absurd ⟨_, rfl⟩ ht
      have z2 : rowB n dd = false := by cases dd <;> first | rfl | exact absurd ⟨_, rfl⟩ ht
      rw [z2] at k
      refine q_when (b := true) (et_is (et_or (b := false) (et_not (et_B (ev_isTupD (ev_var rfl) hd))) fun h => ?_) (by rw [z] <;> rfl)) (fun h H1 e1 => s_ret ev_c fun H2 e2 => k H2 (e1.trans e2)) fun h => nomatch h
      rw [z] at h
      cases h
theorem spv_rowD {x : V} {dd : PyData} {n : Int} {H : Hp} (h : Da H x dd) (h5 : n ≤ 5) : SpV sp_is_row [x, .int n] H (.bl (rowB n dd)) := fun H1 e Q q _ => ⟨x, dd, n, rfl, h.ex e, h5, q⟩
theorem spv_is_row {x : V} {r : List Int} {n : Nat} {H : Hp} (h : IsRow H x r) (ho : OkRow n r) (h5 : n ≤ 5) : SpV sp_is_row [x, .int n] H (.bl true) := by
  have z := spv_rowD (n := n) h.da (by omega)
  have e : rowB n (.tuple (r.map PyData.int)) = true := by
    show (decide (((r.map PyData.int).length : Int) = n) && _) = true
    rw [ho.any, List.length_map, ho.1, decide_eq_true rfl] <;> rfl
  rwa [e] at z

/-! are_rows -/
theorem nodup_back {α : Type} [BEq α] [LawfulBEq α] : ∀ {xs ys : List α}, xs.Nodup → (∀ x ∈ xs, x ∈ ys) → ys.length ≤ xs.length → ys.Nodup
  | [], ys, _, _, hl => by
    have : ys = [] := List.length_eq_zero_iff.mp (Nat.le_zero.mp hl)
    rw [this]
    exact List.nodup_nil
  | x :: xs, ys, h, hs, hl => by
    have hx := hs x List.mem_cons_self
    obtain ⟨n1, n2⟩ := List.nodup_cons.mp h
    have sub : ∀ y ∈ xs, y ∈ ys.erase x := fun y hy => (List.mem_erase_of_ne fun e => n1 (by rw [← e]; exact hy)).mpr (hs y (List.mem_cons_of_mem _ hy))
    have h2 := List.length_erase_of_mem hx
    have h3 : 0 < ys.length := List.length_pos_of_mem hx
    have hl' : ys.length ≤ xs.length + 1 := hl
    have nd := nodup_back n2 sub (by omega)
    have hn : x ∉ ys.erase x := fun z => by
      have := nodup_len (xs := x :: xs) (ys := ys.erase x) h fun y hy => (List.mem_cons.mp hy).elim (fun e => e ▸ z) (sub y)
      rw [List.length_cons] at this
      omega
    exact ((List.perm_cons_erase hx).nodup_iff).mpr (List.nodup_cons.mpr ⟨hn, nd⟩)
theorem rows_ks {H : Hp} : ∀ {xs : List V} {rs : List (List Int)}, Paired (IsRow H) xs rs → ∃ ks : List (Addr × List Int), xs = ks.map (fun p => V.ref p.1) ∧ rs = ks.map (·.2) ∧ ∀ p ∈ ks, H p.1 = some (.tup (p.2.map V.int))
  | _, _, .nil => ⟨[], rfl, rfl, fun _ h => absurd h (by simp)⟩
  | _, _, .cons (b := r) ⟨b, e, h⟩ t => by
    obtain ⟨ks, e1, e2, e3⟩ := rows_ks t
    subst e e1 e2
    refine ⟨(b, r) :: ks, rfl, rfl, fun p hp => ?_⟩
    rcases List.mem_cons.mp hp with z | z
    · subst z; exact h
    · exact e3 p z
/-- len(set(xs)) == len(xs), of rows -/
theorem ev_lenSetQ {σ : L2.St} {H : Hp} {ta tb : TE} {x : V} {rs : List (List Int)} (ha : Ev ta σ H x) (hr : Rws H x rs) (h60 : rs.length ≤ 60) (hb : ∀ H1, Ex H H1 → Ev tb σ H1 (.int (rs.length : Int))) :
    Ev (tOp rEq (tCB (rLenSetT P w) (tCons (tCB (rSetS K P w) (tCons ta tNil)) tNil)) tb) σ H (.bl (decide rs.Nodup)) := fun H1 e Q q =>
  ha H1 e _ fun H2 e2 => by
    obtain ⟨l, xs, rfl, hs, hp⟩ := hr.ex (e.trans e2)
    obtain ⟨ks, rfl, rfl, hk⟩ := rows_ks hp
    have fin : ∀ s L, H2 s = none → (∀ p ∈ L, p ∈ ks) → (∀ p ∈ ks, p.2 ∈ L.map (·.2)) → rLenSetT P w [.ref s] (upd H2 s (SetTO P w s L)) fun v H3 => tb σ H3 fun u H4 => rEq v u H4 Q := fun s L hn h1 h2 => by
      have ex : Ex H2 (upd H2 s (SetTO P w s L)) := Ex.new hn
      refine ⟨s, L, rfl, upd_same, fun p hp => ex _ _ (hk p (h1 p hp)), fun hnd => ?_⟩
      have l1 := nodup_len (xs := L.map (·.2)) (ys := ks.map (·.2)) hnd fun x hx => by
        obtain ⟨p, hp, rfl⟩ := List.mem_map.mp hx
        exact List.mem_map_of_mem (h1 p hp)
      have s2 : ∀ x ∈ ks.map (·.2), x ∈ L.map (·.2) := fun x hx => by
        obtain ⟨p, hp, rfl⟩ := List.mem_map.mp hx
        exact h2 p hp
      have key : ((L.length : Int) = ((ks.map (·.2)).length : Int)) ↔ (ks.map (·.2)).Nodup := by
        constructor
        · intro e
          refine nodup_back hnd (fun x hx => ?_) (by simp only [List.length_map] at e ⊢; omega)
          obtain ⟨p, hp, rfl⟩ := List.mem_map.mp hx
          exact List.mem_map_of_mem (h1 p hp)
        · intro nd
          have l2 := nodup_len (xs := ks.map (·.2)) (ys := L.map (·.2)) nd s2
          rw [List.length_map] at l1 l2
          rw [List.length_map] at l1 l2
          rw [List.length_map]
          omega
      refine hb _ ((e.trans e2).trans ex) _ (Ex.refl _) _ fun H3 e3 => ?_
      have z : decide (V.int (L.length : Int) = V.int ((ks.map (·.2)).length : Int)) = decide (ks.map (·.2)).Nodup := decide_eq_decide.mpr ⟨fun e => key.mp (by injection e), fun h => by rw [key.mpr h]⟩
      refine (rv_eq (H := H3) (x := .int (L.length : Int)) (y := .int ((ks.map (·.2)).length : Int)) rfl) H3 (Ex.refl _) _ fun H4 e4 => ?_
      rw [z]
      exact q _ (((e2.trans ex).trans e3).trans e4)
    have lk : ks.length < 64 := by rw [List.length_map] at h60; omega
    rcases hs with hs | hs
    · exact .inl ⟨l, ks, rfl, sq_of hs, fun p hp => st_of (hk p hp), lk, fin⟩
    · exact .inr ⟨l, ks, rfl, st_of hs, fun p hp => st_of (hk p hp), lk, fin⟩
/-- what are_rows says of a value -/
inductive RowsO (K : PySem.W.Frag) (H : Hp) (n : Nat) : V → Bool → Prop
  | oth {x : V} (h : ListR K H x none) : RowsO K H n x false
  | many {p : Addr} {xs : List V} (h : Seq H p xs) (l : 40 < xs.length) : RowsO K H n (.ref p) false
  | bad {p : Addr} {xs : List V} {ds : List PyData} (h : Seq H p xs) (l : xs.length ≤ 40) (hd : DaAll H xs ds) (b : ds.all (rowB n) = false) : RowsO K H n (.ref p) false
  | rows {x : V} {rs : List (List Int)} (h : Rws H x rs) (l : rs.length ≤ 40) (ho : ∀ r ∈ rs, OkRow n r) : RowsO K H n x (decide rs.Nodup)
theorem RowsO.ex {H H' : Hp} {n : Nat} {x : V} {b : Bool} (h : RowsO K H n x b) (e : Ex H H') : RowsO K H' n x b := by
  cases h with
  | oth h => exact .oth (h.ex e)
  | many h l => exact .many (h.ex e) l
  | bad h l hd b => exact .bad (h.ex e) l (hd.ex e) b
  | rows h l ho => exact .rows (h.ex e) l ho
theorem paired_da {H : Hp} : ∀ {xs : List V} {rs : List (List Int)}, Paired (IsRow H) xs rs → DaAll H xs (rs.map fun r => .tuple (r.map PyData.int))
  | _, _, .nil => .nil
  | _, _, .cons h t => .cons h.da (paired_da t)
def sp_are_rows (K : PySem.W.Frag) : Sp := fun vs H Q _ => ∃ (p : Addr) (zs : List V) (x : V) (b : Bool), vs = [.ref p, x] ∧ H p = some (.lst zs) ∧ zs.length ≤ 5 ∧ RowsO K H zs.length x b ∧ RetV (.bl b) H Q
theorem ok_are_rows (T : All K mg a d tk c ci di) : FnOk P w K mg base CX0 3 (a 11) (d 11) ["columns", "value"] (sp_are_rows K) := by
  refine T.F_are_rows.fn.ok sc_are_rows (fun vs H Q E h => ?_) (fun cdv A outer s H vs Q E hr h => ?_)
  · obtain ⟨p, zs, x, b, rfl, _⟩ := h
    rfl
  · obtain ⟨p, zs, x, b, rfl, hp, h5, hx, k⟩ := h
    have nd := sc_are_rows.nd
    have hu64 := hr.units
    refine ⟨_, (pss_cons (ps_if (PW.pt (pw_or (pt_not (pt_val (pe_call (ok_is_list T) (hr.mono (by decide)) rfl T.F_is_list.m T.F_is_list.kp T.F_is_list.b .nil pass0 (pa_cons (pv 1) pa_nil)))) (pw_or (pt_cmpR op_gt (pe_callB call_len_seq (by rfl) T.n_len PySem.boot_len (pa_cons (pv 1) pa_nil)) (pe_glob (v := .int 40) rfl T.c_MOST_ROWS ⟨_, rfl⟩) (nomark _)) (pw_or1 (pt_not (pt_val (pe_callB (cr_all rfl) (by rfl) T.n_all PyProof.Rows.boot_all (pa_cons (pe_lc (own := [("row", 2)]) (g := (gName 2)) rfl nd (pi_seq (pv 1)) (blkOk_by (N := N_are_rows) (sc := defScope s_are_rows) (by decide +kernel)) (fun _ _ _ _ _ => (pg_name (i := 2) nd rfl (Or.inl rfl))) (fun _ _ _ _ _ => pts_nil) (fun _ _ _ _ _ => (pe_call (ok_is_row T) (hr.mono (by decide)) rfl T.F_is_row.m T.F_is_row.kp T.F_is_row.b .nil pass0 (pa_cons (pv 2) (pa_cons (pe_callB (show CallR _ (.builtin "len") (Evl.rLenS K) from call_len_seq) (by rfl) T.n_len PySem.boot_len (pa_cons (pv 0) pa_nil)) pa_nil))))) pa_nil))))))))
 (pss_one (ps_ret pe_bl))
 pss_nil)
 (pss_one (ps_ret (pe_cmpR op_eq (pe_callB call_lenSetT (by rfl) T.n_len PySem.boot_len (pa_cons (pe_callTy (cr_setS rfl hu64) rfl T.n_set PyProof.Rows.boot_set (pa_cons (pv 1) pa_nil)) pa_nil)) (pe_callB call_len_seq (by rfl) T.n_len PySem.boot_len (pa_cons (pv 1) pa_nil)) (nomark _))))), ?_⟩
    have all : ∀ {q : Addr} {xs : List V} {ds : List PyData}, Seq H q xs → xs.length ≤ 40 → DaAll H xs ds → ∀ H1, Ex H H1 → Ev (tCB (rAll K) (tCons (tLc (iSeq K (tVar 1)) (gName 2) tYes (tCall sp_is_row [] E0 (tCons (tVar 2) (tCons (tCB (rLenS K) (tCons (tVar 0) tNil)) tNil))) [2]) tNil)) (start N_are_rows [V.ref p, V.ref q]) H1 (.bl (ds.all (rowB (zs.length : Int)))) := fun hs l hd H1 e1 =>
      ev_allD (rowB (zs.length : Int)) (ev_var rfl) (hs.ex e1) (hd.ex e1) (by omega) (fun _ => rfl) fun y dd H2 e2 _ _ hy => ev_call (ea_cons (ev_var rfl) (ea_cons (ev_lenS (ev_var (i := 0) rfl) (.inl ((e1.trans e2) _ _ hp))) ea_nil)) (spv_rowD hy (by omega))
    cases hx with
    | oth hL =>
      cases hL with
      | oth hI => exact q_when (b := true) (et_or (a := true) (b := true) (et_not (et_B (ev_isListI (ev_var (i := 1) rfl) hI))) fun h => nomatch h) (fun _ H1 e1 => s_ret ev_c fun H2 e2 => k H2 (e1.trans e2)) fun h => nomatch h
    | @many q xs hs l =>
      refine q_when (b := true) (et_is (et_or (a := false) (et_not (et_B (ev_isList (ev_var (i := 1) rfl) (.seq hs)))) fun _ => et_or (a := true) (b := true) (et_is (et_I0 (ev_lenS (ev_var (i := 1) rfl) hs) ev_c) ?_) fun h => nomatch h) rfl) (fun _ H1 e1 => s_ret ev_c fun H2 e2 => k H2 (e1.trans e2)) fun h => nomatch h
      exact decide_eq_true (by omega)
    | @bad q xs ds hs l hd hb =>
      refine q_when (b := true) (et_is (et_or (a := false) (et_not (et_B (ev_isList (ev_var (i := 1) rfl) (.seq hs)))) fun _ => et_or (a := false) (et_is (et_I0 (ev_lenS (ev_var (i := 1) rfl) hs) ev_c) ?_) fun _ => et_not (et_B (all hs l hd _ (Ex.refl _)))) ?_) (fun _ H1 e1 => s_ret ev_c fun H2 e2 => k H2 (e1.trans e2)) fun h => nomatch h
      · exact decide_eq_false (by omega)
      · rw [hb] <;> rfl
    | @rows _ rs hR l ho =>
      obtain ⟨q, xs, rfl, hs, hpr⟩ := id hR
      have hlen : xs.length = rs.length := Paired.length hpr
      refine q_when (b := false) (et_is (et_or (a := false) (et_not (et_B (ev_isList (ev_var (i := 1) rfl) (.seq hs)))) fun _ => et_or (a := false) (et_is (et_I0 (ev_lenS (ev_var (i := 1) rfl) hs) ev_c) ?_) fun _ => et_not (et_B (all hs (by omega) (paired_da hpr) _ (Ex.refl _)))) ?_) (fun h => nomatch h) fun _ H1 e1 => ?_
      · exact decide_eq_false (by omega)
      · have z : (rs.map fun r => PyData.tuple (r.map PyData.int)).all (rowB (zs.length : Int)) = true := by
          rw [List.all_map, List.all_eq_true]
          intro r hr
          have o := ho r hr
          show (decide (((r.map PyData.int).length : Int) = (zs.length : Int)) && _) = true
          rw [o.any, List.length_map, o.1, decide_eq_true rfl] <;> rfl
        rw [z] <;> rfl
      · refine s_ret (ev_lenSetQ (ev_var (i := 1) rfl) (hR.ex e1) (by omega) fun H2 e2 => ?_) fun H2 e2 => k H2 (e1.trans e2)
        rw [← hlen]
        exact ev_lenS (ev_var (i := 1) rfl) (hs.ex (e1.trans e2))
/-! need_rows -/
def rowsE (K : PySem.W.Frag) (c : Nat → Addr) (n : Nat) (x : V) (H : Hp) (F : Prop) (E : XK) : Prop := ∃ b, RowsO K H n x b ∧ if b = true then F else Rs c 3 x H E
def sp_need_rows (K : PySem.W.Frag) (c : Nat → Addr) : Sp := fun vs H Q E => ∃ (p : Addr) (zs : List V) (x : V), vs = [.ref p, x] ∧ H p = some (.lst zs) ∧ zs.length ≤ 5 ∧ rowsE K c zs.length x H (RetV .non H Q) E
theorem ok_need_rows (T : All K mg a d tk c ci di) : FnOk P w K mg base (L2.CX P w) 5 (a 12) (d 12) ["columns", "rows"] (sp_need_rows K c) := by
  refine T.F_need_rows.fn.okX sc_need_rows (fun vs H Q E h => ?_) (fun cdv A outer s H vs Q E hr h => ?_)
  · obtain ⟨p, zs, x, rfl, _⟩ := h
    rfl
  · obtain ⟨p, zs, x, rfl, hp, h5, b, hx, hO⟩ := h
    have nd := sc_need_rows.nd
    refine ⟨_, (pss_one (ps_if (pt_not (pt_val (pe_call (ok_are_rows T) (hr.mono (by decide)) rfl T.F_are_rows.m T.F_are_rows.kp T.F_are_rows.b .nil pass0 (pa_cons (pv 0) (pa_cons (pv 1) pa_nil)))))
 (pss_one (ps_raise rfl (takes_of rfl rfl rfl rfl) (pmk_rz (exT_InvalidRows T) (hr.mono (by decide)) rfl (by decide) (pa_cons (pv 1) pa_nil))))
 pss_nil)), ?_⟩
    have t : EvT (tNot (tB (tCall (sp_are_rows K) [] E0 (tCons (tVar 0) (tCons (tVar 1) tNil))))) (start N_need_rows [V.ref p, x]) H (!b) := et_not (et_B (ev_call (ea_cons (ev_var (i := 0) rfl) (ea_cons (ev_var (i := 1) rfl) ea_nil)) fun H1 e Q q _ => ⟨p, zs, x, b, rfl, e _ _ hp, h5, hx.ex e, q⟩))
    cases b with
    | true =>
      rw [if_pos rfl] at hO
      exact s_when (b := false) t (fun h => nomatch h) fun _ H1 e1 => hO H1 e1
    | false =>
      rw [if_neg (fun h => nomatch h)] at hO
      exact s_when (b := true) t (fun _ H1 e1 => (ea_cons (ev_var (i := 1) rfl) ea_nil) H1 (Ex.refl _) _ fun H2 e2 => ⟨rfl, fun dx hd => (hO.ex (e1.trans e2)) dx _ hd (Ex.new hd) upd_same⟩) fun h => nomatch h
end
end Mv
/-! Where two rows agree; the first two rows that break a pair. -/
namespace Mv
open PySem PySem.Spec PyProof.Rows L2 Evl
theorem given_gtake {α : Type} (d : α) (xs : List α) (f : α → Bool) (g : α → V) : ∀ n, n ≤ xs.length → given n (fun i => f (xs.getD i d)) (fun i => g (xs.getD i d)) = ((xs.take n).filter f).map g
  | 0, _ => rfl
  | n + 1, h => by
    have hn : n < xs.length := h
    have ex : xs.getD n d = xs[n] := by rw [List.getD_eq_getElem?_getD, List.getElem?_eq_getElem hn] <;> rfl
    have et : xs.take (n + 1) = xs.take n ++ [xs[n]] := by rw [List.take_succ, List.getElem?_eq_getElem hn] <;> rfl
    have ih := given_gtake d xs f g n (Nat.le_of_lt hn)
    cases hf : f xs[n] with
    | true =>
      rw [given_yes (f := fun i => f (xs.getD i d)) (by show f (xs.getD n d) = true; rw [ex]; exact hf), ih, et, List.filter_append, List.map_append]
      show _ ++ [g (xs.getD n d)] = _
      rw [ex]
      simp [hf]
    | false =>
      rw [given_no (f := fun i => f (xs.getD i d)) (by show f (xs.getD n d) = false; rw [ex]; exact hf), ih, et, List.filter_append, List.map_append]
      simp [hf]
theorem given_g {α : Type} (d : α) (xs : List α) (f : α → Bool) (g : α → V) : given xs.length (fun i => f (xs.getD i d)) (fun i => g (xs.getD i d)) = (xs.filter f).map g := by
  rw [given_gtake d xs f g xs.length (Nat.le_refl _), List.take_length]
theorem cutV_drop (xs : List V) (n : Nat) (h : n ≤ xs.length) : cutV xs (some (n : Int)) none = xs.drop n := by
  unfold cutV
  rw [HT.sIx_nat, HT.sIx_none, Nat.min_eq_left h]
  exact List.take_of_length_le (by rw [List.length_drop]; omega)
def YTri (xs ys zs : List V) : Nat → Hp → V → Hp → Prop := fun i H v H' => ∃ T x y u, v = .ref T ∧ H T = none ∧ H' = upd H T (.tup [x, y, u]) ∧ xs[i]? = some x ∧ ys[i]? = some y ∧ zs[i]? = some u
theorem walk_zip3 {K : PySem.W.Frag} {a b c : Addr} {xs ys zs : List V} {n : Nat} (hn : n = min (min xs.length ys.length) zs.length) : Walk (Itz3 K a b c) n (fun H => SqL K H a xs ∧ SqT K H b ys ∧ SqT K H c zs) (YTri xs ys zs) := by
  subst hn
  refine ⟨fun i _ hi q => ?_, fun _ q => ⟨xs, ys, zs, q.1, q.2.1, q.2.2, rfl⟩, fun i H v H' _ q y => ?_⟩
  · have h1 : i < xs.length := by omega
    have h2 : i < ys.length := by omega
    have h3 : i < zs.length := by omega
    exact ⟨xs, ys, zs, xs[i], ys[i], zs[i], q.1, q.2.1, q.2.2, by simp [h1], by simp [h2], by simp [h3]⟩
  · obtain ⟨T, x, z, u, h1, h2, h3, h4, h5, h6⟩ := y
    exact ⟨T, x, z, u, h1, h2, h3, h4 xs q.1, h5 ys q.2.1, h6 zs q.2.2⟩
section
variable {K : PySem.W.Frag} {σ : L2.St} {H H' : Hp} {ta tb te tl : TE} {tA : TA} {x y z v : V} {D : Ends} {tu tz : TS} {t : TT}
/-- [e for x, y, u in zip(xs, ys, zs) if ..] -/
theorem el_lcZ3 {a b c : Addr} {xs ys zs : List V} {j1 j2 j3 n : Nat} {vs : List Nat} (f : Nat → Bool) (g : Nat → V) (h : EvA tA σ H [.ref a, .ref b, .ref c]) (hx : H a = some (.lst xs)) (hy : H b = some (.tup ys)) (hz : H c = some (.tup zs)) (lx : xs.length = n) (ly : ys.length = n) (lz : zs.length = n) (ln : n ≤ 40000)
    (hw : ∀ x y u, wipe ((((wipe σ vs).set j1 (some x)).set j2 (some y)).set j3 (some u)) vs = wipe σ vs)
    (ht : ∀ (i : Nat) (x y u : V) H1, Ex H H1 → xs[i]? = some x → ys[i]? = some y → zs[i]? = some u → EvT t ((((wipe σ vs).set j1 (some x)).set j2 (some y)).set j3 (some u)) H1 (f i))
    (he : ∀ (i : Nat) (x y u : V) H1, Ex H H1 → xs[i]? = some x → ys[i]? = some y → zs[i]? = some u → Ev te ((((wipe σ vs).set j1 (some x)).set j2 (some y)).set j3 (some u)) H1 (g i)) :
    EvL (tLc (iZip3 K tA) (gTup K 3 (gCons (gName j1) (gCons (gName j2) (gCons (gName j3) gNil)))) t te vs) σ H (given n f g) := fun H0 e Q q => h H0 e _ fun H1 e1 => ⟨a, b, c, xs, ys, zs, rfl, sq_of ((e.trans e1) _ _ hx), st_of ((e.trans e1) _ _ hy), st_of ((e.trans e1) _ _ hz), fun Dl hD =>
  lc_it (walk_zip3 (xs := xs) (ys := ys) (zs := zs) (n := n) (by omega)) (Cw H1 f g Dl) ⟨hD, Ex.new hD, upd_same⟩ (fun i H' _ p => ⟨sq_of (((e.trans e1).trans p.2.1) _ _ hx), st_of (((e.trans e1).trans p.2.1) _ _ hy), st_of (((e.trans e1).trans p.2.1) _ _ hz)⟩) (fun i v H' H'' hi p hv => by
    obtain ⟨T, x, y, u, rfl, hT, rfl, h4, h5, h6⟩ := hv
    have p' : Cw H1 f g Dl i (upd H' T (.tup [x, y, u])) := ⟨p.1, p.2.1.trans (Ex.new hT), (Ex.new hT) _ _ p.2.2⟩
    exact ⟨T, _, rfl, st_of upd_same, rfl, _, _, rfl, _, _, rfl, _, _, rfl, rfl, hw _ _ _, cw_turn p' (by omega) (ht i x y u H1 (e.trans e1) h4 h5 h6) fun _ => he i x y u H1 (e.trans e1) h4 h5 h6⟩) (fun H' p => q Dl H' (fresh_back e1 p.1) (e1.trans p.2.1) p.2.2)⟩
/-- a new list or tuple, as the list is -/
def EvS2 (te : TE) (σ : L2.St) (H : Hp) (l : Bool) (xs : List V) : Prop := ∀ H1, Ex H H1 → ∀ Q : VK, (∀ p H2, H1 p = none → Ex H1 H2 → H2 p = some (if l = true then .lst xs else .tup xs) → Q (.ref p) H2) → te σ H1 Q
theorem Seq.l {q : Addr} {xs : List V} (h : Seq H q xs) : ∃ l : Bool, H q = some (if l = true then .lst xs else .tup xs) := h.elim (fun z => ⟨true, z⟩) fun z => ⟨false, z⟩
/-- xs[n:] of a list or a tuple -/
theorem es_drop {q : Addr} {xs : List V} {n : Nat} {l : Bool} {tp : TO} (h : Ev te σ H (.ref q)) (hl : H q = some (if l = true then .lst xs else .tup xs)) (ho : EvO tp σ H (some (n : Int))) (h1 : 1 ≤ n) (h2 : n ≤ xs.length) :
    EvS2 (tSl (fun x lo hi H Q => rSlL K x lo hi H Q ∨ rSlT K x lo hi H Q) te tp tNoPart) σ H l (xs.drop n) := fun H1 e Q k => h H1 e _ fun H2 e2 => ho H2 (e.trans e2) _ fun H3 e3 => by
  show _ ∨ _
  have e13 := (e.trans e2).trans e3
  cases l with
  | true =>
    refine .inl ⟨q, xs, rfl, sq_of (e13 _ _ hl), fun p hp => ?_⟩
    rw [cutV_drop xs n h2]
    exact k p _ (fresh_back (e2.trans e3) hp) ((e2.trans e3).trans (Ex.new hp)) upd_same
  | false =>
    refine .inr ⟨q, xs, rfl, st_of (e13 _ _ hl), fun hh => ?_, fun p hp => ?_⟩
    · have := hh.1
      rw [HT.sIx_nat] at this
      omega
    · rw [cutV_drop xs n h2]
      exact k p _ (fresh_back (e2.trans e3) hp) ((e2.trans e3).trans (Ex.new hp)) upd_same
/-- a comprehension over it -/
theorem el_lcS2 {xs : List V} {l : Bool} {j : Nat} {vs : List Nat} (f : Nat → Bool) (g : Nat → V) (h : EvS2 tl σ H l xs) (hz : xs.length ≤ 40000) (hw : ∀ x, wipe ((wipe σ vs).set j (some x)) vs = wipe σ vs)
    (ht : ∀ (i : Nat) (x : V) H1, Ex H H1 → xs[i]? = some x → EvT t ((wipe σ vs).set j (some x)) H1 (f i)) (he : ∀ (i : Nat) (x : V) H1, Ex H H1 → xs[i]? = some x → f i = true → Ev te ((wipe σ vs).set j (some x)) H1 (g i)) :
    EvL (tLc (iSeq K tl) (gName j) t te vs) σ H (given xs.length f g) := by
  intro H0 e Q q
  cases l with
  | true => exact .inl (h H0 e _ fun a H1 ha e1 hl => ⟨a, rfl, ⟨xs, sq_of hl⟩, fun Dl hD =>
      lc_list (xs := xs) (Cw H1 f g Dl) ⟨hD, Ex.new hD, upd_same⟩ (fun i H' _ p => sq_of (p.2.1 _ _ hl)) (fun i x H' hi p => ⟨hw x, cw_turn p (by have := (List.getElem?_eq_some_iff.mp hi).1; omega)
        (ht i x H1 (e.trans e1) hi) (fun hf => he i x H1 (e.trans e1) hi hf)⟩)
        (fun H' p => q Dl H' (fresh_back e1 p.1) (e1.trans p.2.1) p.2.2)⟩)
  | false => exact .inr (h H0 e _ fun a H1 ha e1 hl => ⟨a, rfl, ⟨xs, st_of hl⟩, fun Dl hD =>
      lc_tup (xs := xs) (Cw H1 f g Dl) ⟨hD, Ex.new hD, upd_same⟩ (fun i H' _ p => st_of (p.2.1 _ _ hl)) (fun i x H' hi p => ⟨hw x, cw_turn p (by have := (List.getElem?_eq_some_iff.mp hi).1; omega)
        (ht i x H1 (e.trans e1) hi) (fun hf => he i x H1 (e.trans e1) hi hf)⟩)
        (fun H' p => q Dl H' (fresh_back e1 p.1) (e1.trans p.2.1) p.2.2)⟩)
/-- for i, x in enumerate(xs), a list or a tuple that stays -/
theorem s_forEn {a : Addr} {xs : List V} {j1 j2 : Nat} (h : EvA tA σ H [.ref a]) (hx : Seq H a xs) (Pv : Nat → L2.St → Hp → Prop) (h0 : ∀ H1, Ex H H1 → Pv 0 σ H1) (hl : ∀ i σ' H', i ≤ xs.length → Pv i σ' H' → H' a = H a)
    (hs : ∀ i x U σ' H', xs[i]? = some x → Pv i σ' H' → H' U = none → tu { D with nx := Pv (i + 1), ct := Pv (i + 1), bk := D.nx } ((σ'.set j1 (some (.int (i : Int)))).set j2 (some x)) (upd H' U (.tup [.int (i : Int), x]))) (hd : ∀ σ' H', Pv xs.length σ' H' → D.nx σ' H') :
    tFor (iEnumS K tA) (gTup K 2 (gCons (gName j1) (gCons (gName j2) gNil))) tu D σ H := by
  have turn : ∀ i v σ' H' H'', i < xs.length → Pv i σ' H' → YPair (fun i => some (.int (i : Nat))) (fun i => xs[i]?) i H' v H'' → gTup K 2 (gCons (gName j1) (gCons (gName j2) gNil)) v σ' H'' fun σ2 H2 => tu { D with nx := Pv (i + 1), ct := Pv (i + 1), bk := D.nx } σ2 H2 := by
    rintro i v σ' H' H'' hi p ⟨U, xi, xx, rfl, hU, rfl, e1x, e2x⟩
    obtain rfl : xi = V.int (i : Int) := (Option.some.inj e1x).symm
    exact ⟨U, _, rfl, st_of upd_same, rfl, _, _, rfl, _, _, rfl, rfl, hs i xx U σ' H' e2x p hU⟩
  rcases hx with hx | hx
  · exact .inl (h H (Ex.refl H) _ fun H1 e => ⟨a, xs, rfl, ex_l e (sq_of hx), for_it (walk_enum (K := K) (a := a) (xs := xs)) Pv (h0 H1 e) (fun i σ' H' hi p => sq_of ((hl i σ' H' hi p).trans hx)) turn hd⟩)
  · exact .inr (h H (Ex.refl H) _ fun H1 e => ⟨a, xs, rfl, ex_t e (st_of hx), for_it (walk_enumU (K := K) (a := a) (xs := xs)) Pv (h0 H1 e) (fun i σ' H' hi p => st_of ((hl i σ' H' hi p).trans hx)) turn hd⟩)
theorem q_forEn {a : Addr} {xs : List V} {j1 j2 : Nat} (h : EvA tA σ H [.ref a]) (hx : Seq H a xs) (Pv : Nat → L2.St → Hp → Prop) (h0 : ∀ H1, Ex H H1 → Pv 0 σ H1) (hl : ∀ i σ' H', i ≤ xs.length → Pv i σ' H' → H' a = H a)
    (hs : ∀ i x U σ' H', xs[i]? = some x → Pv i σ' H' → H' U = none → tu { D with nx := Pv (i + 1), ct := Pv (i + 1), bk := tz D } ((σ'.set j1 (some (.int (i : Int)))).set j2 (some x)) (upd H' U (.tup [.int (i : Int), x]))) (hd : ∀ σ' H', Pv xs.length σ' H' → tz D σ' H') :
    tSeq (tFor (iEnumS K tA) (gTup K 2 (gCons (gName j1) (gCons (gName j2) gNil))) tu) tz D σ H := s_forEn (D := { D with nx := tz D }) h hx Pv h0 hl hs hd
theorem ev_neNil {p : Addr} {xs : List V} (h : Ev ta σ H (.ref p)) (hp : H p = some (.lst xs)) : Ev (tOp (rNilEq K true) ta (tLst tNil)) σ H (.bl (!xs.isEmpty)) := fun H1 e Q q => h H1 e _ fun H2 e2 => ⟨sz_of (show 0 ≤ 100000 by decide), fun l hl =>
  ⟨p, l, xs, rfl, rfl, sq_of ((Ex.new hl) _ _ ((e.trans e2) _ _ hp)), sq_of upd_same, q _ (e2.trans (Ex.new hl))⟩⟩
end
def RetU (xs : List V) (H : Hp) (Q : VK) : Prop := ∀ p H2, H p = none → Ex H H2 → H2 p = some (.tup xs) → Q (.ref p) H2
theorem RetU.ex {xs : List V} {H H' : Hp} {Q : VK} (k : RetU xs H Q) (e : Ex H H') : RetU xs H' Q := fun p H2 hp e2 h => k p H2 (fresh_back e hp) (e.trans e2) h
/-! the plain things -/
def agr (zs : List Str) (r s : List Int) : List Str := ((zs.zip (r.zip s)).filter fun p => decide (p.2.1 = p.2.2)).map (·.1)
def keepB (zs : List Str) (p : Pr) (r s : List Int) : Bool := decide (p.2 ∈ agr zs r s) || !(p.1.all fun z => decide (z ∈ agr zs r s))
abbrev KR : Type := V × List Int
def firstU (zs : List Str) (p : Pr) : List KR → Option (KR × KR)
  | [] => none
  | k :: ks => match ks.filter fun o => !keepB zs p k.2 o.2 with
    | [] => firstU zs p ks
    | o :: _ => some (k, o)
theorem agr_mem {zs : List Str} {r s : List Int} {z : Str} (h : z ∈ agr zs r s) : z ∈ zs := by
  obtain ⟨p, hp, rfl⟩ := List.mem_map.mp h
  exact (List.of_mem_zip (List.mem_filter.mp hp).1).1
section
variable {P : Program} {w : World} {K : PySem.W.Frag} {mg : Str → Option Value} {base : Heap} {a : Nat → Addr} {d : Nat → FuncData} {tk : Nat → Tok} {c ci : Nat → Addr} {di : Nat → FuncData}
/-! agreeing -/
def sp_agreeing : Sp := fun vs H Q _ => ∃ (p q t : Addr) (zs : List Str) (r s : List Int), vs = [.ref p, .ref q, .ref t] ∧ H p = some (.lst (zs.map V.str)) ∧ H q = some (.tup (r.map V.int)) ∧ H t = some (.tup (s.map V.int)) ∧ r.length = zs.length ∧ s.length = zs.length ∧ zs.length ≤ 5 ∧ RetL ((agr zs r s).map V.str) H Q
theorem ok_agreeing (T : All K mg a d tk c ci di) : FnOk P w K mg base CX0 1 (a 9) (d 9) ["columns", "one", "other"] sp_agreeing := by
  refine T.F_agreeing.fn.ok sc_agreeing (fun vs H Q E h => ?_) (fun cdv A outer s H vs Q E hr h => ?_)
  · obtain ⟨p, q, t, zs, r, s, rfl, _⟩ := h
    rfl
  · obtain ⟨p, q, t, zs, r, s, rfl, hp, hq, ht, lr, ls, l5, k⟩ := h
    have nd := sc_agreeing.nd
    refine ⟨_, (pss_one (ps_ret (pe_lc (own := [("column", 3), ("mine", 4), ("theirs", 5)]) (g := (gTup K 3 (gCons (gName 3) (gCons (gName 4) (gCons (gName 5) gNil))))) rfl nd (pi_zip3 rfl T.n_zip (pa_cons (pv 0) (pa_cons (pv 1) (pa_cons (pv 2) pa_nil)))) (blkOk_by (N := N_agreeing) (sc := defScope s_agreeing) (by decide +kernel)) (fun _ _ _ _ _ => (pg_tup rfl (pgs_cons (pg_name (i := 3) nd rfl (Or.inl rfl)) (pgs_cons (pg_name (i := 4) nd rfl (Or.inl rfl)) (pgs_cons (pg_name (i := 5) nd rfl (Or.inl rfl)) pgs_nil))))) (fun _ _ _ _ _ => (pts_one (pt_cmpR op_eq (pv 4) (pv 5) (nomark _)))) (fun _ _ _ _ _ => (pv 3))))), ?_⟩
    have z := el_lcZ3 (K := K) (t := tTest (tOp rEq (tVar 4) (tVar 5))) (te := tVar 3) (tA := tCons (tVar 0) (tCons (tVar 1) (tCons (tVar 2) tNil))) (σ := start N_agreeing [V.ref p, V.ref q, V.ref t]) (H := H) (j1 := 3) (j2 := 4) (j3 := 5) (vs := [3, 4, 5]) (n := (zs.zip (r.zip s)).length)
      (fun i => decide (((zs.zip (r.zip s)).getD i ("", 0, 0)).2.1 = ((zs.zip (r.zip s)).getD i ("", 0, 0)).2.2)) (fun i => V.str ((zs.zip (r.zip s)).getD i ("", 0, 0)).1)
      (ea_cons (ev_var rfl) (ea_cons (ev_var rfl) (ea_cons (ev_var rfl) ea_nil))) hp hq ht (by simp [lr, ls]) (by simp [lr, ls]) (by simp [lr, ls]) (by simp [lr, ls]; omega) (fun _ _ _ => rfl) (fun i x y u H1 e1 hx hy hu => ?_) (fun i x y u H1 e1 hx hy hu => ?_)
    rotate_left
    · rw [List.getElem?_map, Option.map_eq_some_iff] at hx hy hu
      obtain ⟨z, hz, rfl⟩ := hx
      obtain ⟨m, hm, rfl⟩ := hy
      obtain ⟨n, hn, rfl⟩ := hu
      have e : (zs.zip (r.zip s)).getD i ("", 0, 0) = (z, m, n) := by
        have e1 : (r.zip s)[i]? = some (m, n) := List.getElem?_zip_eq_some.mpr ⟨hm, hn⟩
        have e2 : (zs.zip (r.zip s))[i]? = some (z, (m, n)) := List.getElem?_zip_eq_some.mpr ⟨hz, e1⟩
        rw [List.getD_eq_getElem?_getD, e2] <;> rfl
      rw [e]
      refine et_is (et_test (ev_op (ev_var rfl) (ev_var rfl) (rv_eq rfl))) (decide_eq_decide.mpr ⟨fun h => by injection h, fun h => by rw [show m = n from h]⟩)
    · rw [List.getElem?_map, Option.map_eq_some_iff] at hx hy hu
      obtain ⟨z, hz, rfl⟩ := hx
      obtain ⟨m, hm, rfl⟩ := hy
      obtain ⟨n, hn, rfl⟩ := hu
      have e : (zs.zip (r.zip s)).getD i ("", 0, 0) = (z, m, n) := by
        have e1 : (r.zip s)[i]? = some (m, n) := List.getElem?_zip_eq_some.mpr ⟨hm, hn⟩
        have e2 : (zs.zip (r.zip s))[i]? = some (z, (m, n)) := List.getElem?_zip_eq_some.mpr ⟨hz, e1⟩
        rw [List.getD_eq_getElem?_getD, e2] <;> rfl
      rw [e]
      exact ev_var rfl
    rw [given_g (("" : Str), (0 : Int), (0 : Int)) (zs.zip (r.zip s)) (fun p => decide (p.2.1 = p.2.2)) fun p => V.str p.1] at z
    have e0 : (agr zs r s).map V.str = ((zs.zip (r.zip s)).filter fun p => decide (p.2.1 = p.2.2)).map fun p => V.str p.1 := by
      unfold agr
      rw [List.map_map] <;> rfl
    rw [e0] at k
    exact s_retL z k
/-! keep_pair -/
def sp_keep_pair : Sp := fun vs H Q _ => ∃ (p t q u : Addr) (zs : List Str) (pr : Pr) (r s : List Int), vs = [.ref p, .ref t, .ref q, .ref u] ∧ H p = some (.lst (zs.map V.str)) ∧ PairAt H (.ref t) pr ∧ H q = some (.tup (r.map V.int)) ∧ H u = some (.tup (s.map V.int)) ∧ r.length = zs.length ∧ s.length = zs.length ∧ zs.length ≤ 5 ∧
  (∀ z ∈ zs, PyData.strOk z = true) ∧ okP pr ∧ RetV (.bl (keepB zs pr r s)) H Q
theorem ok_keep_pair (T : All K mg a d tk c ci di) : FnOk P w K mg base CX0 2 (a 10) (d 10) ["columns", "pair", "one", "other"] sp_keep_pair := by
  refine T.F_keep_pair.fn.ok sc_keep_pair (fun vs H Q E h => ?_) (fun cdv A outer s H vs Q E hr h => ?_)
  · obtain ⟨p, t, q, u, zs, pr, r, s, rfl, _⟩ := h
    rfl
  · obtain ⟨p, t, q, u, zs, pr, r, s, rfl, hp, ⟨t', v, et, ht, hv⟩, hq, hu, lr, ls, l5, hz, ⟨o1, o2, o3⟩, k⟩ := h
    cases et
    have nd := sc_keep_pair.nd
    have hu65 := hu65_of hr
    refine ⟨_, (pss_cons (ps_set (i := 4) nd rfl (Or.inr rfl) (pe_call (ok_agreeing T) (hr.mono (by decide)) rfl T.F_agreeing.m T.F_agreeing.kp T.F_agreeing.b .nil pass0 (pa_cons (pv 0) (pa_cons (pv 2) (pa_cons (pv 3) pa_nil)))))
 (pss_one (ps_ret (pe_or (pe_cmpR (op_inD hu65) (pe_ix ix_tup (pv 1) pe_int (fun _ _ => rfl)) (pv 4) rfl) (pe_one (pe_not (pe_callB (cr_all rfl) (by rfl) T.n_all PyProof.Rows.boot_all (pa_cons (pe_lc (own := [("column", 5)]) (g := (gName 5)) rfl nd (pi_list (pe_ix ix_tup (pv 1) pe_int (fun _ _ => rfl))) (blkOk_by (N := N_keep_pair) (sc := defScope s_keep_pair) (by decide +kernel)) (fun _ _ _ _ _ => (pg_name (i := 5) nd rfl (Or.inl rfl))) (fun _ _ _ _ _ => pts_nil) (fun _ _ _ _ _ => (pe_cmpR (show OpR _ (compareOp .In) (rInD K) from (op_inD hu65)) (pv 5) (pv 4) rfl))) pa_nil)))))))), ?_⟩
    refine q_asgL (el_call (sp := sp_agreeing) (xs := (agr zs r s).map V.str) (ea_cons (ev_var (i := 0) rfl) (ea_cons (ev_var (i := 2) rfl) (ea_cons (ev_var (i := 3) rfl) ea_nil))) fun H1 e Q q' _ => ⟨p, q, u, zs, r, s, rfl, e _ _ hp, e _ _ hq, e _ _ hu, lr, ls, l5, q'⟩) fun g H1 hg e1 hl => ?_
    have okA : ∀ z ∈ agr zs r s, PyData.strOk z = true := fun z hm => hz z (agr_mem hm)
    have g0 : ∀ {H2 : Hp} {i : Int} {x : V} {σ1 : L2.St}, σ1[1]? = some (some (.ref t)) → Ex H H2 → atI [V.ref v, V.str pr.2] i = some x → Ev (tOp (rIxT K) (tVar 1) (tC (.int i))) σ1 H2 x := fun hσ e h => ev_op (ev_var hσ) ev_c (rv_ixT (st_of (e _ _ ht)) h)
    have e0 : keepB zs pr r s = (decide (pr.2 ∈ agr zs r s) || !(pr.1.all fun z => decide (z ∈ agr zs r s))) := rfl
    rw [e0] at k
    refine s_ret (ev_orV (ev_op (g0 rfl e1 rfl) (ev_var (i := 4) rfl) (rv_inStrs hl o2 okA)) fun _ => ev_notV ?_) fun H2 e2 => k H2 (e1.trans e2)
    have z := el_lcLm (K := K) (te := tOp (rInD K) (tVar 5) (tVar 4)) (tl := tOp (rIxT K) (tVar 1) (tC (.int 0))) (σ := [some (.ref p), some (.ref t), some (.ref q), some (.ref u), some (.ref g), none]) (H := H1) (j := 5) (vs := [5]) (fun x => .bl (decide (strOf x ∈ agr zs r s))) (g0 (σ1 := [some (.ref p), some (.ref t), some (.ref q), some (.ref u), some (.ref g), none]) rfl e1 rfl) (e1 _ _ hv) (by rw [List.length_map]; omega) (fun _ => rfl) (fun x H2 e2 hm => by
      obtain ⟨z, hz, rfl⟩ := List.mem_map.mp hm
      exact ev_op (ev_var (i := 5) rfl) (ev_var (i := 4) rfl) (rv_inStrs (e2 _ _ hl) (o1 z hz) okA))
    have e : (pr.1.map V.str).map (fun x => V.bl (decide (strOf x ∈ agr zs r s))) = (pr.1.map fun z => decide (z ∈ agr zs r s)).map V.bl := by
      rw [List.map_map, List.map_map] <;> rfl
    rw [e] at z
    have kk := ev_allN (K := K) z
    rw [List.all_map] at kk
    exact kk
/-! first_unkept -/
def FirstO (zs : List Str) (pr : Pr) (ks : List KR) (H : Hp) (Q : VK) : Prop := match firstU zs pr ks with
  | none => RetV .non H Q
  | some (k, o) => RetU [k.1, o.1] H Q
def sp_first_unkept : Sp := fun vs H Q _ => ∃ (p t q : Addr) (zs : List Str) (pr : Pr) (ks : List KR), vs = [.ref p, .ref t, .ref q] ∧ H p = some (.lst (zs.map V.str)) ∧ PairAt H (.ref t) pr ∧ Seq H q (ks.map (·.1)) ∧ (∀ k ∈ ks, IsRow H k.1 k.2 ∧ k.2.length = zs.length) ∧ ks.length ≤ 1000 ∧ zs.length ≤ 5 ∧
  (∀ z ∈ zs, PyData.strOk z = true) ∧ okP pr ∧ FirstO zs pr ks H Q
theorem ok_first_unkept (T : All K mg a d tk c ci di) : FnOk P w K mg base CX0 3 (a 13) (d 13) ["columns", "pair", "rows"] sp_first_unkept := by
  refine T.F_first_unkept.fn.ok sc_first_unkept (fun vs H Q E h => ?_) (fun cdv A outer s H vs Q E hr h => ?_)
  · obtain ⟨p, t, q, zs, pr, ks, rfl, _⟩ := h
    rfl
  · obtain ⟨p, t, q, zs, pr, ks, rfl, hp, ht, hq, hk, lk, l5, hz, ho, hO⟩ := h
    have nd := sc_first_unkept.nd
    have hu0 := hr.units0
    have hu65 := hu65_of hr
    refine ⟨_, (pss_cons (ps_for PassesOwn.never rfl (pi_enumS rfl T.n_enumerate (pa_cons (pv 2) pa_nil)) (pg_tup rfl (pgs_cons (pg_name (i := 3) nd rfl (Or.inl rfl)) (pgs_cons (pg_name (i := 4) nd rfl (Or.inr rfl)) pgs_nil)))
 (pss_cons (ps_setLc (i := 5) (own := [("other", 6)]) (g := (gName 6)) rfl nd rfl rfl (sw_true rfl rfl rfl (by decide +kernel)) (pi_seq (pe_slice (sl_list.or sl_tup) (pv 2) (po_some (pe_op op_add (pv 3) pe_int)) po_none)) (blkOk_by (N := N_first_unkept) (sc := defScope s_first_unkept) (by decide +kernel)) (fun _ _ _ _ _ => (pg_name (i := 6) nd rfl (Or.inl rfl))) (fun _ _ _ _ _ => (pts_one (pt_not (pt_val (pe_call (ok_keep_pair T) (hr.mono (by decide)) rfl T.F_keep_pair.m T.F_keep_pair.kp T.F_keep_pair.b .nil pass0 (pa_cons (pv 0) (pa_cons (pv 1) (pa_cons (pv 4) (pa_cons (pv 6) pa_nil))))))))) (fun _ _ _ _ _ => (pv 6)))
 (pss_one (ps_if (pt_cmpR (op_neNil hu0) (pv 5) (pe_lst pa_nil) (nomark _))
 (pss_one (ps_ret (pe_tup (pa_cons (pv 4) (pa_cons (pe_ix ix_list (pv 5) pe_int (fun _ _ => rfl)) pa_nil)))))
 pss_nil))))
 (pss_one (ps_ret pe_non))), ?_⟩
    let Pv : Nat → L2.St → Hp → Prop := fun i σ' H' => Ex H H' ∧ firstU zs pr ks = firstU zs pr (ks.drop i) ∧ ∃ v3 v4 v5 v6, σ' = [some (.ref p), some (.ref t), some (.ref q), v3, v4, v5, v6]
    refine q_forEn (K := K) (ea_cons (ev_var (i := 2) rfl) ea_nil) hq Pv (fun H1 e => ⟨e, by rw [List.drop_zero], _, _, _, _, rfl⟩) (fun i σ' H' _ z => hq.same z.1) ?_ ?_
    · rintro i x U σ' H' hx ⟨e', hw, v3, v4, v5, v6, rfl⟩ hU
      rw [List.getElem?_map, Option.map_eq_some_iff] at hx
      obtain ⟨k, hki, rfl⟩ := hx
      obtain ⟨hil, hig⟩ := List.getElem?_eq_some_iff.mp hki
      obtain ⟨⟨b, hb1, hb2⟩, hbl⟩ := hk k (List.mem_of_getElem? hki)
      have e2 : Ex H (upd H' U (.tup [.int (i : Int), k.1])) := e'.trans (Ex.new hU)
      rw [List.drop_eq_getElem_cons hil, hig, firstU] at hw
      obtain ⟨l, hl⟩ := Seq.l (hq.ex e2)
      have hlen : ((ks.map (·.1)).drop (i + 1)).length = (ks.drop (i + 1)).length := by rw [List.length_drop, List.length_drop, List.length_map]
      have z := el_lcS2 (K := K) (l := l) (xs := (ks.map (·.1)).drop (i + 1)) (t := tNot (tB (tCall sp_keep_pair [] E0 (tCons (tVar 0) (tCons (tVar 1) (tCons (tVar 4) (tCons (tVar 6) tNil))))))) (te := tVar 6) (j := 6) (vs := [6]) (σ := [some (.ref p), some (.ref t), some (.ref q), some (.int (i : Int)), some k.1, v5, v6]) (H := upd H' U (.tup [.int (i : Int), k.1]))
        (fun j => !keepB zs pr k.2 ((ks.drop (i + 1)).getD j (.non, [])).2) (fun j => ((ks.drop (i + 1)).getD j (.non, [])).1)
        (es_drop (K := K) (n := i + 1) (ev_var (i := 2) rfl) hl (eo_some (te := tOp (rI0 fun i j => .int (i + j)) (tVar 3) (tC (.int 1))) (ev_is (ev_I0 (g := fun i j => .int (i + j)) (i := (i : Int)) (j := 1) (ev_var (i := 3) rfl) ev_c) rfl)) (by omega) (by rw [List.length_map]; omega)) (by rw [hlen, List.length_drop]; omega) (fun _ => rfl) (fun j x H2 e3 hx => ?_) (fun j x H2 e3 hx _ => ?_)
      rotate_left
      · rw [← List.map_drop, List.getElem?_map, Option.map_eq_some_iff] at hx
        obtain ⟨o, hoj, rfl⟩ := hx
        have eo : (ks.drop (i + 1)).getD j (.non, []) = o := by rw [List.getD_eq_getElem?_getD, hoj] <;> rfl
        rw [eo]
        obtain ⟨⟨b2, ho1, ho2⟩, hol⟩ := hk o (List.mem_of_mem_drop (List.mem_of_getElem? hoj))
        have e4 := e2.trans e3
        refine et_not (et_B (ev_call (ea_cons (ev_var (i := 0) rfl) (ea_cons (ev_var (i := 1) rfl) (ea_cons (ev_var (i := 4) rfl) (ea_cons (ev_var (i := 6) rfl) ea_nil)))) fun H3 e5 Q q' _ => ⟨p, t, b, b2, zs, pr, k.2, o.2, by rw [hb1, ho1] <;> rfl, (e4.trans e5) _ _ hp, ht.ex (e4.trans e5), (e4.trans e5) _ _ hb2, (e4.trans e5) _ _ ho2, hbl, hol, l5, hz, ho, q'⟩))
      · rw [← List.map_drop, List.getElem?_map, Option.map_eq_some_iff] at hx
        obtain ⟨o, hoj, rfl⟩ := hx
        have eo : (ks.drop (i + 1)).getD j (.non, []) = o := by rw [List.getD_eq_getElem?_getD, hoj] <;> rfl
        rw [eo]
        exact ev_var rfl
      rw [hlen, given_g (.non, []) (ks.drop (i + 1)) (fun o => !keepB zs pr k.2 o.2) fun o => o.1] at z
      refine q_asgL z fun r H2 hr2 e3 h3 => ?_
      have e13 := e2.trans e3
      cases hf : (ks.drop (i + 1)).filter fun o => !keepB zs pr k.2 o.2 with
      | nil =>
        rw [hf] at hw h3
        refine s_when (b := false) (et_is (et_test (ev_neNil (ev_var (i := 5) rfl) h3)) rfl) (fun h => nomatch h) fun _ H3 e4 => ⟨e13.trans e4, hw, _, _, _, _, rfl⟩
      | cons o os =>
        rw [hf] at hw h3
        unfold FirstO at hO
        rw [hw] at hO
        refine s_when (b := true) (et_is (et_test (ev_neNil (ev_var (i := 5) rfl) h3)) rfl) (fun _ H3 e4 => ?_) fun h => nomatch h
        exact s_retU (eu_tup (ea_cons (ev_var (i := 4) rfl) (ea_cons (ev_ixL (ev_var (i := 5) rfl) ev_c (sq_of (e4 _ _ h3)) (atI_nat (j := 0) (v := o.1) (by simp))) ea_nil)) (by simp)) fun T' H4 hT e5 h5 => hO T' H4 (fresh_back (e13.trans e4) hT) ((e13.trans e4).trans e5) h5
    · rintro σ' H' ⟨e', hw, v3, v4, v5, v6, rfl⟩
      rw [List.drop_eq_nil_of_le (by rw [List.length_map]; exact Nat.le_refl _), firstU] at hw
      unfold FirstO at hO
      rw [hw] at hO
      exact s_ret ev_c fun H2 e2 => hO H2 (e'.trans e2)
end
end Mv
/-! broken. -/
namespace Mv
open PySem PySem.Spec PyProof.Rows L2 Evl
/-- rows as they lie, of the width n -/
structure GoodR (H : Hp) (n : Nat) (q : Addr) (ks : List KR) : Prop where
  hs : Seq H q (ks.map (·.1))
  row : ∀ k ∈ ks, IsRow H k.1 k.2
  ok : ∀ k ∈ ks, OkRow n k.2
  nd : (ks.map (·.2)).Nodup
  few : ks.length ≤ 40
theorem GoodR.ex {H H' : Hp} {n : Nat} {q : Addr} {ks : List KR} (h : GoodR H n q ks) (e : Ex H H') : GoodR H' n q ks := ⟨h.hs.ex e, fun k hk => (h.row k hk).ex e, h.ok, h.nd, h.few⟩
theorem paired_kr {H : Hp} : ∀ {ks : List KR}, (∀ k ∈ ks, IsRow H k.1 k.2) → Paired (IsRow H) (ks.map (·.1)) (ks.map (·.2))
  | [], _ => .nil
  | k :: ks, h => .cons (h k List.mem_cons_self) (paired_kr fun k hk => h k (List.mem_cons_of_mem _ hk))
theorem GoodR.o {K : PySem.W.Frag} {H : Hp} {n : Nat} {q : Addr} {ks : List KR} (h : GoodR H n q ks) : RowsO K H n (.ref q) true := by
  have z := RowsO.rows (K := K) (n := n) ⟨q, _, rfl, h.hs, paired_kr h.row⟩ (by rw [List.length_map]; exact h.few) fun r hr => by
    obtain ⟨k, hk, rfl⟩ := List.mem_map.mp hr
    exact h.ok k hk
  rwa [decide_eq_true h.nd] at z
theorem GoodR.len {H : Hp} {n : Nat} {q : Addr} {ks : List KR} (h : GoodR H n q ks) : ∀ k ∈ ks, IsRow H k.1 k.2 ∧ k.2.length = n := fun k hk => ⟨h.row k hk, (h.ok k hk).1⟩
def brokenU (zs : List Str) (ks : List KR) : List Pr → Option (Pr × KR × KR)
  | [] => none
  | r :: rs => match firstU zs r ks with
    | some (k, o) => some (r, k, o)
    | none => brokenU zs ks rs
/-- a new triple: a new pair of a new list and a text, and two things -/
def RetB (r : Pr) (x y : V) (H : Hp) (Q : VK) : Prop := ∀ p t v H2, H p = none → H t = none → H v = none → Ex H H2 → H2 p = some (.tup [.ref t, x, y]) → H2 t = some (.tup [.ref v, .str r.2]) → H2 v = some (.lst (r.1.map V.str)) → Q (.ref p) H2
def BrkR (zs : List Str) (rs : List Pr) (ks : List KR) (H : Hp) (Q : VK) : Prop := match brokenU zs ks rs with
  | none => RetV .non H Q
  | some (r, k, o) => RetB r k.1 o.1 H Q
theorem ev_notN {σ : L2.St} {H : Hp} {ta : TE} {x : V} (h : Ev ta σ H x) : Ev (tNotN ta) σ H (.bl (!decide (x = .non))) := fun H1 e Q q => h H1 e _ fun H2 e2 => q H2 e2
inductive BrkO (K : PySem.W.Frag) (c : Nat → Addr) (zs : List Str) (rs : List Pr) (x : V) (H : Hp) (Q : VK) (E : XK) : Prop
  | bad (h : RowsO K H zs.length x false) (r : Rs c 3 x H E)
  | good (q : Addr) (ks : List KR) (e : x = .ref q) (h : GoodR H zs.length q ks) (k : BrkR zs rs ks H Q)
theorem RetB.ex {r : Pr} {x y : V} {H H' : Hp} {Q : VK} (k : RetB r x y H Q) (e : Ex H H') : RetB r x y H' Q := fun p t v H2 hp ht hv e2 h1 h2 h3 => k p t v H2 (fresh_back e hp) (fresh_back e ht) (fresh_back e hv) (e.trans e2) h1 h2 h3
section
variable {P : Program} {w : World} {K : PySem.W.Frag} {mg : Str → Option Value} {base : Heap} {a : Nat → Addr} {d : Nat → FuncData} {tk : Nat → Tok} {c ci : Nat → Addr} {di : Nat → FuncData}
def sp_Dependencies_broken (K : PySem.W.Frag) (c : Nat → Addr) : Sp := fun vs H Q E => ∃ (p : Addr) (zs : List Str) (rs : List Pr) (x : V), vs = [.ref p, x] ∧ DepR (c 9) H p zs rs ∧ DG zs rs ∧ BrkO K c zs rs x H Q E
theorem ok_Dependencies_broken (T : All K mg a d tk c ci di) : FnOk P w K mg base (L2.CX P w) 7 (a 32) (d 32) ["self", "rows"] (sp_Dependencies_broken K c) := by
  refine T.F_Dependencies_broken.okX sc_Dependencies_broken (fun vs H Q E h => ?_) (fun cdv A outer s H vs Q E hr h => ?_)
  · obtain ⟨p, zs, rs, x, rfl, _⟩ := h
    rfl
  · obtain ⟨p, zs, rs, x, rfl, hD, G, hO⟩ := h
    have hD0 := hD
    obtain ⟨dx, l, m, us, h1, h2, h3, h4⟩ := hD0
    have nd := sc_Dependencies_broken.nd
    have l5 : (zs.map V.str).length ≤ 5 := by rw [List.length_map]; exact G.l5
    have llen : (zs.map V.str).length = zs.length := List.length_map ..
    refine ⟨_, (pss_cons (ps_expr (pe_call (ok_need_rows T) (hr.mono (by decide)) rfl T.F_need_rows.m T.F_need_rows.kp T.F_need_rows.b .nil (passes_call (takes_of rfl rfl rfl rfl) (fun _ _ _ _ h => h)) (pa_cons (pe_fld (pv 0) rfl) (pa_cons (pv 1) pa_nil))))
 (pss_cons (ps_for (passes_of rfl) rfl (pi_list (pe_fld (pv 0) rfl)) (pg_tup rfl (pgs_cons (pg_name (i := 2) nd rfl (Or.inl rfl)) (pgs_cons (pg_name (i := 3) nd rfl (Or.inl rfl)) pgs_nil)))
 (pss_cons (ps_set (i := 4) nd rfl (Or.inl rfl) (pe_call (ok_first_unkept T) (hr.mono (by decide)) rfl T.F_first_unkept.m T.F_first_unkept.kp T.F_first_unkept.b .nil pass0 (pa_cons (pe_fld (pv 0) rfl) (pa_cons (pe_tup (pa_cons (pv 2) (pa_cons (pv 3) pa_nil))) (pa_cons (pv 1) pa_nil)))))
 (pss_one (ps_if (pt_cmp (pc_notN (pv 4)))
 (pss_one (ps_ret (pe_tup (pa_cons (pe_tup (pa_cons (pe_callTy call_list_of rfl T.n_list PyProof.Rows.boot_list (pa_cons (pv 2) pa_nil)) (pa_cons (pv 3) pa_nil))) (pa_cons (pe_ix ix_tup (pv 4) pe_int (fun _ _ => rfl)) (pa_cons (pe_ix ix_tup (pv 4) pe_int (fun _ _ => rfl)) pa_nil))))))
 pss_nil))))
 (pss_one (ps_ret pe_non)))), ?_⟩
    have fld : ∀ {σ1 : L2.St} {H1 : Hp}, σ1[0]? = some (some (.ref p)) → Ex H H1 → Ev (tFld K (tVar 0) "own_columns") σ1 H1 (.ref l) := fun hσ e => ev_fldI (ev_var hσ) (e _ _ h1) T.C_Dependencies T.A_Dependencies_own_columns (flD_cols l m)
    cases hO with
    | bad hx hR =>
      exact ⟨_, rfl, p, c 9, dx, _, _, rfl, h1, T.C_Dependencies, T.A_Dependencies_own_columns, flD_cols l m, _, rfl, l, _, x, rfl, h2, l5, false, by rw [llen]; exact hx, by rw [if_neg (fun h => nomatch h)]; exact hR⟩
    | good q ks e hg k =>
      subst e
      refine ⟨_, rfl, p, c 9, dx, _, _, rfl, h1, T.C_Dependencies, T.A_Dependencies_own_columns, flD_cols l m, _, rfl, l, _, .ref q, rfl, h2, l5, true, by rw [llen]; exact hg.o, ?_⟩
      rw [if_pos rfl]
      intro H3 e13
      dsimp only
      let Pv : Nat → L2.St → Hp → Prop := fun i σ' H' => Ex H H' ∧ brokenU zs ks rs = brokenU zs ks (rs.drop i) ∧ ∃ v2 v3 v4, σ' = [some (.ref p), some (.ref q), v2, v3, v4]
      have hlen := Paired.length h4
      refine ⟨_, rfl, p, c 9, dx, _, _, rfl, e13 _ _ h1, T.C_Dependencies, T.A_Dependencies_own_pairs, flD_pairs l m, m, rfl, ⟨us, sq_of (e13 _ _ h3)⟩, for_list (K := K) (a := m) (xs := us) Pv ⟨e13, by rw [List.drop_zero], _, _, _, rfl⟩ (fun i σ' H' _ z => sq_of (z.1 _ _ h3)) ?_ ?_⟩
      · rintro i x σ' H' hi ⟨e', hw, v2, v3, v4, rfl⟩
        obtain ⟨r, hri, t, v, rfl, ht, hv⟩ := Paired.at_l h4 i x hi
        obtain ⟨hil, hig⟩ := List.getElem?_eq_some_iff.mp hri
        rw [List.drop_eq_getElem_cons hil, hig, brokenU] at hw
        refine ⟨t, _, rfl, st_of (e' _ _ ht), rfl, _, _, rfl, _, _, rfl, rfl, ?_⟩
        refine ⟨_, rfl, p, c 9, dx, _, _, rfl, e' _ _ h1, T.C_Dependencies, T.A_Dependencies_own_columns, flD_cols l m, _, rfl, _, rfl, sz_of (show 2 ≤ 100000 by decide), fun t2 ht2 => ?_⟩
        refine ⟨_, rfl, ?_⟩
        have e07 := e'.trans (Ex.new (o := .tup [.ref v, .str r.2]) ht2)
        have okr := G.hr r (List.mem_of_getElem? hri)
        refine ⟨l, t2, q, zs, r, ks, rfl, e07 _ _ h2, ⟨t2, v, rfl, upd_same, e07 _ _ hv⟩, (hg.ex e07).hs, (hg.ex e07).len, by have := hg.few; omega, G.l5, (fun z hz => ok_of_name (G.hz z hz)), okr, ?_⟩
        unfold FirstO
        cases hf : firstU zs r ks with
        | none =>
          rw [hf] at hw
          intro H8 e8
          refine s_when (b := false) (et_is (et_B (ev_notN (x := .non) (ev_var (i := 4) rfl))) rfl) (fun h => nomatch h) fun _ H9 e9 => ?_
          exact ⟨(e07.trans e8).trans e9, hw, _, _, _, rfl⟩
        | some ko =>
          obtain ⟨k1, o1⟩ := ko
          rw [hf] at hw
          unfold BrkR at k
          rw [hw] at k
          intro F H8 hF e8 h8
          refine s_when (b := true) (et_is (et_B (ev_notN (x := .ref F) (ev_var (i := 4) rfl))) rfl) (fun _ H9 e9 => ?_) fun h => nomatch h
          have e89 := e8.trans e9
          have eTot : Ex H H9 := e07.trans e89
          refine ⟨_, rfl, v, _, rfl, .inl (sq_of (eTot _ _ hv)), fun lv hlv => ?_⟩
          refine ⟨_, rfl, sz_of (show 2 ≤ 100000 by decide), fun tv htv => ?_⟩
          have e1n : Ex H9 (upd H9 lv (.lst (r.1.map V.str))) := Ex.new hlv
          have eT : Ex H9 (upd (upd H9 lv (.lst (r.1.map V.str))) tv (.tup [.ref lv, .str r.2])) := e1n.trans (Ex.new htv)
          have hF2 : (upd (upd H9 lv (.lst (r.1.map V.str))) tv (.tup [.ref lv, .str r.2])) F = some (.tup [k1.1, o1.1]) := eT _ _ (e9 _ _ h8)
          have ix : ∀ {j : Nat} {v : V} {H12 : Hp} {σ1 : L2.St}, σ1[4]? = some (some (.ref F)) → [k1.1, o1.1][j]? = some v → H12 F = some (.tup [k1.1, o1.1]) → Ev (tOp (rIxT K) (tVar 4) (tC (.int (j : Int)))) σ1 H12 v := fun hσ hj h => ev_op (ev_var hσ) ev_c (rv_ixT (st_of h) (atI_nat hj))
          refine (ix (j := 0) rfl rfl hF2) _ (Ex.refl _) _ fun H12 e12 => ?_
          refine (ix (j := 1) rfl rfl (e12 _ _ hF2)) _ (Ex.refl _) _ fun H13 e13' => ⟨sz_of (show 3 ≤ 100000 by decide), fun pv hpv => ?_⟩
          have eEnd : Ex H (upd H13 pv (.tup [.ref tv, k1.1, o1.1])) := ((((eTot.trans eT).trans e12).trans e13')).trans (Ex.new hpv)
          have htv2 : (upd (upd H9 lv (.lst (r.1.map V.str))) tv (.tup [.ref lv, .str r.2])) tv = some (.tup [.ref lv, .str r.2]) := upd_same
          refine k pv tv lv _ (fresh_back ((((eTot.trans eT).trans e12)).trans e13') hpv) (fresh_back (eTot.trans e1n) htv) (fresh_back eTot hlv) eEnd upd_same ?_ ?_
          · exact (Ex.new hpv) _ _ (e13' _ _ (e12 _ _ htv2))
          · exact (Ex.new hpv) _ _ (e13' _ _ (e12 _ _ ((Ex.new htv) _ _ upd_same)))
      · rintro σ' H' ⟨e', hw, v2, v3, v4, rfl⟩
        rw [List.drop_eq_nil_of_le (by omega), brokenU] at hw
        unfold BrkR at k
        rw [hw] at k
        dsimp only
        exact s_ret ev_c fun H2 e2 => k H2 (e'.trans e2)
end
end Mv
/-! all_kept. -/
namespace Mv
open PySem PySem.Spec PyProof.Rows L2 Evl
def keptStep (hold : List Str → Bool) (acc : List (List Str)) (l : List Str) : List (List Str) := if (!(acc.any fun s => allIn s l) && hold l) = true then acc ++ [l] else acc
def keptR (hold : List Str → Bool) (ls : List (List Str)) : List (List Str) := ls.foldl (keptStep hold) []
def lenS (xss : List (List Str)) : List (List Str) := xss.mergeSort fun a b => decide (a.length ≤ b.length)
def othersOf (zs : List Str) (z : Str) : List Str := zs.filter fun y => !decide (y = z)
def leftsOf (zs : List Str) (z : Str) : List (List Str) := ordD encL (subsC (srtS (othersOf zs z)))
def holdB (zs : List Str) (ks : List KR) (z : Str) (l : List Str) : Bool := (firstU zs (l, z) ks).isNone
def keptFor (zs : List Str) (ks : List KR) (z : Str) : List (List Str) := keptR (holdB zs ks z) (lenS (leftsOf zs z))
def prsFor (zs : List Str) (ks : List KR) (z : Str) : List Pr := (keptFor zs ks z).map fun l => (l, z)
def keptU (zs : List Str) (ks : List KR) : List Pr := ordD encP ((srtS zs).flatMap (prsFor zs ks))
theorem keptStep_len {hold : List Str → Bool} {acc : List (List Str)} {l : List Str} : (keptStep hold acc l).length ≤ acc.length + 1 := by
  unfold keptStep
  split
  · rw [List.length_append, List.length_singleton]; exact Nat.le_refl _
  · omega
theorem keptR_len {hold : List Str → Bool} : ∀ (ls : List (List Str)) (acc : List (List Str)), (ls.foldl (keptStep hold) acc).length ≤ acc.length + ls.length
  | [], acc => Nat.le_refl _
  | l :: ls, acc => by
    have h1 := keptR_len ls (keptStep hold acc l) (hold := hold)
    have h2 := keptStep_len (hold := hold) (acc := acc) (l := l)
    rw [List.foldl_cons, List.length_cons]
    omega
theorem keptR_mem {hold : List Str → Bool} {x : List Str} : ∀ (ls : List (List Str)) (acc : List (List Str)), x ∈ ls.foldl (keptStep hold) acc → x ∈ acc ∨ x ∈ ls
  | [], acc, h => .inl h
  | l :: ls, acc, h => by
    rw [List.foldl_cons] at h
    rcases keptR_mem ls _ h with z | z
    · unfold keptStep at z
      split at z
      · rcases List.mem_append.mp z with z | z
        · exact .inl z
        · exact .inr (List.mem_cons.mpr (.inl (List.mem_singleton.mp z)))
      · exact .inl z
    · exact .inr (List.mem_cons_of_mem _ z)
theorem lenS_mem {xss : List (List Str)} {x : List Str} : x ∈ lenS xss ↔ x ∈ xss := (List.mergeSort_perm _ _).mem_iff
theorem lenS_len (xss : List (List Str)) : (lenS xss).length = xss.length := List.length_mergeSort _
theorem others_sub {zs : List Str} {z y : Str} (h : y ∈ othersOf zs z) : y ∈ zs := (List.mem_filter.mp h).1
theorem others_ne {zs : List Str} {z y : Str} (h : y ∈ othersOf zs z) : y ≠ z := fun e => by
  have := (List.mem_filter.mp h).2
  rw [decide_eq_true e] at this
  cases this
theorem others_nd {zs : List Str} {z : Str} (h : zs.Nodup) : (othersOf zs z).Nodup := h.filter _
theorem others_len {zs : List Str} {z : Str} : (othersOf zs z).length ≤ zs.length := List.length_filter_le _ _
theorem lefts_mem {zs : List Str} {z : Str} {s : List Str} (l5 : zs.length ≤ 5) (nd : zs.Nodup) (h : s ∈ leftsOf zs z) : (∀ y ∈ s, y ∈ zs ∧ y ≠ z) ∧ s.Nodup ∧ s.length ≤ 5 := by
  have h1 := subsC_mem (xs := srtS (othersOf zs z)) (by rw [srtS_len]; exact Nat.le_trans others_len l5) (ordD_nodup (others_nd nd)) (ordD_mem.mp h)
  exact ⟨fun y hy => have := srtS_mem.mp (h1.1 y hy); ⟨others_sub this, others_ne this⟩, h1.2⟩
theorem lefts_len {zs : List Str} {z : Str} (l5 : zs.length ≤ 5) : (lenS (leftsOf zs z)).length ≤ 40 := by
  rw [lenS_len]
  unfold leftsOf
  rw [ordD_length]
  exact subsC_len (by rw [srtS_len]; exact Nat.le_trans others_len l5)
def RetPk (rs : List Pr) (H : Hp) (Q : VK) : Prop := ∀ p us H2, H p = none → Ex H H2 → H2 p = some (.lst us) → Paired (PairS (fun a => H a = none) H2) us rs → Q (.ref p) H2
theorem RetPk.ex {rs : List Pr} {H H' : Hp} {Q : VK} (k : RetPk rs H Q) (e : Ex H H') : RetPk rs H' Q := fun p us H2 hp e2 h2 h3 => k p us H2 (fresh_back e hp) (e.trans e2) h2 (Paired.imp (fun _ _ z => z.mv fun a o s ha => ⟨fresh_back e s, ha⟩) h3)
inductive AkO (K : PySem.W.Frag) (c : Nat → Addr) (x y : V) (H : Hp) (Q : VK) (E : XK) : Prop
  | cols (o : Option (Addr × List V)) (hx : ListR K H x o) (h : colsO K c x H (fun _ _ => False) E o)
  | bad (q : Addr) (zs : List Str) (e : x = .ref q) (hs : Seq H q (zs.map V.str)) (l1 : 1 ≤ zs.length) (l5 : zs.length ≤ 5) (hz : ∀ z ∈ zs, nameB z = true) (nd : zs.Nodup) (hy : RowsO K H zs.length y false) (r : Rs c 3 y H E)
  | good (q t : Addr) (zs : List Str) (ks : List KR) (e : x = .ref q) (e2 : y = .ref t) (hs : Seq H q (zs.map V.str)) (l1 : 1 ≤ zs.length) (l5 : zs.length ≤ 5) (hz : ∀ z ∈ zs, nameB z = true) (nd : zs.Nodup) (hg : GoodR H zs.length t ks) (k : RetPk (keptU zs ks) H Q)
section
variable {K : PySem.W.Frag} {σ : L2.St} {H H' : Hp} {ta tb te tl : TE} {D : Ends} {tu tz : TS} {M : Type} {It : ItP M} {ms : List M}
theorem el_sortedSL {zs : List Str} (h : EvL ta σ H (zs.map V.str)) (hl : zs.length < 64) : EvL (tCB (rSortedS K) (tCons ta tNil)) σ H ((srtS zs).map V.str) := fun H1 e Q k => h H1 e _ fun q H2 hq e2 h2 => ⟨q, zs, rfl, sq_of h2, hl, fun ys l py sy hl' => by
  rw [srtS_eq py sy]
  exact k _ _ (fresh_back e2 hl') (e2.trans (Ex.new hl')) upd_same⟩
/-- for x in a new list of new things -/
theorem s_forI {j : Nat} (h : EvI tl σ H It ms) (Pv : Addr → List V → Nat → L2.St → Hp → Prop) (h0 : ∀ m us H1, H m = none → Ex H H1 → H1 m = some (.lst us) → Paired (It (fun a => H a = none ∧ a ≠ m) H1) us ms → Pv m us 0 σ H1) (hl : ∀ m us i σ' H', Pv m us i σ' H' → H' m = some (.lst us))
    (hs : ∀ m us i x σ' H', us[i]? = some x → Pv m us i σ' H' → tu { D with nx := Pv m us (i + 1), ct := Pv m us (i + 1), bk := D.nx } (σ'.set j (some x)) H') (hd : ∀ m us σ' H', us.length = ms.length → Pv m us us.length σ' H' → D.nx σ' H') : tFor (iList K tl) (gName j) tu D σ H :=
  h H (Ex.refl H) _ fun m us H1 hm e1 h1 pp => ⟨m, rfl, ⟨us, sq_of h1⟩, for_list (K := K) (a := m) (xs := us) (Pv m us) (h0 m us H1 hm e1 h1 pp) (fun i σ' H' _ q => sq_of (hl m us i σ' H' q)) (fun i x σ' H' hi q => hs m us i x σ' H' hi q) fun σ' H' q => hd m us σ' H' (Paired.length pp) q⟩
theorem q_forI {j : Nat} (h : EvI tl σ H It ms) (Pv : Addr → List V → Nat → L2.St → Hp → Prop) (h0 : ∀ m us H1, H m = none → Ex H H1 → H1 m = some (.lst us) → Paired (It (fun a => H a = none ∧ a ≠ m) H1) us ms → Pv m us 0 σ H1) (hl : ∀ m us i σ' H', Pv m us i σ' H' → H' m = some (.lst us))
    (hs : ∀ m us i x σ' H', us[i]? = some x → Pv m us i σ' H' → tu { D with nx := Pv m us (i + 1), ct := Pv m us (i + 1), bk := tz D } (σ'.set j (some x)) H') (hd : ∀ m us σ' H', us.length = ms.length → Pv m us us.length σ' H' → tz D σ' H') : tSeq (tFor (iList K tl) (gName j) tu) tz D σ H :=
  s_forI (D := { D with nx := tz D }) h Pv h0 hl hs hd
/-- xs.extend([..]) -/
theorem s_extN {f : Addr} {xs : List V} {P : List V → Hp → Prop} (hf : H f = some (.lst xs)) (ha : Ev ta σ H (.ref f)) (h : ∀ H1, Ex H H1 → ∀ Q : VK, (∀ p us H2, H1 p = none → Ex H1 H2 → H2 p = some (.lst us) → P us H2 → Q (.ref p) H2) → te σ H1 Q) (hl : ∀ us H1, P us H1 → xs.length + us.length ≤ 100000)
    (k : ∀ us H1, Ex H H1 → P us H1 → D.nx σ (upd H1 f (.lst (xs ++ us)))) : tDrop (tBM K "list" rExtend ta (tCons te tNil)) D σ H := ha H (Ex.refl H) _ fun H1 e1 =>
  ⟨Or.inl ⟨rfl, xs, sq_of (e1 _ _ hf)⟩, h H1 e1 _ fun p us H2 hp e2 h2 hP => ⟨f, p, xs, us, rfl, rfl, (e1.trans e2) _ _ hf, h2, sz_of (hl us H2 hP), k us H2 (e1.trans e2) hP⟩⟩
/-- [(x, z) for x in xs], x as it is -/
def TupsN (B H : Hp) (z : Str) (us xs : List V) : Prop := Paired (fun u x => ∃ t, u = .ref t ∧ B t = none ∧ H t = some (.tup [x, .str z])) us xs
theorem et_lcTup {a : Addr} {xs : List V} {z : Str} {j : Nat} {vs : List Nat} (h : Ev tl σ H (.ref a)) (hx : H a = some (.lst xs)) (hz : xs.length ≤ 40000) (hw : ∀ x, wipe ((wipe σ vs).set j (some x)) vs = wipe σ vs) (hv : ∀ x, ((wipe σ vs).set j (some x))[j]? = some (some x)) (ht : ∀ x H1, Ex H H1 → Ev tb ((wipe σ vs).set j (some x)) H1 (.str z)) :
    ∀ H1, Ex H H1 → ∀ Q : VK, (∀ p us H2, H1 p = none → Ex H1 H2 → H2 p = some (.lst us) → TupsN H H2 z us xs → Q (.ref p) H2) → tLc (iList K tl) (gName j) tYes (tTup (tCons (tVar j) (tCons tb tNil))) vs σ H1 Q := fun H0 e0 Q q => h H0 e0 _ fun H1 e1 => ⟨a, rfl, ⟨xs, sq_of ((e0.trans e1) _ _ hx)⟩, fun Dl hD => by
  have e01 := e0.trans e1
  refine lc_list (xs := xs) (fun i H' => Ex H1 H' ∧ H1 Dl = none ∧ ∃ us, H' Dl = some (.lst us) ∧ TupsN H1 H' z us (xs.take i)) ⟨Ex.new hD, hD, [], upd_same, .nil⟩ (fun i H' _ p => sq_of ((e01.trans p.1) _ _ hx)) (fun i x H' hi p => ?_) fun H' p => ?_
  · obtain ⟨p1, p2, us, p3, p4⟩ := p
    refine ⟨hw x, yes_go ⟨x, hv x, ?_⟩⟩
    refine (ht x H' (e01.trans p1)) H' (Ex.refl _) _ fun H2 e2 => ⟨sz_of (show 2 ≤ 100000 by decide), fun t htn => ?_⟩
    have hil := (List.getElem?_eq_some_iff.mp hi).1
    have e3 : Ex H' (upd H2 t (.tup [x, .str z])) := e2.trans (Ex.new htn)
    have lu : us.length ≤ 40000 := by
      have := Paired.length p4
      rw [this, List.length_take]
      omega
    have ht1 : H1 t = none := fresh_back (p1.trans e2) htn
    refine ⟨us, e3 _ _ p3, sz_lt (by omega), Ex.mut (p1.trans e3) p2, p2, us ++ [.ref t], upd_same, ?_⟩
    rw [List.take_succ, hi]
    have mvd : ∀ {y : Addr} {x' : V}, (upd H2 t (.tup [x, .str z])) y = some (.tup [x', .str z]) → (upd (upd H2 t (.tup [x, .str z])) Dl (.lst (us ++ [.ref t]))) y = some (.tup [x', .str z]) := fun {y x'} hy => by
      rw [upd_ne (fun q => by rw [q, e3 _ _ p3] at hy; cases hy)]
      exact hy
    refine Paired.append (Paired.imp (fun _ _ w => ?_) p4) (.cons ⟨t, rfl, ht1, mvd upd_same⟩ .nil)
    obtain ⟨t', w1, w2, w3⟩ := w
    exact ⟨t', w1, w2, mvd (e3 _ _ w3)⟩
  · obtain ⟨p1, p2, us, p3, p4⟩ := p
    rw [List.take_length] at p4
    exact q Dl us H' (fresh_back e1 p2) (e1.trans p1) p3 (Paired.imp (fun _ _ w => let ⟨t, w1, w2, w3⟩ := w; ⟨t, w1, fresh_back e01 w2, w3⟩) p4)⟩
end
section
variable {P : Program} {w : World} {K : PySem.W.Frag} {mg : Str → Option Value} {base : Heap} {a : Nat → Addr} {d : Nat → FuncData} {tk : Nat → Tok} {c ci : Nat → Addr} {di : Nat → FuncData}
/-- the lefts, by their length -/
theorem ei_lenSubs {σ : L2.St} {H : Hp} {ta : TE} {xs : List Str} (h : EvL ta σ H (xs.map V.str)) (h5 : xs.length ≤ 5) : EvI (tSortLen K (tCons (tCall sp_subsets [] E0 (tCons ta tNil)) tNil)) σ H SLS (lenS (ordD encL (subsC xs))) := fun H1 e Q k => by
  refine h H1 e _ fun q H2 hq e2 h2 => ⟨q, xs, rfl, h2, h5, fun r us H3 hr e3 h3 pp => ?_⟩
  obtain ⟨z1, z2, z3⟩ := paired_zip pp
  refine ⟨r, (us.zip (ordD encL (subsC xs))).map fun q => (q.1, q.2.map V.str), rfl, ?_, fun p hp => ?_, fun m hm => ?_⟩
  · rw [List.map_map]
    show SqL K H3 r ((us.zip (ordD encL (subsC xs))).map (·.1))
    rw [z1]
    exact sq_of h3
  · obtain ⟨q0, hq0, rfl⟩ := List.mem_map.mp hp
    obtain ⟨l, w1, w2, w3⟩ := z3 q0 hq0
    exact ⟨l, w1, sq_of w3⟩
  · have e4 : Ex H1 H3 := e2.trans e3
    have em : ((us.zip (ordD encL (subsC xs))).map fun q => (q.1, q.2.map V.str)).mergeSort lenLe = ((us.zip (ordD encL (subsC xs))).mergeSort fun a b => decide (a.2.length ≤ b.2.length)).map fun q => (q.1, q.2.map V.str) :=
      (List.map_mergeSort fun a _ b _ => by show _ = decide ((a.2.map V.str).length ≤ (b.2.map V.str).length); rw [List.length_map, List.length_map]).symm
    have en : lenS (ordD encL (subsC xs)) = ((us.zip (ordD encL (subsC xs))).mergeSort fun a b => decide (a.2.length ≤ b.2.length)).map (·.2) := by
      have zz := List.map_mergeSort (r := fun a b : V × List Str => decide (a.2.length ≤ b.2.length)) (s := fun a b : List Str => decide (a.length ≤ b.length)) (f := fun q : V × List Str => q.2) (l := us.zip (ordD encL (subsC xs))) fun a _ b _ => rfl
      rw [z2] at zz
      exact zz.symm
    rw [em, List.map_map]
    refine k m _ _ (fresh_back e4 hm) (e4.trans (Ex.new hm)) upd_same ?_
    rw [en]
    refine paired_maps (F := SLS (fun a => H1 a = none ∧ a ≠ m) _) fun q0 hq0 => ?_
    obtain ⟨l, w1, w2, w3⟩ := z3 q0 ((List.mergeSort_perm _ _).mem_iff.mp hq0)
    exact ⟨l, w1, ⟨fresh_back e2 w2, fun z => by rw [z, hm] at w3; cases w3⟩, (Ex.new hm) _ _ w3⟩
/-- no rows break it -/
theorem ev_unk {σ : L2.St} {H : Hp} {i1 i2 i3 i4 : Nat} {l v q : Addr} {zs left : List Str} {z : Str} {ks : List KR} (h1 : σ[i1]? = some (some (.ref l))) (h2 : σ[i2]? = some (some (.ref v))) (h3 : σ[i3]? = some (some (.str z))) (h4 : σ[i4]? = some (some (.ref q))) (hl : H l = some (.lst (zs.map V.str))) (hv : H v = some (.lst (left.map V.str)))
    (hg : GoodR H zs.length q ks) (l5 : zs.length ≤ 5) (hz : ∀ z ∈ zs, PyData.strOk z = true) (ho : okP (left, z)) : Ev (tIsN (tCall sp_first_unkept [] E0 (tCons (tVar i1) (tCons (tTup (tCons (tVar i2) (tCons (tVar i3) tNil))) (tCons (tVar i4) tNil))))) σ H (.bl (holdB zs ks z left)) := fun H1 e Q k => by
  refine ⟨_, h1, _, h2, _, h3, sz_of (show 2 ≤ 100000 by decide), fun t ht => ⟨_, h4, l, t, q, zs, (left, z), ks, rfl, ?_⟩⟩
  have e2 : Ex H1 (upd H1 t (.tup [.ref v, .str z])) := Ex.new ht
  have e12 := e.trans e2
  refine ⟨e12 _ _ hl, ⟨t, v, rfl, upd_same, e12 _ _ hv⟩, (hg.ex e12).hs, (hg.ex e12).len, by have := hg.few; omega, l5, hz, ho, ?_⟩
  unfold FirstO
  unfold holdB at k
  cases hf : firstU zs (left, z) ks with
  | none =>
    rw [hf] at k
    intro H3 e3
    exact k H3 (e2.trans e3)
  | some ko =>
    rw [hf] at k
    intro F H3 hF e3 h3
    exact k H3 (e2.trans e3)
def sp_all_kept (K : PySem.W.Frag) (c : Nat → Addr) : Sp := fun vs H Q E => ∃ (x y : V), vs = [x, y] ∧ AkO K c x y H Q E
theorem ok_all_kept (T : All K mg a d tk c ci di) : FnOk P w K mg base (L2.CX P w) 6 (a 14) (d 14) ["columns", "rows"] (sp_all_kept K c) := by
  refine T.F_all_kept.fn.okX sc_all_kept (fun vs H Q E h => ?_) (fun cdv A outer s H vs Q E hr h => ?_)
  · obtain ⟨x, y, rfl, _⟩ := h
    rfl
  · obtain ⟨x, y, rfl, hO⟩ := h
    have nd := sc_all_kept.nd
    have hu64 := hr.units
    refine ⟨_, (pss_cons (ps_set (i := 2) nd rfl (Or.inl rfl) (pe_call (ok_checked_columns T) (hr.mono (by decide)) rfl T.F_checked_columns.m T.F_checked_columns.kp T.F_checked_columns.b .nil (passes_call (takes_of rfl rfl rfl rfl) (fun _ _ _ _ h => h)) (pa_cons (pv 0) pa_nil)))
 (pss_cons (ps_expr (pe_call (ok_need_rows T) (hr.mono (by decide)) rfl T.F_need_rows.m T.F_need_rows.kp T.F_need_rows.b .nil (passes_call (takes_of rfl rfl rfl rfl) (fun _ _ _ _ h => h)) (pa_cons (pv 2) (pa_cons (pv 1) pa_nil))))
 (pss_cons (ps_set (i := 3) nd rfl (Or.inl rfl) (pe_lst pa_nil))
 (pss_cons (ps_for (passes_of rfl) rfl (pi_list (pe_callB cr_sortedS (by rfl) T.n_sorted PyProof.Rows.boot_sorted (pa_cons (pv 2) pa_nil))) (pg_name (i := 4) nd rfl (Or.inr rfl))
 (pss_cons (ps_set (i := 5) nd rfl (Or.inl rfl) (pe_lst pa_nil))
 (pss_cons (ps_for (passes_of rfl) rfl (pi_list (pe_sortedLen hu64 rfl T.n_sorted rfl T.n_len (pa_cons (pe_call (ok_subsets T) (hr.mono (by decide)) rfl T.F_subsets.m T.F_subsets.kp T.F_subsets.b .nil pass0 (pa_cons (pe_callB cr_sortedS (by rfl) T.n_sorted PyProof.Rows.boot_sorted (pa_cons (pe_lc (own := [("name", 8)]) (g := (gName 8)) rfl nd (pi_list (pv 2)) (blkOk_by (N := N_all_kept) (sc := defScope s_all_kept) (by decide +kernel)) (fun _ _ _ _ _ => (pg_name (i := 8) nd rfl (Or.inl rfl))) (fun _ _ _ _ _ => (pts_one (pt_cmpR op_ne (pv 8) (pv 4) (nomark _)))) (fun _ _ _ _ _ => (pv 8))) pa_nil)) pa_nil)) pa_nil))) (pg_name (i := 6) nd rfl (Or.inr rfl))
 (pss_cons (ps_set (i := 7) nd rfl (Or.inl rfl) (pe_callB (cr_any rfl) (by rfl) T.n_any PyProof.Rows.boot_any (pa_cons (pe_lc (own := [("some", 9)]) (g := (gName 9)) rfl nd (pi_list (pv 5)) (blkOk_by (N := N_all_kept) (sc := defScope s_all_kept) (by decide +kernel)) (fun _ _ _ _ _ => (pg_name (i := 9) nd rfl (Or.inl rfl))) (fun _ _ _ _ _ => pts_nil) (fun _ _ _ _ _ => (pe_call (ok_lies_in T) (hr.mono (by decide)) rfl T.F_lies_in.m T.F_lies_in.kp T.F_lies_in.b .nil pass0 (pa_cons (pv 9) (pa_cons (pv 6) pa_nil))))) pa_nil)))
 (pss_one (ps_if (PW.pt (pw_and (pt_not (pt_val (pv 7))) (pw_and1 (pt_cmp (pc_isN (pe_call (ok_first_unkept T) (hr.mono (by decide)) rfl T.F_first_unkept.m T.F_first_unkept.kp T.F_first_unkept.b .nil pass0 (pa_cons (pv 2) (pa_cons (pe_tup (pa_cons (pv 6) (pa_cons (pv 4) pa_nil))) (pa_cons (pv 1) pa_nil)))))))))
 (pss_one (ps_expr (pe_bm PySem.F.plainAttrs_list PySem.F.slot_list_append PySem.F.type_list_append mt_append (pv 5) (pa_cons (pv 6) pa_nil))))
 pss_nil))))
 (pss_one (ps_expr (pe_bm PySem.F.plainAttrs_list PySem.F.slot_list_extend PySem.F.type_list_extend mt_extend (pv 3) (pa_cons (pe_lc (own := [("left", 6)]) (g := (gName 6)) rfl nd (pi_list (pv 5)) (blkOk_by (N := N_all_kept) (sc := defScope s_all_kept) (by decide +kernel)) (fun _ _ _ _ _ => (pg_name (i := 6) nd rfl (Or.inl rfl))) (fun _ _ _ _ _ => pts_nil) (fun _ _ _ _ _ => (pe_tup (pa_cons (pv 6) (pa_cons (pv 4) pa_nil))))) pa_nil)))))))
 (pss_one (ps_ret (pe_callB (cr_sortedD hu64) (by rfl) T.n_sorted PyProof.Rows.boot_sorted (pa_cons (pv 3) pa_nil)))))))), ?_⟩
    cases hO with
    | cols o hx h => exact ⟨_, rfl, x, o, rfl, hx, colsO_ex h (Ex.refl _) fun _ _ z => z.elim⟩
    | bad q zs e hs l1 l5 hz ndz hy hR =>
      subst e
      refine ⟨_, rfl, .ref q, some (q, zs.map V.str), rfl, .seq hs, colsO_ok l1 l5 hz ndz fun l H1 hl1 e1 g1 => ?_⟩
      exact ⟨_, rfl, _, rfl, l, _, y, rfl, g1, by rw [List.length_map]; exact l5, false, by rw [List.length_map]; exact hy.ex e1, by rw [if_neg (fun h => nomatch h)]; exact hR.ex e1⟩
    | good q t zs ks e e2 hs l1 l5 hz ndz hg k =>
      subst e e2
      refine ⟨_, rfl, .ref q, some (q, zs.map V.str), rfl, .seq hs, colsO_ok l1 l5 hz ndz fun l H1 hl1 e1 g1 => ?_⟩
      refine ⟨_, rfl, _, rfl, l, _, .ref t, rfl, g1, by rw [List.length_map]; exact l5, true, by rw [List.length_map]; exact (hg.ex e1).o, ?_⟩
      rw [if_pos rfl]
      intro G eG0
      have eG := e1.trans eG0
      have gl : G l = some (.lst (zs.map V.str)) := eG0 _ _ g1
      have gg := hg.ex eG
      have kG := k.ex eG
      dsimp only
      have okz : ∀ z ∈ zs, PyData.strOk z = true := fun z h => ok_of_name (hz z h)
      refine q_asgL (el_lst ea_nil (by decide)) fun f H3 hf e3 h3 => ?_
      let Po : Addr → Nat → L2.St → Hp → Prop := fun L i σ' H' => Ex G H' ∧ H' L = some (.lst ((srtS zs).map V.str)) ∧ L ≠ f ∧ (∃ us, H' f = some (.lst us) ∧ Paired (PairS (fun a => G a = none ∧ a ≠ f) H') us (((srtS zs).take i).flatMap (prsFor zs ks)) ∧ us.length ≤ 40 * i) ∧ ∃ v4 v5 v6 v7 v8 v9, σ' = [some (.ref q), some (.ref t), some (.ref l), some (.ref f), v4, v5, v6, v7, v8, v9]
      have lsz : ((srtS zs).map V.str).length = zs.length := by rw [List.length_map, srtS_len]
      refine q_forNLn (el_sortedS (K := K) (zs := zs) (ev_var (i := 2) rfl) (e3 _ _ gl) (by omega)) Po (fun L H4 hL e4 h4 => ⟨e3.trans e4, h4, (fun z => by rw [z, h3] at hL; cases hL), ⟨[], e4 _ _ h3, .nil, Nat.zero_le _⟩, _, _, _, _, _, _, rfl⟩) (fun L i σ' H' _ z => sq_of z.2.1) ?_ ?_
      · rintro L i x σ' H4 hx ⟨e4, hL, nLf, ⟨us, hus, hp, hlu⟩, v4, v5, v6, v7, v8, v9, rfl⟩
        rw [List.getElem?_map, Option.map_eq_some_iff] at hx
        obtain ⟨z, hzi, rfl⟩ := hx
        have hzm : z ∈ zs := srtS_mem.mp (List.mem_of_getElem? hzi)
        obtain ⟨hil, hig⟩ := List.getElem?_eq_some_iff.mp hzi
        have hi5 : i < 5 := by rw [srtS_len] at hil; omega
        refine q_asgL (el_lst ea_nil (by decide)) fun g H5 hg5 e5 h5 => ?_
        have ngf : g ≠ f := fun z => by rw [z, hus] at hg5; cases hg5
        have ngL : g ≠ L := fun z => by rw [z, hL] at hg5; cases hg5
        have hgG : G g = none := fresh_back e4 hg5
        let S : Addr → Prop := fun y => H4 y = none ∧ y ≠ g
        let Pi : Addr → List V → Nat → L2.St → Hp → Prop := fun m ms j σ' H' => Ex H4 H' ∧ H' m = some (.lst ms) ∧ m ≠ g ∧ Paired (SLS S H') ms (lenS (leftsOf zs z)) ∧ (∃ ls, H' g = some (.lst ls) ∧ Paired (SLS S H') ls (((lenS (leftsOf zs z)).take j).foldl (keptStep (holdB zs ks z)) [])) ∧ ∃ v6 v7 v8 v9, σ' = [some (.ref q), some (.ref t), some (.ref l), some (.ref f), some (.str z), some (.ref g), v6, v7, v8, v9]
        have comp : EvL (tLc (iList K (tVar 2)) (gName 8) (tTest (tOp rNe (tVar 8) (tVar 4))) (tVar 8) [8]) [some (.ref q), some (.ref t), some (.ref l), some (.ref f), some (.str z), some (.ref g), v6, v7, v8, v9] H5 ((othersOf zs z).map V.str) := by
          have z0 := el_lcLf (K := K) (t := tTest (tOp rNe (tVar 8) (tVar 4))) (te := tVar 8) (σ := [some (.ref q), some (.ref t), some (.ref l), some (.ref f), some (.str z), some (.ref g), v6, v7, v8, v9]) (j := 8) (vs := [8]) (fun x => !decide (x = V.str z)) id (ev_var (i := 2) rfl) ((e4.trans e5) _ _ gl) (by rw [List.length_map]; omega) (fun _ => rfl) (fun x H6 e6 _ => et_test (ev_op (ev_var (i := 8) rfl) (ev_var (i := 4) rfl) (rv_ne (by
            rename_i hm
            obtain ⟨y, _, rfl⟩ := List.mem_map.mp hm
            rfl)))) fun x H6 e6 _ _ => ev_var rfl
          have ez : (othersOf zs z).map V.str = ((zs.map V.str).filter fun x => !decide (x = V.str z)).map id := by
            unfold othersOf
            rw [List.map_id, List.filter_map]
            congr 1
            refine List.filter_congr fun y _ => ?_
            show _ = !decide (V.str y = V.str z)
            congr 1
            exact decide_eq_decide.mpr ⟨fun h => by rw [h], fun h => by injection h⟩
          rw [ez]
          exact z0
        have ll : (othersOf zs z).length ≤ 5 := Nat.le_trans others_len l5
        have ei := ei_lenSubs (K := K) (el_sortedSL (K := K) comp (by omega)) (by rw [srtS_len]; exact ll)
        refine q_forI (K := K) (ms := lenS (leftsOf zs z)) ei Pi (fun m ms H6 hm e6 h6 pp => ?_) (fun m ms j σ' H' z => z.2.1) ?_ ?_
        · have nmg : m ≠ g := fun z => by rw [z, h5] at hm; cases hm
          exact ⟨e5.trans e6, h6, nmg, Paired.imp (fun _ _ w => mv_SL _ _ _ _ _ _ w fun a o s ha => ⟨⟨fresh_back e5 s.1, fun z => by rw [z, h5] at s; cases s.1⟩, ha⟩) pp, ⟨[], e6 _ _ h5, .nil⟩, _, _, _, _, rfl⟩
        · rintro m ms j u σ' H6 hu ⟨e6, hm, nmg, hpm, ⟨ls, hls, hpl⟩, v6, v7, v8, v9, rfl⟩
          obtain ⟨left, hlj, v, rfl, sv, hv⟩ := Paired.at_l hpm j u hu
          have hlm : left ∈ leftsOf zs z := lenS_mem.mp (List.mem_of_getElem? hlj)
          obtain ⟨m1, m2, m3⟩ := lefts_mem l5 ndz hlm
          have okl : ∀ y ∈ left, PyData.strOk y = true := fun y hy => okz y (m1 y hy).1
          have kok : ∀ s ∈ ((lenS (leftsOf zs z)).take j).foldl (keptStep (holdB zs ks z)) [], (∀ y ∈ s, PyData.strOk y = true) ∧ s.length ≤ 5 := fun s hs => by
            rcases keptR_mem _ _ hs with w | w
            · cases w
            · obtain ⟨w1, w2, w3⟩ := lefts_mem l5 ndz (lenS_mem.mp (List.mem_of_mem_take w))
              exact ⟨fun y hy => okz y (w1 y hy).1, w3⟩
          have lk : (((lenS (leftsOf zs z)).take j).foldl (keptStep (holdB zs ks z)) []).length ≤ 40 := by
            have h1 := keptR_len (hold := holdB zs ks z) ((lenS (leftsOf zs z)).take j) []
            have h2 := lefts_len (z := z) l5
            rw [List.length_take] at h1
            simp only [List.length_nil] at h1
            omega
          refine q_asg (v := .bl ((((lenS (leftsOf zs z)).take j).foldl (keptStep (holdB zs ks z)) []).any fun s => allIn s left)) ?_ fun H7 e7 => ?_
          · have zz := eb_lcV (K := K) (te := tCall sp_lies_in [] E0 (tCons (tVar 9) (tCons (tVar 6) tNil))) (tl := tVar 5) (σ := [some (.ref q), some (.ref t), some (.ref l), some (.ref f), some (.str z), some (.ref g), some (.ref v), v7, v8, v9]) (j := 9) (vs := [9]) (ev_var (i := 5) rfl) hls (Paired.imp (fun _ _ w => w.sl) hpl) (by omega) (fun _ => rfl) (fun s => allIn s left) fun x s H8 e8 hs hx => by
              obtain ⟨lx, rfl, hlx⟩ := hx
              exact ev_call (ea_cons (ev_var (i := 9) rfl) (ea_cons (ev_var (i := 6) rfl) ea_nil)) fun H9 e9 Q q' _ => ⟨lx, v, s, left, rfl, e9 _ _ hlx, (e8.trans e9) _ _ hv, by have := (kok s hs).2; omega, (kok s hs).1, okl, q'⟩
            have z2 := ev_anyN (K := K) zz
            rw [List.any_map] at z2
            exact z2
          have e47 := e6.trans e7
          have tst : EvT _ _ _ _ := et_and (et_not (et_B (ev_var (σ := [some (.ref q), some (.ref t), some (.ref l), some (.ref f), some (.str z), some (.ref g), some (.ref v), some (.bl ((((lenS (leftsOf zs z)).take j).foldl (keptStep (holdB zs ks z)) []).any fun s => allIn s left)), v8, v9]) (H := H7) (i := 7) rfl))) fun _ => et_B (ev_unk (left := left) (zs := zs) (ks := ks) (i1 := 2) (i2 := 6) (i3 := 4) (i4 := 1) rfl rfl rfl rfl ((e4.trans e47) _ _ gl) (e7 _ _ hv) (gg.ex (e4.trans e47)) l5 okz ⟨okl, okz z hzm, show left.length ≤ 100 by omega⟩)
          have hlj' : (lenS (leftsOf zs z)).take (j + 1) = (lenS (leftsOf zs z)).take j ++ [left] := by rw [List.take_succ, hlj] <;> rfl
          cases hb : (!((((lenS (leftsOf zs z)).take j).foldl (keptStep (holdB zs ks z)) []).any fun s => allIn s left) && holdB zs ks z left) with
          | false =>
            refine s_when (b := false) (et_is tst hb) (fun h => nomatch h) fun _ H8 e8 => ?_
            have e78 := e7.trans e8
            refine ⟨e47.trans e8, e78 _ _ hm, nmg, Paired.imp (fun _ _ w => mv_SL _ _ _ _ _ _ w fun a o s ha => ⟨s, e78 _ _ ha⟩) hpm, ⟨ls, e78 _ _ hls, ?_⟩, _, _, _, _, rfl⟩
            rw [hlj', List.foldl_append, List.foldl_cons, List.foldl_nil, keptStep, if_neg (by rw [hb]; exact Bool.false_ne_true)]
            exact Paired.imp (fun _ _ w => mv_SL _ _ _ _ _ _ w fun a o s ha => ⟨s, e78 _ _ ha⟩) hpl
          | true =>
            refine s_when (b := true) (et_is tst hb) (fun _ H8 e8 => ?_) fun h => nomatch h
            have e78 := e7.trans e8
            have ll2 := Paired.length hpl
            refine s_app (e78 _ _ hls) (ev_var (i := 5) rfl) (ev_var (i := 6) rfl) (by omega) fun H9 e9 => ?_
            have e79 := e78.trans e9
            have mvg : ∀ (y : Addr) (o : HO), S y → H6 y = some o → S y ∧ upd H9 g (.lst (ls ++ [.ref v])) y = some o := fun y o s h => ⟨s, by rw [upd_ne s.2]; exact e79 _ _ h⟩
            refine ⟨Ex.mut (e6.trans e79) hg5, by rw [upd_ne nmg]; exact e79 _ _ hm, nmg, Paired.imp (fun _ _ w => mv_SL _ _ _ _ _ _ w mvg) hpm, ⟨ls ++ [.ref v], upd_same, ?_⟩, _, _, _, _, rfl⟩
            rw [hlj', List.foldl_append, List.foldl_cons, List.foldl_nil, keptStep, if_pos hb]
            exact Paired.append (Paired.imp (fun _ _ w => mv_SL _ _ _ _ _ _ w mvg) hpl) (.cons (mv_SL _ _ _ _ _ _ ⟨v, rfl, sv, hv⟩ mvg) .nil)
        · rintro m ms σ' H6 hlm ⟨e6, hm, nmg, hpm, ⟨ls, hls, hpl⟩, v6, v7, v8, v9, rfl⟩
          rw [hlm, List.take_length] at hpl
          have hpl : Paired (SLS S H6) ls (keptFor zs ks z) := hpl
          have lk : (keptFor zs ks z).length ≤ 40 := by
            have h1 := keptR_len (hold := holdB zs ks z) (lenS (leftsOf zs z)) []
            have h2 := lefts_len (z := z) l5
            simp only [List.length_nil] at h1
            have : (keptFor zs ks z).length ≤ 0 + (lenS (leftsOf zs z)).length := h1
            omega
          have ll3 := Paired.length hpl
          refine s_extN (K := K) (P := fun us' H7 => Ex H6 H7 ∧ TupsN H6 H7 z us' ls) (e6 _ _ hus) (ev_var (i := 3) rfl) (fun H7 e7 Q k' => et_lcTup (K := K) (tb := tVar 4) (z := z) (j := 6) (vs := [6]) (ev_var (i := 5) rfl) hls (by omega) (fun _ => rfl) (fun _ => rfl) (fun x H8 e8 => ev_var (i := 4) rfl) H7 e7 Q fun p us' H8 hp' e8 h8 hT => k' p us' H8 hp' e8 h8 ⟨e7.trans e8, hT⟩) (fun us' H7 hT => ?_) fun us' H7 e7 hT => ?_
          · have := Paired.length hT.2
            omega
          · obtain ⟨_, hT⟩ := hT
            have lT := Paired.length hT
            have hfG : G f = none := hf
            have hf7 : H7 f = some (.lst us) := e7 _ _ (e6 _ _ hus)
            have e07 : Ex G (upd H7 f (.lst (us ++ us'))) := Ex.mut ((e4.trans e6).trans e7) hfG
            refine ⟨e07, by rw [upd_ne nLf]; exact e7 _ _ (e6 _ _ hL), nLf, ⟨us ++ us', upd_same, ?_, by rw [List.length_append]; omega⟩, _, _, _, _, _, _, rfl⟩
            have et : ((srtS zs).take (i + 1)).flatMap (prsFor zs ks) = ((srtS zs).take i).flatMap (prsFor zs ks) ++ prsFor zs ks z := by
              rw [List.take_succ, hzi, List.flatMap_append]
              show _ ++ [z].flatMap (prsFor zs ks) = _
              rw [List.flatMap_singleton]
            rw [et]
            have mvf : ∀ (y : Addr) (o : HO), y ≠ f → H7 y = some o → upd H7 f (.lst (us ++ us')) y = some o := fun y o s h => by rw [upd_ne s]; exact h
            refine Paired.append (Paired.imp (fun _ _ w => w.mv fun y o s h => ⟨s, mvf y o s.2 (e7 _ _ (e6 _ _ h))⟩) hp) ?_
            have hT2 : Paired (fun u lft => ∃ t v : Addr, u = .ref t ∧ H6 t = none ∧ S v ∧ H7 t = some (.tup [.ref v, .str z]) ∧ H7 v = some (.lst (lft.map V.str))) us' (keptFor zs ks z) := by
              clear lT ll3 lk hls
              clear e07 et mvf
              have go : ∀ {us' ls : List V} {kk : List (List Str)}, TupsN H6 H7 z us' ls → Paired (SLS S H6) ls kk → Paired (fun u lft => ∃ t v : Addr, u = .ref t ∧ H6 t = none ∧ S v ∧ H7 t = some (.tup [.ref v, .str z]) ∧ H7 v = some (.lst (lft.map V.str))) us' kk := by
                intro us' ls kk h1
                induction h1 generalizing kk with
                | nil => intro h2; cases h2; exact .nil
                | cons h1 _ ih =>
                  intro h2
                  cases h2 with
                  | cons h2 t2 =>
                    obtain ⟨t, w1, w2, w3⟩ := h1
                    obtain ⟨v, x1, x2, x3⟩ := h2
                    subst x1
                    exact .cons ⟨t, v, w1, w2, x2, w3, e7 _ _ x3⟩ (ih t2)
              exact go hT hpl
            have hmap : ∀ {us' : List V} {kk : List (List Str)}, Paired (fun u lft => ∃ t v : Addr, u = .ref t ∧ H6 t = none ∧ S v ∧ H7 t = some (.tup [.ref v, .str z]) ∧ H7 v = some (.lst (lft.map V.str))) us' kk → Paired (PairS (fun a => G a = none ∧ a ≠ f) (upd H7 f (.lst (us ++ us')))) us' (kk.map fun lf => (lf, z)) := by
              intro us2 kk h1
              have f4 : H4 f ≠ none := by rw [hus]; exact fun h => nomatch h
              have f6 : H6 f ≠ none := by rw [e6 _ _ hus]; exact fun h => nomatch h
              have step : ∀ (ww : List V), Paired (PairS (fun a => G a = none ∧ a ≠ f) (upd H7 f (.lst ww))) us2 (kk.map fun lf => (lf, z)) := fun ww => by
                induction h1 with
                | nil => exact .nil
                | cons h1 _ ih =>
                  obtain ⟨t, v, w1, w2, w3, w4, w5⟩ := h1
                  have ntf : t ≠ f := fun q => f6 (by rw [← q]; exact w2)
                  have nvf : v ≠ f := fun q => f4 (by rw [← q]; exact w3.1)
                  exact .cons ⟨t, v, w1, ⟨fresh_back (e4.trans e6) w2, ntf⟩, ⟨fresh_back e4 w3.1, nvf⟩, by rw [upd_ne ntf]; exact w4, by rw [upd_ne nvf]; exact w5⟩ ih
              exact step _
            exact hmap hT2
      · rintro L σ' H4 ⟨e4, hL, nLf, ⟨us, hus, hp, hlu⟩, v4, v5, v6, v7, v8, v9, rfl⟩
        rw [lsz] at hp hlu
        rw [List.take_of_length_le (by rw [srtS_len]; exact Nat.le_refl _)] at hp
        refine ⟨_, rfl, ?_⟩
        dsimp only [tNil]
        refine sortD_use encP (sq_of hus) (Paired.imp (fun _ _ z => z.at'.dp) hp) alikeP (sortP _) depthP fun us2 hF pm m2 hm2 => ?_
        have eN : Ex H4 (upd H4 m2 (.lst us2)) := Ex.new hm2
        exact kG m2 us2 _ (fresh_back e4 hm2) (e4.trans eN) upd_same (Paired.imp (fun _ _ w => w.mv fun y o s h => ⟨s.1, eN _ _ h⟩) (hF _ hp))
end
end Mv
/-! _law_keep. -/
namespace Mv
open PySem PySem.Spec PyProof.Rows L2 Evl
def ixOf : List Str → Str → Nat
  | [], _ => 0
  | y :: ys, z => if y = z then 0 else ixOf ys z + 1
theorem ixOf_at : ∀ {zs : List Str} {z : Str}, z ∈ zs → zs[ixOf zs z]? = some z
  | y :: ys, z, h => by
    unfold ixOf
    by_cases e : y = z
    · rw [if_pos e, e] <;> rfl
    · rw [if_neg e]
      exact ixOf_at ((List.mem_cons.mp h).resolve_left fun q => e q.symm)
theorem ixOf_no : ∀ {zs : List Str} {z : Str} (m : Nat), m < ixOf zs z → zs[m]? ≠ some z
  | [], _, _, h => by simp [ixOf] at h
  | y :: ys, z, m, h => by
    unfold ixOf at h
    by_cases e : y = z
    · rw [if_pos e] at h
      omega
    · rw [if_neg e] at h
      cases m with
      | zero => exact fun q => e (Option.some.inj q)
      | succ m => exact ixOf_no m (by omega)
theorem ixOf_lt {zs : List Str} {z : Str} (h : z ∈ zs) : ixOf zs z < zs.length := (List.getElem?_eq_some_iff.mp (ixOf_at h)).1
def valOf (zs : List Str) (z : Str) (w : List Int) : Int := w.getD (ixOf zs z) 0
def keyOf (zs left : List Str) (w : List Int) : List Int := left.map fun z => valOf zs z w
theorem val_at {zs : List Str} {z : Str} {w : List Int} (h : z ∈ zs) (l : w.length = zs.length) : w[ixOf zs z]? = some (valOf zs z w) := by
  have := ixOf_lt h
  unfold valOf
  rw [List.getD_eq_getElem?_getD, List.getElem?_eq_getElem (by omega)] <;> rfl
theorem agr_iff {zs : List Str} {z : Str} {a b : List Int} (nd : zs.Nodup) (h : z ∈ zs) (la : a.length = zs.length) (lb : b.length = zs.length) : z ∈ agr zs a b ↔ valOf zs z a = valOf zs z b := by
  unfold agr
  rw [List.mem_map]
  constructor
  · rintro ⟨p, hp, e⟩
    obtain ⟨h1, h2⟩ := List.mem_filter.mp hp
    obtain ⟨i, hi⟩ := List.mem_iff_getElem?.mp h1
    obtain ⟨y, m, n⟩ := p
    obtain ⟨w1, w2⟩ := List.getElem?_zip_eq_some.mp hi
    obtain ⟨w3, w4⟩ := List.getElem?_zip_eq_some.mp w2
    have e : y = z := e
    subst e
    have hj := ixOf_at h
    have ei : i = ixOf zs y := by
      obtain ⟨l1, g1⟩ := List.getElem?_eq_some_iff.mp w1
      obtain ⟨l2, g2⟩ := List.getElem?_eq_some_iff.mp hj
      exact (List.getElem_inj nd).mp (g1.trans g2.symm)
    subst ei
    have a1 := val_at h la
    have b1 := val_at h lb
    rw [w3] at a1
    rw [w4] at b1
    rw [← Option.some.inj a1, ← Option.some.inj b1]
    exact of_decide_eq_true h2
  · intro e
    refine ⟨(z, valOf zs z a, valOf zs z b), List.mem_filter.mpr ⟨?_, decide_eq_true e⟩, rfl⟩
    have e1 : (a.zip b)[ixOf zs z]? = some (valOf zs z a, valOf zs z b) := List.getElem?_zip_eq_some.mpr ⟨val_at h la, val_at h lb⟩
    have e2 : (zs.zip (a.zip b))[ixOf zs z]? = some (z, (valOf zs z a, valOf zs z b)) := List.getElem?_zip_eq_some.mpr ⟨ixOf_at h, e1⟩
    exact List.mem_of_getElem? e2
theorem keep_iff {zs : List Str} {p : Pr} {a b : List Int} (nd : zs.Nodup) (h1 : ∀ z ∈ p.1, z ∈ zs) (h2 : p.2 ∈ zs) (la : a.length = zs.length) (lb : b.length = zs.length) : keepB zs p a b = true ↔ (keyOf zs p.1 a = keyOf zs p.1 b → valOf zs p.2 a = valOf zs p.2 b) := by
  unfold keepB
  have hk : (p.1.all fun z => decide (z ∈ agr zs a b)) = true ↔ keyOf zs p.1 a = keyOf zs p.1 b := by
    rw [List.all_eq_true]
    unfold keyOf
    rw [List.map_inj_left]
    exact ⟨fun h z hz => (agr_iff nd (h1 z hz) la lb).mp (of_decide_eq_true (h z hz)), fun h z hz => decide_eq_true ((agr_iff nd (h1 z hz) la lb).mpr (h z hz))⟩
  rw [Bool.or_eq_true, decide_eq_true_eq, agr_iff nd h2 la lb]
  constructor
  · rintro (h | h) e
    · exact h
    · rw [hk.mpr e] at h
      cases h
  · intro h
    cases hb : p.1.all fun z => decide (z ∈ agr zs a b) with
    | true => exact .inl (h (hk.mp hb))
    | false => exact .inr rfl
/-- rows that keep a pair -/
def KFd (zs : List Str) (p : Pr) (ws : List (List Int)) : Prop := ws.Pairwise fun a b => keepB zs p a b = true
instance (zs : List Str) (p : Pr) (ws : List (List Int)) : Decidable (KFd zs p ws) := inferInstanceAs (Decidable (ws.Pairwise _))
def keepAll (zs : List Str) (rs : List Pr) (ws : List (List Int)) : Bool := rs.all fun p => decide (KFd zs p ws)
theorem fd_first {zs : List Str} {p : Pr} : ∀ {ks : List KR}, firstU zs p ks = none ↔ KFd zs p (ks.map (·.2))
  | [] => ⟨fun _ => .nil, fun _ => rfl⟩
  | k :: ks => by
    unfold firstU
    cases hf : ks.filter fun o => !keepB zs p k.2 o.2 with
    | nil =>
      show firstU zs p ks = none ↔ _
      rw [fd_first]
      unfold KFd
      rw [List.map_cons, List.pairwise_cons]
      refine ⟨fun h => ⟨fun w hw => ?_, h⟩, fun h => h.2⟩
      obtain ⟨o, ho, rfl⟩ := List.mem_map.mp hw
      have := List.filter_eq_nil_iff.mp hf o ho
      cases hb : keepB zs p k.2 o.2 with
      | true => rfl
      | false =>
        rw [hb] at this
        exact absurd rfl this
    | cons o os =>
      show some (k, o) = none ↔ _
      refine ⟨(fun h => nomatch h), fun h => ?_⟩
      unfold KFd at h
      rw [List.map_cons, List.pairwise_cons] at h
      have ho : o ∈ ks.filter fun o => !keepB zs p k.2 o.2 := by rw [hf]; exact List.mem_cons_self
      obtain ⟨h1, h2⟩ := List.mem_filter.mp ho
      have := h.1 o.2 (List.mem_map_of_mem h1)
      rw [this] at h2
      cases h2
theorem hold_fd {zs : List Str} {z : Str} {l : List Str} {ks : List KR} : holdB zs ks z l = decide (KFd zs (l, z) (ks.map (·.2))) := by
  unfold holdB
  rw [Bool.eq_iff_iff, Option.isNone_iff_eq_none, decide_eq_true_eq]
  exact fd_first
theorem putK_len {κ : Type} [DecidableEq κ] (kvs : List (κ × V)) (k : κ) (v : V) : (putK kvs k v).length ≤ kvs.length + 1 := by
  unfold putK
  split
  · rw [List.length_map]; omega
  · rw [List.length_append, List.length_singleton]; exact Nat.le_refl _
abbrev kK (zs : List Str) (p : Pr) (w : List Int) : List Key := (keyOf zs p.1 w).map Sum.inl
theorem kK_inj {zs : List Str} {p : Pr} {a b : List Int} : kK zs p a = kK zs p b ↔ keyOf zs p.1 a = keyOf zs p.1 b :=
  ⟨fun h => by
    have := congrArg (List.map fun k : Key => match k with | .inl i => i | .inr _ => 0) h
    rw [List.map_map, List.map_map] at this
    have e : ((fun k : Key => match k with | .inl i => i | .inr _ => 0) ∘ Sum.inl) = (id : Int → Int) := rfl
    rw [e, List.map_id, List.map_id] at this
    exact this, fun h => by unfold kK; rw [h]⟩
/-- what the dict knows of the rows gone through -/
structure SeenK (zs : List Str) (p : Pr) (ws : List (List Int)) (kvs : List (List Key × V)) : Prop where
  fd : KFd zs p ws
  has : ∀ w ∈ ws, valV kvs (kK zs p w) = some (.int (valOf zs p.2 w))
  of : ∀ k v, valV kvs k = some v → ∃ w ∈ ws, kK zs p w = k ∧ v = .int (valOf zs p.2 w)
theorem SeenK.nil {zs : List Str} {p : Pr} : SeenK zs p [] [] := ⟨.nil, (fun _ h => nomatch h), fun k v h => by rw [valV_nil] at h; cases h⟩
theorem SeenK.more {zs : List Str} {p : Pr} {ws : List (List Int)} {w : List Int} {kvs : List (List Key × V)} (S : SeenK zs p ws kvs) (nd : zs.Nodup) (h1 : ∀ z ∈ p.1, z ∈ zs) (h2 : p.2 ∈ zs) (hl : ∀ u ∈ ws, u.length = zs.length) (lw : w.length = zs.length)
    (h : (valV kvs (kK zs p w)).getD (.int (valOf zs p.2 w)) = .int (valOf zs p.2 w)) : SeenK zs p (ws ++ [w]) (putK kvs (kK zs p w) (.int (valOf zs p.2 w))) := by
  refine ⟨List.pairwise_append.mpr ⟨S.fd, List.pairwise_singleton .., fun u hu v hv => ?_⟩, fun u hu => ?_, fun k v hv => ?_⟩
  · rw [List.mem_singleton.mp hv]
    refine (keep_iff nd h1 h2 (hl u hu) lw).mpr fun e => ?_
    have hs := S.has u hu
    rw [kK_inj.mpr e] at hs
    rw [hs] at h
    have h : V.int (valOf zs p.2 u) = V.int (valOf zs p.2 w) := h
    injection h
  · rw [valV_put]
    rcases List.mem_append.mp hu with hu | hu
    · by_cases e : kK zs p u = kK zs p w
      · rw [if_pos e]
        have hs := S.has u hu
        rw [e] at hs
        rw [hs] at h
        have h : V.int (valOf zs p.2 u) = V.int (valOf zs p.2 w) := h
        rw [h]
      · rw [if_neg e]
        exact S.has u hu
    · rw [List.mem_singleton.mp hu, if_pos rfl]
  · rw [valV_put] at hv
    by_cases e : k = kK zs p w
    · rw [if_pos e] at hv
      exact ⟨w, List.mem_append.mpr (.inr List.mem_cons_self), e.symm, (Option.some.inj hv).symm⟩
    · rw [if_neg e] at hv
      obtain ⟨u, a, b⟩ := S.of k v hv
      exact ⟨u, List.mem_append.mpr (.inl a), b⟩
theorem SeenK.bad {zs : List Str} {p : Pr} {ws : List (List Int)} {w : List Int} {r : List (List Int)} {kvs : List (List Key × V)} (S : SeenK zs p ws kvs) (nd : zs.Nodup) (h1 : ∀ z ∈ p.1, z ∈ zs) (h2 : p.2 ∈ zs) (hl : ∀ u ∈ ws, u.length = zs.length) (lw : w.length = zs.length)
    (h : ¬ (valV kvs (kK zs p w)).getD (.int (valOf zs p.2 w)) = .int (valOf zs p.2 w)) : ¬ KFd zs p (ws ++ w :: r) := fun z => by
  cases hv : valV kvs (kK zs p w) with
  | none => rw [hv] at h; exact h rfl
  | some v =>
    rw [hv] at h
    obtain ⟨u, hu, e1, e2⟩ := S.of _ _ hv
    have := (List.pairwise_append.mp z).2.2 u hu w List.mem_cons_self
    have := (keep_iff nd h1 h2 (hl u hu) lw).mp this (kK_inj.mp e1)
    exact h (by rw [e2]; show V.int _ = V.int _; rw [this])
section
variable {K : PySem.W.Frag} {σ : L2.St} {H H' : Hp} {ta tb te tl : TE}
theorem ev_idx {p : Addr} {zs : List Str} {z : Str} (ha : Ev ta σ H (.ref p)) (hp : H p = some (.lst (zs.map V.str))) (hb : ∀ H1, Ex H H1 → Ev tb σ H1 (.str z)) (ok : ∀ z ∈ zs, PyData.strOk z = true) (hz : z ∈ zs) : Ev (tBM K "list" (rIndexD K) ta (tCons tb tNil)) σ H (.int (ixOf zs z : Int)) := fun H1 e Q q => ha H1 e _ fun H2 e2 =>
  ⟨Or.inl ⟨rfl, _, sq_of ((e.trans e2) _ _ hp)⟩, hb H2 (e.trans e2) H2 (Ex.refl _) _ fun H3 e3 => ⟨p, .str z, .str z, zs.map .str, ixOf zs z, .str z, rfl, rfl, .lst (sq_of (((e.trans e2).trans e3) _ _ hp)) (dp_strs zs), .str z, shaped_strs ok, shaped_str (ok z hz), by rw [List.getElem?_map, ixOf_at hz] <;> rfl, by rw [eqvS]; exact decide_eq_true rfl, fun m z' hm hz' => by
    rw [List.getElem?_map, Option.map_eq_some_iff] at hz'
    obtain ⟨y, hy, rfl⟩ := hz'
    rw [eqvS]
    exact decide_eq_false fun e => ixOf_no m hm (by rw [hy, e]), q H3 (e2.trans e3)⟩⟩
end
section
variable {P : Program} {w : World} {K : PySem.W.Frag} {mg : Str → Option Value} {base : Heap} {a : Nat → Addr} {d : Nat → FuncData} {tk : Nat → Tok} {c ci : Nat → Addr} {di : Nat → FuncData}
def sp__law_keep : Sp := fun vs H Q _ => ∃ (p m q : Addr) (zs : List Str) (us : List V) (rs : List Pr) (ks : List KR), vs = [.ref p, .ref m, .ref q] ∧ H p = some (.lst (zs.map V.str)) ∧ H m = some (.lst us) ∧ Paired (PairAt H) us rs ∧ H q = some (.lst (ks.map (·.1))) ∧ (∀ k ∈ ks, IsRow H k.1 k.2 ∧ k.2.length = zs.length) ∧
  zs.Nodup ∧ (∀ z ∈ zs, PyData.strOk z = true) ∧ (∀ r ∈ rs, (∀ z ∈ r.1, z ∈ zs) ∧ r.2 ∈ zs ∧ r.1.length ≤ 100) ∧ zs.length ≤ 5 ∧ ks.length ≤ 100 ∧ RetV (.bl (keepAll zs rs (ks.map (·.2)))) H Q
theorem ok__law_keep (T : All K mg a d tk c ci di) : FnOk P w K mg base CX0 1 (a 22) (d 22) ["columns", "pairs", "rows"] sp__law_keep := by
  refine T.F__law_keep.fn.ok sc__law_keep (fun vs H Q E h => ?_) (fun cdv A outer s H vs Q E hr h => ?_)
  · obtain ⟨p, m, q, zs, us, rs, ks, rfl, _⟩ := h
    rfl
  · obtain ⟨p, m, q, zs, us, rs, ks, rfl, hp, hm, hpr, hq, hk, ndz, okz, hrs, l5, lk, k⟩ := h
    have nd := sc__law_keep.nd
    have hu := hu_of hr
    have hu65 := hu65_of hr
    refine ⟨_, (pss_cons (ps_for PassesOwn.never rfl (pi_list (pv 1)) (pg_tup rfl (pgs_cons (pg_name (i := 3) nd rfl (Or.inl rfl)) (pgs_cons (pg_name (i := 4) nd rfl (Or.inl rfl)) pgs_nil)))
 (pss_cons (ps_set (i := 5) nd rfl (Or.inl rfl) (pe_bm PySem.F.plainAttrs_list PySem.F.slot_list_index PySem.F.type_list_index (mt_indexD hu65) (pv 0) (pa_cons (pv 4) pa_nil)))
 (pss_cons (ps_setLc (i := 6) (own := [("name", 10)]) (g := (gName 10)) rfl nd rfl rfl (sw_true rfl rfl rfl (by decide +kernel)) (pi_list (pv 3)) (blkOk_by (N := N__law_keep) (sc := defScope s__law_keep) (by decide +kernel)) (fun _ _ _ _ _ => (pg_name (i := 10) nd rfl (Or.inl rfl))) (fun _ _ _ _ _ => pts_nil) (fun _ _ _ _ _ => (pe_bmK (K := K) rfl PySem.F.plainAttrs_list PySem.F.slot_list_index PySem.F.type_list_index (show MtR _ "list.index" (rIndexD K) from (mt_indexD hu65)) (pv 0) (pa_cons (pv 10) pa_nil))))
 (pss_cons (ps_set (i := 7) nd rfl (Or.inl rfl) pe_dnewT)
 (pss_one (ps_for PassesOwn.never rfl (pi_list (pv 2)) (pg_name (i := 8) nd rfl (Or.inr rfl))
 (pss_cons (ps_set (i := 9) nd rfl (Or.inl rfl) (pe_callTy call_tuple_of rfl T.n_tuple PyProof.Rows.boot_tuple (pa_cons (pe_lc (own := [("place", 11)]) (g := (gName 11)) rfl nd (pi_list (pv 6)) (blkOk_by (N := N__law_keep) (sc := defScope s__law_keep) (by decide +kernel)) (fun _ _ _ _ _ => (pg_name (i := 11) nd rfl (Or.inl rfl))) (fun _ _ _ _ _ => pts_nil) (fun _ _ _ _ _ => (pe_ix (show IxR _ (rIxT K) from ix_tup) (pv 8) (pv 11) (fun _ _ => rfl)))) pa_nil)))
 (pss_cons (ps_if (pt_cmpR op_ne (pe_dget2 hu (pv 7) (pv 9) (pe_ix ix_tup (pv 8) (pv 5) (fun _ _ => rfl)) ⟨rfl, rfl, rfl, rfl⟩) (pe_ix ix_tup (pv 8) (pv 5) (fun _ _ => rfl)) (nomark _))
 (pss_one (ps_ret pe_bl))
 pss_nil)
 (pss_one (ps_dput hu (pv 7) (pv 9) (pe_ix ix_tup (pv 8) (pv 5) (fun _ _ => rfl)) rfl))))))))))
 (pss_one (ps_ret pe_bl))), ?_⟩
    have lur := Paired.length hpr
    let Po : Nat → L2.St → Hp → Prop := fun i σ' H' => Ex H H' ∧ keepAll zs rs (ks.map (·.2)) = keepAll zs (rs.drop i) (ks.map (·.2)) ∧ ∃ v3 v4 v5 v6 v7 v8 v9 v10 v11, σ' = [some (.ref p), some (.ref m), some (.ref q), v3, v4, v5, v6, v7, v8, v9, v10, v11]
    refine ⟨_, rfl, m, rfl, ⟨us, sq_of hm⟩, for_list (K := K) (a := m) (xs := us) Po ⟨Ex.refl _, by rw [List.drop_zero], _, _, _, _, _, _, _, _, _, rfl⟩ (fun i σ' H' _ z => sq_of (z.1 _ _ hm)) ?_ ?_⟩
    · rintro i x σ' H1 hi ⟨e1, hw, v3, v4, v5, v6, v7, v8, v9, v10, v11, rfl⟩
      obtain ⟨r, hri, t, v, rfl, ht, hv⟩ := Paired.at_l hpr i x hi
      obtain ⟨hil, hig⟩ := List.getElem?_eq_some_iff.mp hri
      obtain ⟨r1, r2, r3⟩ := hrs r (List.mem_of_getElem? hri)
      rw [List.drop_eq_getElem_cons hil, hig] at hw
      have hw : keepAll zs rs (ks.map (·.2)) = (decide (KFd zs r (ks.map (·.2))) && keepAll zs (rs.drop (i + 1)) (ks.map (·.2))) := hw
      refine ⟨t, _, rfl, st_of (e1 _ _ ht), rfl, _, _, rfl, _, _, rfl, rfl, ?_⟩
      refine q_asg (ev_idx (K := K) (z := r.2) (ev_var (i := 0) rfl) (e1 _ _ hp) (fun H2 e2 => ev_var (i := 4) rfl) okz r2) fun H2 e2 => ?_
      have e12 := e1.trans e2
      have comp : EvL (tLc (iList K (tVar 3)) (gName 10) tYes (tBM K "list" (rIndexD K) (tVar 0) (tCons (tVar 10) tNil)) [10]) [some (.ref p), some (.ref m), some (.ref q), some (.ref v), some (.str r.2), some (.int (ixOf zs r.2 : Int)), v6, v7, v8, v9, v10, v11] H2 (r.1.map fun z => V.int (ixOf zs z : Int)) := by
        have z0 := el_lcLm (K := K) (te := tBM K "list" (rIndexD K) (tVar 0) (tCons (tVar 10) tNil)) (tl := tVar 3) (σ := [some (.ref p), some (.ref m), some (.ref q), some (.ref v), some (.str r.2), some (.int (ixOf zs r.2 : Int)), v6, v7, v8, v9, v10, v11]) (H := H2) (j := 10) (vs := [10]) (fun x => .int (ixOf zs (strOf x) : Int)) (ev_var rfl) (e12 _ _ hv) (by rw [List.length_map]; omega) (fun _ => rfl) (fun x H3 e3 hx => by
          obtain ⟨z, hz, rfl⟩ := List.mem_map.mp hx
          exact ev_idx (z := z) (ev_var (i := 0) rfl) ((e12.trans e3) _ _ hp) (fun H4 e4 => ev_var (i := 10) rfl) okz (r1 z hz))
        rw [List.map_map] at z0
        exact z0
      refine q_asgL comp fun pl H3 hpl e3 h3 => ?_
      intro sd hsd
      have e13 := e12.trans e3
      have h3d : (upd H3 sd (.dT [])) pl = some (.lst (r.1.map fun z => V.int (ixOf zs z : Int))) := (Ex.new hsd) _ _ h3
      let Pd : Nat → L2.St → Hp → Prop := fun j σ' H' => Ex H3 H' ∧ (∃ kvs, H' sd = some (.dT kvs) ∧ SeenK zs r ((ks.take j).map (·.2)) kvs ∧ kvs.length ≤ j) ∧ ∃ v8 v9 v10 v11, σ' = [some (.ref p), some (.ref m), some (.ref q), some (.ref v), some (.str r.2), some (.int (ixOf zs r.2 : Int)), some (.ref pl), some (.ref sd), v8, v9, v10, v11]
      refine ⟨_, rfl, q, rfl, ⟨_, sq_of ((Ex.new hsd) _ _ (e13 _ _ hq))⟩, for_list (K := K) (a := q) (xs := ks.map (·.1)) Pd ⟨Ex.new hsd, ⟨[], upd_same, SeenK.nil, Nat.le_refl _⟩, _, _, _, _, rfl⟩ (fun j σ' H' _ z => sq_of (z.1 _ _ (e13 _ _ hq))) ?_ ?_⟩
      · rintro j x σ' H4 hj ⟨e4, ⟨kvs, hsk, S, lkv⟩, v8, v9, v10, v11, rfl⟩
        rw [List.getElem?_map, Option.map_eq_some_iff] at hj
        obtain ⟨kr, hkj, rfl⟩ := hj
        obtain ⟨⟨b, hb1, hb2⟩, hbl⟩ := hk kr (List.mem_of_getElem? hkj)
        rw [hb1]
        have e04 := e13.trans e4
        have hjl := (List.getElem?_eq_some_iff.mp hkj).1
        have et : (ks.take (j + 1)).map (·.2) = (ks.take j).map (·.2) ++ [kr.2] := by rw [List.take_succ, hkj, List.map_append] <;> rfl
        have hl : ∀ u ∈ (ks.take j).map (·.2), u.length = zs.length := fun u hu => by
          obtain ⟨k0, hk0, rfl⟩ := List.mem_map.mp hu
          exact (hk k0 (List.mem_of_mem_take hk0)).2
        have ixr : ∀ {z : Str} {H5 : Hp} {σ1 : L2.St} {te : TE}, σ1[8]? = some (some (.ref b)) → Ev te σ1 H5 (.int (ixOf zs z : Int)) → z ∈ zs → Ex H4 H5 → Ev (tOp (rIxT K) (tVar 8) te) σ1 H5 (.int (valOf zs z kr.2)) := fun h8 hte hz e => ev_op (ev_var h8) hte (rv_ixT (st_of ((e04.trans e) _ _ hb2)) (atI_nat (by rw [List.getElem?_map, val_at hz hbl] <;> rfl)))
        have ckey : EvL (tLc (iList K (tVar 6)) (gName 11) tYes (tOp (rIxT K) (tVar 8) (tVar 11)) [11]) [some (.ref p), some (.ref m), some (.ref q), some (.ref v), some (.str r.2), some (.int (ixOf zs r.2 : Int)), some (.ref pl), some (.ref sd), some (.ref b), v9, v10, v11] H4 ((kK zs r kr.2).map kV) := by
          have z0 := el_lcLm (K := K) (te := tOp (rIxT K) (tVar 8) (tVar 11)) (tl := tVar 6) (xs := r.1.map fun z => V.int (ixOf zs z : Int)) (σ := [some (.ref p), some (.ref m), some (.ref q), some (.ref v), some (.str r.2), some (.int (ixOf zs r.2 : Int)), some (.ref pl), some (.ref sd), some (.ref b), v9, v10, v11]) (H := H4) (j := 11) (vs := [11]) (fun x => match x with | .int i => .int (kr.2.getD i.toNat 0) | _ => .non) (ev_var rfl) (e4 _ _ h3) (by rw [List.length_map]; omega) (fun _ => rfl) (fun x H5 e5 hx => by
            obtain ⟨z, hz, rfl⟩ := List.mem_map.mp hx
            exact ixr rfl (ev_var (i := 11) rfl) (r1 z hz) e5)
          have ez : (r.1.map fun z => V.int (ixOf zs z : Int)).map (fun x => match x with | .int i => V.int (kr.2.getD i.toNat 0) | _ => .non) = (kK zs r kr.2).map kV := by
            unfold kK keyOf
            rw [List.map_map, List.map_map, List.map_map] <;> rfl
          rw [ez] at z0
          exact z0
        refine q_asgU (eu_tupL ckey) fun tb H5 htb e5 h5 => ?_
        have e45 := e4.trans e5
        have ntb : tb ≠ sd := fun z => by rw [z, hsk] at htb; cases htb
        have val : ∀ {H6 : Hp}, Ex H5 H6 → Ev (tOp (rIxT K) (tVar 8) (tVar 5)) [some (.ref p), some (.ref m), some (.ref q), some (.ref v), some (.str r.2), some (.int (ixOf zs r.2 : Int)), some (.ref pl), some (.ref sd), some (.ref b), some (.ref tb), v10, v11] H6 (.int (valOf zs r.2 kr.2)) := fun e6 => ixr rfl (ev_var (i := 5) rfl) r2 (e5.trans e6)
        have dget : Ev (tDGet2 (tVar 7) (tVar 9) (tOp (rIxT K) (tVar 8) (tVar 5))) [some (.ref p), some (.ref m), some (.ref q), some (.ref v), some (.str r.2), some (.int (ixOf zs r.2 : Int)), some (.ref pl), some (.ref sd), some (.ref b), some (.ref tb), v10, v11] H5 ((valV kvs (kK zs r kr.2)).getD (.int (valOf zs r.2 kr.2))) := fun H6 e6 Q' q' => by
          refine ⟨_, rfl, sd, rfl, .inr ⟨kvs, .inl ((e5.trans e6) _ _ hsk)⟩, _, rfl, ?_⟩
          exact (val e6) H6 (Ex.refl _) _ fun H7 e7 => ⟨_, DGet.t (((e5.trans e6).trans e7) _ _ hsk) ((e6.trans e7) _ _ h5), q' H7 e7⟩
        have sc : scal ((valV kvs (kK zs r kr.2)).getD (.int (valOf zs r.2 kr.2))) (.int (valOf zs r.2 kr.2)) = true := by
          cases hv0 : valV kvs (kK zs r kr.2) with
          | none => rfl
          | some v0 =>
            obtain ⟨u0, _, _, e0⟩ := S.of _ _ hv0
            rw [e0] <;> rfl
        have tst := et_test (ev_op dget (val (Ex.refl _)) (rv_ne sc))
        by_cases hbad : (valV kvs (kK zs r kr.2)).getD (.int (valOf zs r.2 kr.2)) = .int (valOf zs r.2 kr.2)
        · refine q_when (b := false) (et_is tst (by rw [decide_eq_true hbad] <;> rfl)) (fun h => nomatch h) fun _ H6 e6 => ?_
          refine (val e6) H6 (Ex.refl _) _ fun H7 e7 => ⟨_, rfl, _, rfl, sd, _, rfl, DPut.t (k := kK zs r kr.2) (v := .int (valOf zs r.2 kr.2)) (((e5.trans e6).trans e7) _ _ hsk) ((e6.trans e7) _ _ h5) (sz_lt (by omega)), ?_⟩
          have e37 : Ex H3 H7 := (e45.trans e6).trans e7
          refine ⟨Ex.mut e37 hsd, ⟨_, upd_same, ?_, Nat.le_trans (putK_len _ _ _) (by omega)⟩, _, _, _, _, rfl⟩
          rw [et]
          exact S.more ndz r1 r2 hl hbl hbad
        · refine q_when (b := true) (et_is tst (by rw [decide_eq_false hbad] <;> rfl)) (fun _ H6 e6 => ?_) fun h => nomatch h
          have hno : ¬ KFd zs r (ks.map (·.2)) := by
            have es : ks.map (·.2) = (ks.take j).map (·.2) ++ kr.2 :: (ks.drop (j + 1)).map (·.2) := by
              have z := List.take_append_drop j ks
              rw [List.drop_eq_getElem_cons hjl, (List.getElem?_eq_some_iff.mp hkj).2] at z
              have z2 := congrArg (List.map fun k : KR => k.2) z
              rw [List.map_append, List.map_cons] at z2
              exact z2.symm
            rw [es]
            exact S.bad ndz r1 r2 hl hbl hbad
          rw [hw, decide_eq_false hno, Bool.false_and] at k
          exact s_ret ev_c fun H7 e7 => k H7 (((e13.trans e45).trans e6).trans e7)
      · rintro σ' H4 ⟨e4, ⟨kvs, hsk, S, lkv⟩, v8, v9, v10, v11, rfl⟩
        have hfd := S.fd
        rw [List.length_map, List.take_length] at hfd
        refine ⟨e13.trans e4, ?_, _, _, _, _, _, _, _, _, _, rfl⟩
        rw [hw, decide_eq_true hfd, Bool.true_and]
    · rintro σ' H' ⟨e', hw, v3, v4, v5, v6, v7, v8, v9, v10, v11, rfl⟩
      rw [List.drop_eq_nil_of_le (by omega)] at hw
      rw [hw] at k
      dsimp only
      exact s_ret ev_c fun H2 e2 => k H2 (e'.trans e2)
end
end Mv
/-! What is due: the first pair that is broken, the least pairs that hold. -/
namespace Mv
open PySem PySem.Spec PyProof.Rows L2 Evl
/-- rows as the law holds them: a list -/
structure RowsL (H : Hp) (n : Nat) (q : Addr) (ks : List KR) : Prop where
  hs : H q = some (.lst (ks.map (·.1)))
  row : ∀ k ∈ ks, IsRow H k.1 k.2 ∧ k.2.length = n
  few : ks.length ≤ 100
theorem RowsL.ex {H H' : Hp} {n : Nat} {q : Addr} {ks : List KR} (h : RowsL H n q ks) (e : Ex H H') : RowsL H' n q ks := ⟨e _ _ h.hs, fun k hk => ⟨(h.row k hk).1.ex e, (h.row k hk).2⟩, h.few⟩
/-- names as the law holds them -/
structure NmG (zs : List Str) : Prop where
  nd : zs.Nodup
  ok : ∀ z ∈ zs, PyData.strOk z = true
  l5 : zs.length ≤ 5
def PrG (zs : List Str) (r : Pr) : Prop := (∀ z ∈ r.1, z ∈ zs) ∧ r.2 ∈ zs ∧ r.1.length ≤ 100
theorem keepAll1 {zs : List Str} {r : Pr} {ws : List (List Int)} : keepAll zs [r] ws = decide (KFd zs r ws) := by
  unfold keepAll
  rw [List.all_cons, List.all_nil, Bool.and_true]
section
variable {K : PySem.W.Frag} {σ : L2.St} {H H' : Hp} {ta tb tc te tl tr : TE}
/-- one pair, written here, kept by rows -/
theorem ev_keepP {i3 i4 : Nat} {p v : Addr} {zs left : List Str} {z : Str} {ks : List KR} (hc : Ev tc σ H (.ref p)) (hp : H p = some (.lst (zs.map V.str))) (h3 : σ[i3]? = some (some (.ref v))) (hv : H v = some (.lst (left.map V.str))) (h4 : σ[i4]? = some (some (.str z)))
    (hr : ∀ H1, Ex H H1 → ∀ Q : VK, (∀ q H2, Ex H1 H2 → RowsL H2 zs.length q ks → Q (.ref q) H2) → tr σ H1 Q) (G : NmG zs) (ho : PrG zs (left, z)) :
    Ev (tCall sp__law_keep [] E0 (tCons tc (tCons (tLst (tCons (tTup (tCons (tVar i3) (tCons (tVar i4) tNil))) tNil)) (tCons tr tNil)))) σ H (.bl (decide (KFd zs (left, z) (ks.map (·.2))))) := fun H1 e Q k => hc H1 e _ fun H2 e2 => by
  refine ⟨_, h3, _, h4, sz_of (show 2 ≤ 100000 by decide), fun t ht => ⟨sz_of (show 1 ≤ 100000 by decide), fun m hm => ?_⟩⟩
  have eT : Ex H2 (upd H2 t (.tup [.ref v, .str z])) := Ex.new ht
  have eM : Ex (upd H2 t (.tup [.ref v, .str z])) (upd (upd H2 t (.tup [.ref v, .str z])) m (.lst [.ref t])) := Ex.new hm
  have e3 := (e.trans e2).trans (eT.trans eM)
  refine hr _ e3 _ fun q H4 e4 hR => ⟨p, m, q, zs, [.ref t], [(left, z)], ks, rfl, (e3.trans e4) _ _ hp, e4 _ _ upd_same, .cons ⟨t, v, rfl, e4 _ _ (eM _ _ upd_same), (e3.trans e4) _ _ hv⟩ .nil, hR.hs, hR.row, G.nd, G.ok, fun r hr => ?_, G.l5, hR.few, fun H5 e5 => ?_⟩
  · rw [List.mem_singleton.mp hr]
    exact ho
  · rw [keepAll1]
    exact k H5 (((e2.trans (eT.trans eM)).trans e4).trans e5)
theorem RowsL.v {i : Nat} {n : Nat} {q : Addr} {ks : List KR} (h : RowsL H n q ks) (hi : σ[i]? = some (some (.ref q))) : ∀ H1, Ex H H1 → ∀ Q : VK, (∀ q H2, Ex H1 H2 → RowsL H2 n q ks → Q (.ref q) H2) → tVar i σ H1 Q := fun H1 e Q k => ⟨_, hi, k q H1 (Ex.refl _) (h.ex e)⟩
end
section
variable {K : PySem.W.Frag} {σ : L2.St} {H H' : Hp} {tl te : TE} {t : TT} {D : Ends} {tz : TS}
def EvSn (te : TE) (σ : L2.St) (H : Hp) (xss : List (List Str)) : Prop := ∀ H1, Ex H H1 → ∀ Q : VK, RetSLn xss H1 Q → te σ H1 Q
/-- [x for x in a call's new lists if ..] -/
theorem es_lcCn {xss : List (List Str)} {j : Nat} {vs : List Nat} (h : EvSn tl σ H xss) (hz : xss.length ≤ 40000) (hw : ∀ x, wipe ((wipe σ vs).set j (some x)) vs = wipe σ vs) (hv : ∀ x, ((wipe σ vs).set j (some x))[j]? = some (some x)) (p : List Str → Bool)
    (ht : ∀ x zs H1, Ex H H1 → zs ∈ xss → IsSL H1 x zs → EvT t ((wipe σ vs).set j (some x)) H1 (p zs)) : EvSn (tLc (iList K tl) (gName j) t (tVar j) vs) σ H (xss.filter p) := fun H0 e Q k => h H0 e _ fun r us H1 hr e1 h1 pp => ⟨r, rfl, ⟨us, sq_of h1⟩, fun Dl hD => by
  have hl := Paired.length pp
  refine lc_list (xs := us) (Cw H1 (fun i => p (xss.getD i [])) (fun i => us.getD i .non) Dl) ⟨hD, Ex.new hD, upd_same⟩ (fun i H' _ q => sq_of (q.2.1 _ _ h1)) (fun i x H' hi q => ?_) fun H' q => ?_
  · obtain ⟨zs, hzs, hx⟩ := Paired.at_l pp i x hi
    have hil := (List.getElem?_eq_some_iff.mp hi).1
    have ez : xss.getD i [] = zs := by rw [List.getD_eq_getElem?_getD, hzs] <;> rfl
    have ex : us.getD i .non = x := by rw [List.getD_eq_getElem?_getD, hi] <;> rfl
    have z := ht x zs H1 (e.trans e1) (List.mem_of_getElem? hzs) hx.sl
    rw [← ez] at z
    refine ⟨hw x, cw_turn q (by omega) z fun _ => ?_⟩
    show Ev (tVar j) _ H1 (us.getD i .non)
    rw [ex]
    exact ev_var (hv x)
  · have z := paired_given (F := SLS (fun a => H0 a = none) H') [] p (Paired.imp (fun _ _ z => mv_SL _ _ _ _ _ _ z fun a o s ha => ⟨s, q.2.1 _ _ ha⟩) pp) us.length (Nat.le_refl _)
    rw [hl, List.take_length, ← hl] at z
    exact k Dl _ H' (fresh_back e1 q.1) (e1.trans q.2.1) q.2.2 z⟩
theorem q_asgSn {i : Nat} {xss : List (List Str)} (h : EvSn te σ H xss) (k : ∀ r us H1, H r = none → Ex H H1 → H1 r = some (.lst us) → Paired (SLS (fun a => H a = none) H1) us xss → tz D (σ.set i (some (.ref r))) H1) : tSeq (tAsg te (gName i)) tz D σ H := h H (Ex.refl H) _ k
end
theorem fd_two {zs : List Str} {r : Pr} {a b : List Int} : decide (KFd zs r [a, b]) = keepB zs r a b := by
  rw [Bool.eq_iff_iff, decide_eq_true_eq]
  unfold KFd
  rw [List.pairwise_cons]
  exact ⟨fun h => h.1 b List.mem_cons_self, fun h => ⟨fun c hc => by rw [List.mem_singleton.mp hc]; exact h, List.pairwise_singleton ..⟩⟩
def RetDB (r : Pr) (x y : V) (H : Hp) (Q : VK) : Prop := ∀ p t H2, H p = none → Ex H H2 → H2 p = some (.tup [.ref t, x, y]) → PairAt H2 (.ref t) r → Q (.ref p) H2
def DueR (zs : List Str) (rs : List Pr) (ks : List KR) (H : Hp) (Q : VK) : Prop := match brokenU zs ks rs with
  | none => RetV .non H Q
  | some (r, k, o) => RetDB r k.1 o.1 H Q
theorem firstU_find {zs : List Str} {r : Pr} {k : KR} {ks : List KR} : firstU zs r (k :: ks) = match ks.find? fun o => !keepB zs r k.2 o.2 with
    | some o => some (k, o)
    | none => firstU zs r ks := by
  have h := List.head?_filter (p := fun o : KR => !keepB zs r k.2 o.2) (l := ks)
  show (match ks.filter fun o => !keepB zs r k.2 o.2 with
    | [] => firstU zs r ks
    | o :: _ => some (k, o)) = _
  cases hf : ks.filter fun o => !keepB zs r k.2 o.2 with
  | nil =>
    rw [hf] at h
    rw [← h] <;> rfl
  | cons o os =>
    rw [hf] at h
    rw [← h] <;> rfl
/-! the least pairs -/
def heldOf (zs : List Str) (ws : List (List Int)) (z : Str) : List (List Str) := (lawS (srtS (othersOf zs z))).filter fun l => decide (KFd zs (l, z) ws)
def dueFor (zs : List Str) (ws : List (List Int)) (z : Str) : List Pr := (leastOf (heldOf zs ws z)).map fun l => (l, z)
def dueK (zs : List Str) (ws : List (List Int)) : List Pr := ordD encP (zs.flatMap (dueFor zs ws))
def RetKp (rs : List Pr) (H : Hp) (Q : VK) : Prop := ∀ p us H2, H p = none → Ex H H2 → H2 p = some (.lst us) → Paired (PairAt H2) us rs → Q (.ref p) H2
theorem held_mem {zs : List Str} {ws : List (List Int)} {z : Str} {s : List Str} (G : NmG zs) (h : s ∈ heldOf zs ws z) : (∀ y ∈ s, y ∈ zs ∧ y ≠ z) ∧ s.Nodup ∧ s.length ≤ 5 := by
  have h1 := (List.mem_filter.mp h).1
  have l5 : (srtS (othersOf zs z)).length ≤ 5 := by rw [srtS_len]; exact Nat.le_trans others_len G.l5
  exact lefts_mem G.l5 G.nd (ordD_mem.mpr ((lawS_perm l5).mem_iff.mp h1))
theorem held_len {zs : List Str} {ws : List (List Int)} {z : Str} (l5 : zs.length ≤ 5) : (heldOf zs ws z).length ≤ 40 := Nat.le_trans (List.length_filter_le _ _) (lawS_len (by rw [srtS_len]; exact Nat.le_trans others_len l5))
section
variable {P : Program} {w : World} {K : PySem.W.Frag} {mg : Str → Option Value} {base : Heap} {a : Nat → Addr} {d : Nat → FuncData} {tk : Nat → Tok} {c ci : Nat → Addr} {di : Nat → FuncData}
def sp__law_due_broken : Sp := fun vs H Q _ => ∃ (p m q : Addr) (zs : List Str) (us : List V) (rs : List Pr) (ks : List KR), vs = [.ref p, .ref m, .ref q] ∧ H p = some (.lst (zs.map V.str)) ∧ H m = some (.lst us) ∧ Paired (PairAt H) us rs ∧ RowsL H zs.length q ks ∧ NmG zs ∧ (∀ r ∈ rs, PrG zs r) ∧ DueR zs rs ks H Q
theorem ok__law_due_broken (T : All K mg a d tk c ci di) : FnOk P w K mg base CX0 2 (a 25) (d 25) ["columns", "pairs", "rows"] sp__law_due_broken := by
  refine T.F__law_due_broken.fn.ok sc__law_due_broken (fun vs H Q E h => ?_) (fun cdv A outer s H vs Q E hr h => ?_)
  · obtain ⟨p, m, q, zs, us, rs, ks, rfl, _⟩ := h
    rfl
  · obtain ⟨p, m, q, zs, us, rs, ks, rfl, hp, hm, hpr, hR, G, hrs, k⟩ := h
    have nd := sc__law_due_broken.nd
    refine ⟨_, (pss_cons (ps_for PassesOwn.never rfl (pi_list (pv 1)) (pg_tup rfl (pgs_cons (pg_name (i := 3) nd rfl (Or.inl rfl)) (pgs_cons (pg_name (i := 4) nd rfl (Or.inl rfl)) pgs_nil)))
 (pss_one (ps_for PassesOwn.never rfl (pi_range1 rfl T.n_range (pa_cons (pe_callB call_len_seq (by rfl) T.n_len PySem.boot_len (pa_cons (pv 2) pa_nil)) pa_nil)) (pg_name (i := 5) nd rfl (Or.inl rfl))
 (pss_one (ps_for PassesOwn.never rfl (pi_list (pe_slice sl_list (pv 2) (po_some (pe_op op_add (pv 5) pe_int)) po_none)) (pg_name (i := 6) nd rfl (Or.inl rfl))
 (pss_one (ps_if (pt_not (pt_val (pe_call (ok__law_keep T) (hr.mono (by decide)) rfl T.F__law_keep.m T.F__law_keep.kp T.F__law_keep.b .nil pass0 (pa_cons (pv 0) (pa_cons (pe_lst (pa_cons (pe_tup (pa_cons (pv 3) (pa_cons (pv 4) pa_nil))) pa_nil)) (pa_cons (pe_lst (pa_cons (pe_ix ix_list (pv 2) (pv 5) (fun _ _ => rfl)) (pa_cons (pv 6) pa_nil))) pa_nil))))))
 (pss_one (ps_ret (pe_tup (pa_cons (pe_tup (pa_cons (pv 3) (pa_cons (pv 4) pa_nil))) (pa_cons (pe_ix ix_list (pv 2) (pv 5) (fun _ _ => rfl)) (pa_cons (pv 6) pa_nil))))))
 pss_nil)))))))
 (pss_one (ps_ret pe_non))), ?_⟩
    have lur := Paired.length hpr
    have lk := hR.few
    have lkm : (ks.map (·.1)).length = ks.length := List.length_map ..
    let Po : Nat → L2.St → Hp → Prop := fun i σ' H' => Ex H H' ∧ brokenU zs ks rs = brokenU zs ks (rs.drop i) ∧ ∃ v3 v4 v5 v6, σ' = [some (.ref p), some (.ref m), some (.ref q), v3, v4, v5, v6]
    refine ⟨_, rfl, m, rfl, ⟨us, sq_of hm⟩, for_list (K := K) (a := m) (xs := us) Po ⟨Ex.refl _, by rw [List.drop_zero], _, _, _, _, rfl⟩ (fun i σ' H' _ z => sq_of (z.1 _ _ hm)) ?_ ?_⟩
    · rintro i x σ' H1 hi ⟨e1, hw, v3, v4, v5, v6, rfl⟩
      obtain ⟨r, hri, t, v, rfl, ht, hv⟩ := Paired.at_l hpr i x hi
      obtain ⟨hil, hig⟩ := List.getElem?_eq_some_iff.mp hri
      have hPr := hrs r (List.mem_of_getElem? hri)
      rw [List.drop_eq_getElem_cons hil, hig, brokenU] at hw
      refine ⟨t, _, rfl, st_of (e1 _ _ ht), rfl, _, _, rfl, _, _, rfl, rfl, ?_⟩
      dsimp only
      let Pm : Nat → L2.St → Hp → Prop := fun j σ' H' => Ex H H' ∧ firstU zs r ks = firstU zs r (ks.drop j) ∧ ∃ v5 v6, σ' = [some (.ref p), some (.ref m), some (.ref q), some (.ref v), some (.str r.2), v5, v6]
      refine s_forR1 (n := (ks.length : Int)) (ea_cons (ev_is (ev_lenS (K := K) (ev_var (i := 2) rfl) (.inl (e1 _ _ hR.hs))) (by rw [lkm])) ea_nil) (by omega) Pm (fun H2 e2 => ⟨e1.trans e2, by rw [List.drop_zero], _, _, rfl⟩) ?_ ?_
      · rintro j σ' H2 hj ⟨e2, hf, v5, v6, rfl⟩
        have hjl : j < ks.length := by omega
        obtain ⟨kj, hkj⟩ : ∃ kj, ks[j]? = some kj := ⟨ks[j], List.getElem?_eq_getElem hjl⟩
        have hjg := (List.getElem?_eq_some_iff.mp hkj).2
        rw [List.drop_eq_getElem_cons hjl, hjg, firstU_find] at hf
        obtain ⟨⟨b, hb1, hb2⟩, hbl⟩ := hR.row kj (List.mem_of_getElem? hkj)
        let Pn : Addr → Nat → L2.St → Hp → Prop := fun L l σ' H' => Ex H H' ∧ H' L = some (.lst ((ks.drop (j + 1)).map (·.1))) ∧ (ks.drop (j + 1)).find? (fun o => !keepB zs r kj.2 o.2) = ((ks.drop (j + 1)).drop l).find? (fun o => !keepB zs r kj.2 o.2) ∧ ∃ v6, σ' = [some (.ref p), some (.ref m), some (.ref q), some (.ref v), some (.str r.2), some (.int (j : Int)), v6]
        have sl : EvL (tSl (rSlL K) (tVar 2) (tPart (tOp (rI0 fun i j => .int (i + j)) (tVar 5) (tC (.int 1)))) tNoPart) [some (.ref p), some (.ref m), some (.ref q), some (.ref v), some (.str r.2), some (.int (j : Int)), v6] H2 ((ks.drop (j + 1)).map (·.1)) := by
          have z0 := el_sl (K := K) (te := tVar 2) (σ := [some (.ref p), some (.ref m), some (.ref q), some (.ref v), some (.str r.2), some (.int (j : Int)), v6]) (lo := some ((j + 1 : Nat) : Int)) (hi := none) (ev_var (i := 2) rfl) (eo_some (te := tOp (rI0 fun i j => .int (i + j)) (tVar 5) (tC (.int 1))) (ev_is (ev_I0 (g := fun i j => .int (i + j)) (i := (j : Int)) (j := 1) (ev_var (i := 5) rfl) ev_c) rfl)) eo_none (sq_of (e2 _ _ hR.hs))
          rw [cutV_drop _ (j + 1) (by rw [lkm]; omega), ← List.map_drop] at z0
          exact z0
        refine s_forNL (K := K) (g := gName 6) sl Pn (fun L H3 hL e3 h3 => ⟨e2.trans e3, h3, by rw [List.drop_zero], _, rfl⟩) (fun L l σ' H' _ z => sq_of z.2.1) ?_ ?_
        · rintro L l x σ' H3 hl ⟨e3, hL, hfl, v6, rfl⟩
          rw [List.getElem?_map, Option.map_eq_some_iff] at hl
          obtain ⟨o, hol, rfl⟩ := hl
          obtain ⟨hll, hlg⟩ := List.getElem?_eq_some_iff.mp hol
          rw [List.drop_eq_getElem_cons hll, hlg, List.find?_cons] at hfl
          have hom : o ∈ ks := List.mem_of_mem_drop (List.mem_of_getElem? hol)
          show tIfS _ _ _ _ _ _
          have ixj : ∀ {σ1 : L2.St} {H4 : Hp}, σ1[2]? = some (some (.ref q)) → σ1[5]? = some (some (.int (j : Int))) → Ex H H4 → Ev (tOp (rIxL K) (tVar 2) (tVar 5)) σ1 H4 kj.1 := fun h2 h5 e => ev_ixL (ev_var h2) (ev_var h5) (sq_of (e _ _ hR.hs)) (atI_nat (by rw [List.getElem?_map, hkj] <;> rfl))
          have kk := ev_keepP (tc := tVar 0) (i3 := 3) (i4 := 4) (p := p) (v := v) (zs := zs) (left := r.1) (z := r.2) (ks := [kj, o]) (σ := [some (.ref p), some (.ref m), some (.ref q), some (.ref v), some (.str r.2), some (.int (j : Int)), some o.1]) (H := H3) (tr := tLst (tCons (tOp (rIxL K) (tVar 2) (tVar 5)) (tCons (tVar 6) tNil))) (ev_var rfl) (e3 _ _ hp) rfl (e3 _ _ hv) rfl (fun H4 e4 Q4 q4 =>
            (el_lst (ea_cons (ixj rfl rfl (e3.trans e4)) (ea_cons (ev_var (i := 6) rfl) ea_nil)) (by simp)) H4 (Ex.refl _) _ fun L2 H5 hL2 e5 h5 => q4 L2 H5 e5 ⟨h5, fun k hk => by
              have e05 := (e3.trans e4).trans e5
              rcases List.mem_cons.mp hk with rfl | hk
              · exact ⟨(hR.row _ (List.mem_of_getElem? hkj)).1.ex e05, hbl⟩
              · rw [List.mem_singleton.mp hk]
                exact ⟨(hR.row o hom).1.ex e05, (hR.row o hom).2⟩, by simp⟩) G hPr
          have er : decide (KFd zs (r.1, r.2) (([kj, o] : List KR).map (·.2))) = keepB zs r kj.2 o.2 := fd_two
          rw [er] at kk
          cases hb : keepB zs r kj.2 o.2 with
          | true =>
            rw [hb] at hfl
            refine s_when (b := false) (et_is (et_not (et_B kk)) (by rw [hb] <;> rfl)) (fun h => nomatch h) fun _ H4 e4 => ⟨e3.trans e4, e4 _ _ hL, hfl, _, rfl⟩
          | false =>
            rw [hb] at hfl
            have hfl : (ks.drop (j + 1)).find? (fun o => !keepB zs r kj.2 o.2) = some o := hfl
            rw [hfl] at hf
            have hf : firstU zs r ks = some (kj, o) := hf
            rw [hf] at hw
            unfold DueR at k
            rw [hw] at k
            refine s_when (b := true) (et_is (et_not (et_B kk)) (by rw [hb] <;> rfl)) (fun _ H4 e4 => ?_) fun h => nomatch h
            have e04 := e3.trans e4
            refine ⟨_, rfl, _, rfl, sz_of (show 2 ≤ 100000 by decide), fun t5 ht5 => ?_⟩
            have e5 : Ex H4 (upd H4 t5 (.tup [.ref v, .str r.2])) := Ex.new ht5
            have h5 : (upd H4 t5 (.tup [.ref v, .str r.2])) t5 = some (.tup [.ref v, .str r.2]) := upd_same
            refine (ixj rfl rfl (e04.trans e5)) _ (Ex.refl _) _ fun H6 e6 => ⟨_, rfl, sz_of (show 3 ≤ 100000 by decide), fun pv hpv => ?_⟩
            have eN : Ex H6 (upd H6 pv (.tup [.ref t5, kj.1, o.1])) := Ex.new hpv
            exact k pv t5 _ (fresh_back ((e04.trans e5).trans e6) hpv) (((e04.trans e5).trans e6).trans eN) upd_same ⟨t5, v, rfl, eN _ _ (e6 _ _ h5), (((e04.trans e5).trans e6).trans eN) _ _ hv⟩
        · rintro L σ' H3 ⟨e3, hL, hfl, v6, rfl⟩
          rw [List.length_map, List.drop_length] at hfl
          rw [hfl] at hf
          exact ⟨e3, hf, _, _, rfl⟩
      · rintro σ' H2 ⟨e2, hf, v5, v6, rfl⟩
        rw [Int.toNat_natCast, List.drop_length] at hf
        rw [show firstU zs r [] = none from rfl] at hf
        rw [hf] at hw
        exact ⟨e2, hw, _, _, _, _, rfl⟩
    · rintro σ' H' ⟨e', hw, v3, v4, v5, v6, rfl⟩
      rw [List.drop_eq_nil_of_le (by omega)] at hw
      rw [show brokenU zs ks [] = none from rfl] at hw
      unfold DueR at k
      rw [hw] at k
      dsimp only
      exact s_ret ev_c fun H2 e2 => k H2 (e'.trans e2)
def sp__law_due_kept : Sp := fun vs H Q _ => ∃ (p q : Addr) (zs : List Str) (ks : List KR), vs = [.ref p, .ref q] ∧ H p = some (.lst (zs.map V.str)) ∧ RowsL H zs.length q ks ∧ NmG zs ∧ RetKp (dueK zs (ks.map (·.2))) H Q
theorem ok__law_due_kept (T : All K mg a d tk c ci di) : FnOk P w K mg base CX0 2 (a 26) (d 26) ["columns", "rows"] sp__law_due_kept := by
  refine T.F__law_due_kept.fn.ok sc__law_due_kept (fun vs H Q E h => ?_) (fun cdv A outer s H vs Q E hr h => ?_)
  · obtain ⟨p, q, zs, ks, rfl, _⟩ := h
    rfl
  · obtain ⟨p, q, zs, ks, rfl, hp, hR, G, k⟩ := h
    have nd := sc__law_due_kept.nd
    have hu0 := hr.units0
    have hu64 := hr.units
    have hu65 := hu65_of hr
    refine ⟨_, (pss_cons (ps_set (i := 2) nd rfl (Or.inl rfl) (pe_lst pa_nil))
 (pss_cons (ps_for PassesOwn.never rfl (pi_list (pv 0)) (pg_name (i := 3) nd rfl (Or.inr rfl))
 (pss_cons (ps_set (i := 4) nd rfl (Or.inl rfl) (pe_callB cr_sortedS (by rfl) T.n_sorted PyProof.Rows.boot_sorted (pa_cons (pe_lc (own := [("name", 7)]) (g := (gName 7)) rfl nd (pi_list (pv 0)) (blkOk_by (N := N__law_due_kept) (sc := defScope s__law_due_kept) (by decide +kernel)) (fun _ _ _ _ _ => (pg_name (i := 7) nd rfl (Or.inl rfl))) (fun _ _ _ _ _ => (pts_one (pt_cmpR op_ne (pv 7) (pv 3) (nomark _)))) (fun _ _ _ _ _ => (pv 7))) pa_nil)))
 (pss_cons (ps_setLc (i := 5) (own := [("left", 6)]) (g := (gName 6)) rfl nd rfl rfl (sw_true rfl rfl rfl (by decide +kernel)) (pi_list (pe_call (ok__law_subsets T) (hr.mono (by decide)) rfl T.F__law_subsets.m T.F__law_subsets.kp T.F__law_subsets.b .nil pass0 (pa_cons (pv 4) pa_nil))) (blkOk_by (N := N__law_due_kept) (sc := defScope s__law_due_kept) (by decide +kernel)) (fun _ _ _ _ _ => (pg_name (i := 6) nd rfl (Or.inl rfl))) (fun _ _ _ _ _ => (pts_one (pt_val (pe_call (ok__law_keep T) (hr.mono (by decide)) rfl T.F__law_keep.m T.F__law_keep.kp T.F__law_keep.b .nil pass0 (pa_cons (pv 0) (pa_cons (pe_lst (pa_cons (pe_tup (pa_cons (pv 6) (pa_cons (pv 3) pa_nil))) pa_nil)) (pa_cons (pv 1) pa_nil))))))) (fun _ _ _ _ _ => (pv 6)))
 (pss_one (ps_for PassesOwn.never rfl (pi_list (pv 5)) (pg_name (i := 6) nd rfl (Or.inr rfl))
 (pss_one (ps_if (pt_cmpR (op_eqNil hu0) (pe_lc (own := [("some", 8)]) (g := (gName 8)) rfl nd (pi_list (pv 5)) (blkOk_by (N := N__law_due_kept) (sc := defScope s__law_due_kept) (by decide +kernel)) (fun _ _ _ _ _ => (pg_name (i := 8) nd rfl (Or.inl rfl))) (fun _ _ _ _ _ => (pts_one (PW.pt (pw_and (pt_cmpR (show OpR _ (compareOp .NotEq) (rNeD K) from (op_neD hu64)) (pv 8) (pv 6) (nomark _)) (pw_and1 (pt_cmpR (show OpR _ (compareOp .Eq) (rNilEq K false) from (op_eqNil hu0)) (pe_lc (own := [("name", 7)]) (g := (gName 7)) rfl nd (pi_listK (K := K) rfl (pv 8)) (blkOk_by (N := N__law_due_kept) (sc := relS _ (defScope s__law_due_kept)) (by decide +kernel)) (fun _ _ _ _ _ => (pg_name (i := 7) nd rfl (Or.inl rfl))) (fun _ _ _ _ _ => (pts_one (pt_cmpR (show OpR _ (compareOp .NotIn) (rNotInD K) from (op_notInD hu65)) (pv 7) (pv 6) rfl))) (fun _ _ _ _ _ => (pv 7))) (pe_lst pa_nil) (nomark _))))))) (fun _ _ _ _ _ => (pv 8))) (pe_lst pa_nil) (nomark _))
 (pss_one (ps_expr (pe_bm PySem.F.plainAttrs_list PySem.F.slot_list_append PySem.F.type_list_append mt_append (pv 2) (pa_cons (pe_tup (pa_cons (pv 6) (pa_cons (pv 3) pa_nil))) pa_nil))))
 pss_nil)))))))
 (pss_one (ps_ret (pe_callB (cr_sortedD hu64) (by rfl) T.n_sorted PyProof.Rows.boot_sorted (pa_cons (pv 2) pa_nil)))))), ?_⟩
    have lz : (zs.map V.str).length = zs.length := List.length_map ..
    refine q_asgL (el_lst ea_nil (by decide)) fun f H1 hf e1 h1 => ?_
    let Po : Nat → L2.St → Hp → Prop := fun i σ' H' => Ex H H' ∧ (∃ us, H' f = some (.lst us) ∧ Paired (PairS (· ≠ f) H') us ((zs.take i).flatMap (dueFor zs (ks.map (·.2)))) ∧ us.length ≤ 40 * i) ∧ ∃ v3 v4 v5 v6 v7 v8, σ' = [some (.ref p), some (.ref q), some (.ref f), v3, v4, v5, v6, v7, v8]
    refine q_forLn (K := K) (ev_var (i := 0) rfl) (sq_of (e1 _ _ hp)) Po (fun H2 e2 => ⟨e1.trans e2, ⟨[], e2 _ _ h1, .nil, Nat.zero_le _⟩, _, _, _, _, _, _, rfl⟩) (fun i σ' H' _ z => sq_of (z.1 _ _ hp)) ?_ ?_
    · rintro i x σ' H2 hi ⟨e2, ⟨us, hus, hpp, hlu⟩, v3, v4, v5, v6, v7, v8, rfl⟩
      rw [List.getElem?_map, Option.map_eq_some_iff] at hi
      obtain ⟨z, hzi, rfl⟩ := hi
      have hzm : z ∈ zs := List.mem_of_getElem? hzi
      have hi5 : i < 5 := by have := (List.getElem?_eq_some_iff.mp hzi).1; have := G.l5; omega
      have l5o : (othersOf zs z).length ≤ 5 := Nat.le_trans others_len G.l5
      have comp : EvL (tLc (iList K (tVar 0)) (gName 7) (tTest (tOp rNe (tVar 7) (tVar 3))) (tVar 7) [7]) [some (.ref p), some (.ref q), some (.ref f), some (.str z), v4, v5, v6, v7, v8] H2 ((othersOf zs z).map V.str) := by
        have z0 := el_lcLf (K := K) (t := tTest (tOp rNe (tVar 7) (tVar 3))) (te := tVar 7) (σ := [some (.ref p), some (.ref q), some (.ref f), some (.str z), v4, v5, v6, v7, v8]) (j := 7) (vs := [7]) (fun x => !decide (x = V.str z)) id (ev_var (i := 0) rfl) (e2 _ _ hp) (by rw [lz]; have := G.l5; omega) (fun _ => rfl) (fun x H6 e6 hm => by
          obtain ⟨y, _, rfl⟩ := List.mem_map.mp hm
          exact et_test (ev_op (ev_var (i := 7) rfl) (ev_var (i := 3) rfl) (rv_ne rfl))) fun x H6 e6 _ _ => ev_var rfl
        have ez : (othersOf zs z).map V.str = ((zs.map V.str).filter fun x => !decide (x = V.str z)).map id := by
          unfold othersOf
          rw [List.map_id, List.filter_map]
          congr 1
          refine List.filter_congr fun y _ => ?_
          show _ = !decide (V.str y = V.str z)
          congr 1
          exact decide_eq_decide.mpr ⟨fun h => by rw [h], fun h => by injection h⟩
        rw [ez]
        exact z0
      refine q_asgL (el_sortedSL (K := K) comp (by omega)) fun o H3 ho e3 h3 => ?_
      have e13 := e2.trans e3
      have l5s : (srtS (othersOf zs z)).length ≤ 5 := by rw [srtS_len]; exact l5o
      have c1 : EvSn (tCall sp__law_subsets [] E0 (tCons (tVar 4) tNil)) [some (.ref p), some (.ref q), some (.ref f), some (.str z), some (.ref o), v5, v6, v7, v8] H3 (lawS (srtS (othersOf zs z))) := fun H4 e4 Q4 q4 => ⟨_, rfl, o, _, rfl, e4 _ _ h3, l5s, q4⟩
      refine q_asgSn (es_lcCn (K := K) (j := 6) (vs := [6]) c1 (by have := lawS_len l5s; omega) (fun _ => rfl) (fun _ => rfl) (fun s => decide (KFd zs (s, z) (ks.map (·.2)))) fun x s H4 e4 hs hx => ?_) fun hd us2 H4 hhd e4 g4 pp4 => ?_
      · obtain ⟨sx, rfl, hsx⟩ := hx
        have hm := lefts_mem (z := z) G.l5 G.nd (ordD_mem.mpr ((lawS_perm l5s).mem_iff.mp hs))
        exact et_B (ev_keepP (tc := tVar 0) (i3 := 6) (i4 := 3) (p := p) (v := sx) (zs := zs) (left := s) (z := z) (ks := ks) (ev_var rfl) ((e13.trans e4) _ _ hp) rfl hsx rfl ((hR.ex (e13.trans e4)).v (i := 1) rfl) G ⟨fun y hy => (hm.1 y hy).1, hzm, by have := hm.2.2; show s.length ≤ 100; omega⟩)
      · have pp4 : Paired (SLS (fun a => H3 a = none) H4) us2 (heldOf zs (ks.map (·.2)) z) := pp4
        have lh := held_len (ws := ks.map (·.2)) (z := z) G.l5
        have e14 := e13.trans e4
        have hus3 : H3 f = some (.lst us) := e3 _ _ hus
        have hus4 : H4 f = some (.lst us) := e4 _ _ hus3
        have lu2 := Paired.length pp4
        have hfH : H f = none := hf
        let q0 : List Str → Bool := fun s => !((heldOf zs (ks.map (·.2)) z).any fun o => !decide (o = s) && allIn o s)
        let Pi : Nat → L2.St → Hp → Prop := fun j σ' H' => Ex H H' ∧ H' hd = some (.lst us2) ∧ Paired (SLS (· ≠ f) H') us2 (heldOf zs (ks.map (·.2)) z) ∧ (∃ us', H' f = some (.lst us') ∧ Paired (PairS (· ≠ f) H') us' ((zs.take i).flatMap (dueFor zs (ks.map (·.2))) ++ (((heldOf zs (ks.map (·.2)) z).take j).filter q0).map fun l => (l, z)) ∧ us'.length ≤ 40 * i + j) ∧ ∃ v6 v7 v8, σ' = [some (.ref p), some (.ref q), some (.ref f), some (.str z), some (.ref o), some (.ref hd), v6, v7, v8]
        have nhf : hd ≠ f := fun q => by rw [q, hus3] at hhd; cases hhd
        have memH : ∀ {s : List Str}, s ∈ heldOf zs (ks.map (·.2)) z → (∀ y ∈ s, PyData.strOk y = true) ∧ s.length ≤ 5 := fun {s} hs => ⟨fun y hy => G.ok y ((held_mem G hs).1 y hy).1, (held_mem G hs).2.2⟩
        have slf : ∀ {H5 : Hp}, Ex H4 H5 → Paired (SLS (· ≠ f) H5) us2 (heldOf zs (ks.map (·.2)) z) := fun e5 => Paired.imp (fun _ _ w => mv_SL _ _ _ _ _ _ w fun a o s ha => ⟨(fun q => by rw [q, hus3] at s; cases s), e5 _ _ ha⟩) pp4
        refine s_forLn (K := K) (ev_var (i := 5) rfl) (sq_of g4) Pi (fun H5 e5 => ⟨e14.trans e5, e5 _ _ g4, slf e5, ⟨us, e5 _ _ hus4, ?_, by omega⟩, _, _, _, rfl⟩) (fun j σ' H' _ z => sq_of z.2.1) ?_ ?_
        · rw [List.take_zero, List.filter_nil, List.map_nil, List.append_nil]
          exact Paired.imp (fun _ _ w => w.ex ((e3.trans e4).trans e5)) hpp
        · rintro j u σ' H5 hu ⟨e5, hhd5, hsl, ⟨us', hus5, hp5, hl5⟩, v6, v7, v8, rfl⟩
          obtain ⟨s, hsj, v, rfl, nvf, hv⟩ := Paired.at_l hsl j u hu
          have hsm := List.mem_of_getElem? hsj
          obtain ⟨o1, o2⟩ := memH hsm
          have hjl := (List.getElem?_eq_some_iff.mp hsj).1
          have i1 := es_lcV (K := K) (σ := [some (.ref p), some (.ref q), some (.ref f), some (.str z), some (.ref o), some (.ref hd), some (.ref v), v7, v8]) (H := H5) (j := 8) (vs := [8]) (t := tAnd (tTest (tOp (rNeD K) (tVar 8) (tVar 6))) (tTest (tOp (rNilEq K false) (tLc (iList K (tVar 8)) (gName 7) (tTest (tOp (rNotInD K) (tVar 7) (tVar 6))) (tVar 7) [7]) (tLst tNil)))) (ev_var (i := 5) rfl) hhd5 (Paired.imp (fun _ _ w => w.sl) hsl) (by omega) (fun _ => rfl) (fun _ => rfl) (fun o => !decide (o = s) && allIn o s) fun y o' H6 e6 ho hy => by
            obtain ⟨b1, b2⟩ := memH ho
            obtain ⟨oy, rfl, hoy⟩ := hy
            exact et_and (et_test (ev_op (ev_var (i := 8) rfl) (ev_var (i := 6) rfl) (rv_neL ⟨oy, rfl, hoy⟩ ⟨v, rfl, e6 _ _ hv⟩ b1 o1 decide_eq_true_iff))) fun _ => et_test (ev_subNil (K := K) (j := 7) (vs := [7]) (ev_var (i := 8) rfl) hoy (e6 _ _ hv) (by omega) b1 o1 (fun _ => rfl) (fun _ => rfl) fun x H7 e7 => ev_var (i := 6) rfl)
          have i2 := ev_eqNilSL (K := K) i1
          rw [isEmpty_filter] at i2
          have i2 : Ev _ _ _ (.bl (q0 s)) := i2
          have htk : (heldOf zs (ks.map (·.2)) z).take (j + 1) = (heldOf zs (ks.map (·.2)) z).take j ++ [s] := by rw [List.take_succ, hsj] <;> rfl
          cases hb : q0 s with
          | false =>
            refine s_when (b := false) (et_is (et_test i2) hb) (fun h => nomatch h) fun _ H6 e6 => ?_
            refine ⟨e5.trans e6, e6 _ _ hhd5, Paired.imp (fun _ _ w => mv_SL _ _ _ _ _ _ w fun a o s ha => ⟨s, e6 _ _ ha⟩) hsl, ⟨us', e6 _ _ hus5, ?_, by omega⟩, _, _, _, rfl⟩
            rw [htk, List.filter_append, List.filter_cons, if_neg (by rw [hb]; exact Bool.false_ne_true), List.filter_nil, List.append_nil]
            exact Paired.imp (fun _ _ w => w.ex e6) hp5
          | true =>
            refine s_when (b := true) (et_is (et_test i2) hb) (fun _ H6 e6 => ?_) fun h => nomatch h
            refine s_appU (e6 _ _ hus5) (ev_var (i := 2) rfl) (eu_tup (ea_cons (ev_var (i := 6) rfl) (ea_cons (ev_var (i := 3) rfl) ea_nil)) (by simp)) (by omega) fun tp H7 htp e7 h7 => ?_
            have e67 := e6.trans e7
            have ntf : tp ≠ f := fun q => by rw [q, e6 _ _ hus5] at htp; cases htp
            have mvf : ∀ (y : Addr) (o : HO), y ≠ f → H5 y = some o → y ≠ f ∧ upd H7 f (.lst (us' ++ [.ref tp])) y = some o := fun y o n h => ⟨n, by rw [upd_ne n]; exact e67 _ _ h⟩
            refine ⟨Ex.mut (e5.trans e67) hfH, by rw [upd_ne nhf]; exact e67 _ _ hhd5, Paired.imp (fun _ _ w => mv_SL _ _ _ _ _ _ w mvf) hsl, ⟨us' ++ [.ref tp], upd_same, ?_, by rw [List.length_append, List.length_singleton]; omega⟩, _, _, _, rfl⟩
            rw [htk, List.filter_append, List.filter_cons, if_pos hb, List.filter_nil, List.map_append, ← List.append_assoc]
            exact Paired.append (Paired.imp (fun _ _ w => w.mv mvf) hp5) (.cons ⟨tp, v, rfl, ntf, nvf, by rw [upd_ne ntf]; exact h7, (mvf _ _ nvf hv).2⟩ .nil)
        · rintro σ' H5 ⟨e5, hhd5, hsl, ⟨us', hus5, hp5, hl5⟩, v6, v7, v8, rfl⟩
          rw [lu2, List.take_length] at hp5
          refine ⟨e5, ⟨us', hus5, ?_, by omega⟩, _, _, _, _, _, _, rfl⟩
          rw [List.take_succ, hzi, List.flatMap_append]
          show Paired _ us' (_ ++ [z].flatMap (dueFor zs (ks.map (·.2))))
          rw [List.flatMap_singleton]
          exact hp5
    · rintro σ' H2 ⟨e2, ⟨us, hus, hpp, hlu⟩, v3, v4, v5, v6, v7, v8, rfl⟩
      rw [lz, List.take_length] at hpp
      refine ⟨_, rfl, ?_⟩
      dsimp only [tNil]
      refine sortD_use encP (sq_of hus) (Paired.imp (fun _ _ z => z.at'.dp) hpp) alikeP (sortP _) depthP fun us2 hF pm m2 hm2 => ?_
      have eN : Ex H2 (upd H2 m2 (.lst us2)) := Ex.new hm2
      exact k m2 us2 _ (fresh_back e2 hm2) (e2.trans eN) upd_same (Paired.imp (fun _ _ w => (w.ex eN).at') (hF _ hpp))
end
end Mv
/-! _law_told. -/
namespace Mv
open PySem PySem.Spec PyProof.Rows L2 Evl
section
variable {P : Program} {w : World} {K : PySem.W.Frag} {mg : Str → Option Value} {base : Heap} {a : Nat → Addr} {d : Nat → FuncData} {tk : Nat → Tok} {c ci : Nat → Addr} {di : Nat → FuncData}
theorem BrkR.imp {zs : List Str} {rs : List Pr} {ks : List KR} {H H' : Hp} {Q Q' : VK} (h : BrkR zs rs ks H Q) (e : Ex H H') (g : ∀ v H2, Ex H' H2 → Q v H2 → Q' v H2) : BrkR zs rs ks H' Q' := by
  unfold BrkR at h ⊢
  cases hb : brokenU zs ks rs with
  | none =>
    rw [hb] at h
    exact fun H2 e2 => g _ _ e2 (h H2 (e.trans e2))
  | some t =>
    obtain ⟨r, k, o⟩ := t
    rw [hb] at h
    exact fun p t v H2 hp ht hv e2 h1 h2 h3 => g _ _ e2 (h.ex e p t v H2 hp ht hv e2 h1 h2 h3)
theorem BrkO.imp {zs : List Str} {rs : List Pr} {x : V} {H H' : Hp} {Q Q' : VK} {E E' : XK} (h : BrkO K c zs rs x H Q E) (e : Ex H H') (f : ∀ cls od H2, E cls od H2 → E' cls od H2) (g : ∀ v H2, Ex H' H2 → Q v H2 → Q' v H2) : BrkO K c zs rs x H' Q' E' := by
  cases h with
  | bad h r => exact .bad (h.ex e) ((r.ex e).impE f)
  | good q ks e1 hg k => exact .good q ks e1 (hg.ex e) (k.imp e g)
theorem AkO.imp {x y : V} {H H' : Hp} {Q Q' : VK} {E E' : XK} (h : AkO K c x y H Q E) (e : Ex H H') (f : ∀ cls od H2, E cls od H2 → E' cls od H2) (g : ∀ v H2, Ex H' H2 → Q v H2 → Q' v H2) : AkO K c x y H' Q' E' := by
  cases h with
  | cols o hx h => exact .cols o (hx.ex e) (colsO_impE (colsO_ex h e fun _ _ z => z) f)
  | bad q zs e1 hs l1 l5 hz nd hy r => exact .bad q zs e1 (hs.ex e) l1 l5 hz nd (hy.ex e) ((r.ex e).impE f)
  | good q t zs ks e1 e2 hs l1 l5 hz nd hg k => exact .good q t zs ks e1 e2 (hs.ex e) l1 l5 hz nd (hg.ex e) fun p us H2 hp e2 h2 h3 => g _ _ e2 (k.ex e p us H2 hp e2 h2 h3)
inductive ToldK (K : PySem.W.Frag) (c : Nat → Addr) (z : Str) (x y : V) (H : Hp) (Q : VK) : Prop
  | brk (p : Addr) (zs : List Str) (rs : List Pr) (e : z = "broken") (e2 : x = .ref p) (hD : DepR (c 9) H p zs rs) (G : DG zs rs) (h : BrkO K c zs rs y H (fun v H2 => RetT "told" v H2 Q) (tE c Q))
  | kept (e : z = "kept") (h : AkO K c x y H (fun v H2 => RetT "told" v H2 Q) (tE c Q))
def sp__law_told (K : PySem.W.Frag) (c : Nat → Addr) : Sp := fun vs H Q _ => ∃ (z : Str) (x y : V) (b : Bool), vs = [.str z, x, y, .bl b] ∧ ToldK K c z x y H Q
theorem ok__law_told (T : All K mg a d tk c ci di) : FnOk P w K mg base CX0 10 (a 24) (d 24) ["word", "thing", "rows", "by_name"] (sp__law_told K c) := by
  refine T.F__law_told.fn.ok sc__law_told (fun vs H Q E h => ?_) (fun cdv A outer s H vs Q E hr h => ?_)
  · obtain ⟨z, x, y, b, rfl, _⟩ := h
    rfl
  · obtain ⟨z, x, y, b, rfl, h⟩ := h
    have nd := sc__law_told.nd
    refine ⟨_, (pss_one (ps_try_as2 rfl rfl takes_none5 (fun W pn xe tkW _ => (pss_cons (ps_if (pt_cmpR op_eq (pv 0) pe_str (nomark _))
 (pss_one (ps_ret (pe_lst (pa_cons pe_str (pa_cons (pe_ifExp (pt_val (pv 3)) (pe_methKS (pv 1) T.C_Dependencies T.R_Dependencies_broken (ok_Dependencies_broken T) (hr.mono (by decide)) T.K_Dependencies_broken (fun σ => passAt tkW σ) (pk_cons (pv 2) pk_nil)) (pe_methS' (pv 1) T.C_Dependencies T.R_Dependencies_broken (ok_Dependencies_broken T) (hr.mono (by decide)) T.F_Dependencies_broken.b (fun σ => passAt tkW σ) (pa_cons (pv 2) pa_nil))) pa_nil)))))
 pss_nil)
 (pss_one (ps_ret (pe_lst (pa_cons pe_str (pa_cons (pe_ifExp (pt_val (pv 3)) (pe_callKS (ok_all_kept T) (hr.mono (by decide)) rfl T.F_all_kept.m T.F_all_kept.kp T.K_all_kept (fun σ => passAt tkW σ) (pk_cons (pv 2) (pk_cons (pv 1) pk_nil))) (pe_callS (ok_all_kept T) (hr.mono (by decide)) rfl T.F_all_kept.m T.F_all_kept.kp T.F_all_kept.b (fun σ => passAt tkW σ) (pa_cons (pv 1) (pa_cons (pv 2) pa_nil)))) pa_nil)))))))
 (.as (i := 4) nd rfl rfl ⟨rfl, by decide, .inl T.X_InvalidRows.m⟩ (fun a0 oe cls d0 pn hz hf => (pss_one (ps_ret (pe_lst (pa_cons (pe_ifExp (pt_val (pe_callB (call_isX hz hf) (by rfl) T.n_isinstance PyProof.Rows.boot_isinstance (pa_cons (pv 4) (pa_cons (pe_glob (v := .ref (c 7)) rfl T.B_SearchError.m rfl) pa_nil)))) pe_str pe_str) (pa_cons (pe_xg hz hf (pv 4)) pa_nil))))))
 (.as (i := 4) nd rfl rfl ⟨rfl, by decide, .inl T.X_InvalidColumns.m⟩ (fun a0 oe cls d0 pn hz hf => (pss_one (ps_ret (pe_lst (pa_cons pe_str (pa_cons (pe_xg hz hf (pv 4)) pa_nil))))))
 (.as (i := 4) nd rfl rfl ⟨rfl, by decide, .inl T.X_InvalidName.m⟩ (fun a0 oe cls d0 pn hz hf => (pss_one (ps_ret (pe_lst (pa_cons pe_str (pa_cons (pe_xg hz hf (pv 4)) pa_nil))))))
 (.as (i := 4) nd rfl rfl ⟨rfl, by decide, .inl T.X_DuplicateName.m⟩ (fun a0 oe cls d0 pn hz hf => (pss_one (ps_ret (pe_lst (pa_cons pe_str (pa_cons (pe_xg hz hf (pv 4)) pa_nil))))))
 .nil)))))), ?_⟩
    have wrap : ∀ {v : V} {H1 : Hp}, RetT "told" v H1 Q → ([V.str "told", v] : List V).length ≤ sizeLine ∧ ∀ p, H1 p = none → Q (.ref p) (upd H1 p (.lst [.str "told", v])) := fun k => ⟨sz_of (show 2 ≤ 100000 by decide), fun p hp => k p _ hp (Ex.new hp) upd_same⟩
    cases h with
    | brk p zs rs e e2 hD G h =>
      subst e e2
      have hD0 := hD
      obtain ⟨dx, l, m, us, h1, h2, h3, h4⟩ := hD0
      have lk : (flD l m).lookup ("broken" : Str) = none := flD_no (by decide +kernel) (by decide +kernel)
      refine q_when (b := true) (et_is (et_test (ev_op (ev_var (i := 0) rfl) ev_c (rv_eq rfl))) (decide_eq_true rfl)) (fun _ H1 e1 => ?_) fun h => nomatch h
      refine s_told (et_B (ev_var (i := 3) rfl)) (fun hb H2 e2 => ?_) fun hb H2 e2 => ?_
      · have e12 := e1.trans e2
        exact ⟨_, rfl, p, dx, _, rfl, e12 _ _ h1, lk, _, rfl, rfl, p, zs, rs, y, rfl, hD.mono e12, G, h.imp e12 (fun cls od H6 t => told_catch T t) fun v H6 _ k => wrap k⟩
      · have e12 := e1.trans e2
        exact ⟨_, rfl, p, dx, _, rfl, e12 _ _ h1, lk, _, rfl, p, zs, rs, y, rfl, hD.mono e12, G, h.imp e12 (fun cls od H6 t => told_catch T t) fun v H6 _ k => wrap k⟩
    | kept e h =>
      subst e
      refine q_when (b := false) (et_is (et_test (ev_op (ev_var (i := 0) rfl) ev_c (rv_eq rfl))) (by decide +kernel)) (fun h => nomatch h) fun _ H1 e1 => ?_
      refine s_told (et_B (ev_var (i := 3) rfl)) (fun hb H2 e2 => ?_) fun hb H2 e2 => ?_
      · have e12 := e1.trans e2
        exact ⟨_, rfl, _, rfl, rfl, x, y, rfl, h.imp e12 (fun cls od H6 t => told_catch T t) fun v H6 _ k => wrap k⟩
      · have e12 := e1.trans e2
        exact ⟨_, rfl, _, rfl, x, y, rfl, h.imp e12 (fun cls od H6 t => told_catch T t) fun v H6 _ k => wrap k⟩
end
end Mv
/-! Rows as the law draws them. -/
namespace Mv
open PySem PySem.Spec PyProof.Rows L2 Evl
def rd (r : List Int) : PyData := .tuple (r.map PyData.int)
theorem lay_ints : ∀ r : List Int, PyData.canLayAll0 (r.map PyData.int) = true
  | [] => rfl
  | i :: r => by
    rw [List.map_cons, PyData.canLayAll0, lay_ints r] <;> rfl
theorem lay_rows : ∀ rs : List (List Int), PyData.canLayAll0 (rs.map rd) = true
  | [] => rfl
  | r :: rs => by
    rw [List.map_cons, PyData.canLayAll0, lay_rows rs]
    unfold rd
    rw [PyData.canLay0, lay_ints] <;> rfl
theorem deep_ints : ∀ r : List Int, PyData.depthAll (r.map PyData.int) ≤ 2
  | [] => by simp [PyData.depthAll]
  | i :: r => by
    have := deep_ints r
    simp only [List.map_cons, PyData.depthAll, PyData.depth]
    omega
theorem deep_row (r : List Int) : (rd r).depth ≤ 3 := by
  have := deep_ints r
  unfold rd
  simp only [PyData.depth]
  omega
theorem deep_rows : ∀ rs : List (List Int), PyData.depthAll (rs.map rd) ≤ 3
  | [] => by simp [PyData.depthAll]
  | r :: rs => by
    have := deep_rows rs
    have := deep_row r
    simp only [List.map_cons, PyData.depthAll]
    omega
theorem shaped_row (r : List Int) : SeqAt.shaped (rd r) = true := by
  have := deep_row r
  unfold SeqAt.shaped
  have e : (rd r).canLay0 = true := by
    unfold rd
    rw [PyData.canLay0, lay_ints]
  rw [e, decide_eq_true (by omega)] <;> rfl
theorem shaped_rows (rs : List (List Int)) : SeqAt.shaped (.list (rs.map rd)) = true := by
  have := deep_rows rs
  unfold SeqAt.shaped
  have e : (PyData.list (rs.map rd)).canLay0 = true := by rw [PyData.canLay0, lay_rows]
  have e2 : (PyData.list (rs.map rd)).depth ≤ 64 := by
    simp only [PyData.depth]
    omega
  rw [e, decide_eq_true e2] <;> rfl
theorem eqv_ints : ∀ r q : List Int, PyData.eqvAll (r.map PyData.int) (q.map PyData.int) = decide (r = q)
  | [], [] => by simp [PyData.eqvAll]
  | [], _ :: _ => by simp [PyData.eqvAll]
  | _ :: _, [] => by simp [PyData.eqvAll]
  | i :: r, j :: q => by
    rw [List.map_cons, List.map_cons, PyData.eqvAll, eqv_ints r q, PyData.eqv]
    by_cases h : i = j
    · by_cases h2 : r = q <;> simp [h, h2]
    · simp [h]
theorem eqv_row (r q : List Int) : PyData.eqv (rd r) (rd q) = decide (r = q) := by
  unfold rd
  rw [PyData.eqv, eqv_ints]
section
variable {K : PySem.W.Frag} {H : Hp}
theorem dp_ints : ∀ r : List Int, DpAll K H (r.map V.int) (r.map PyData.int)
  | [] => .nil
  | i :: r => .cons (.int i) (dp_ints r)
theorem IsRow.dp {x : V} {r : List Int} (h : IsRow H x r) : Dp K H x (rd r) := by
  obtain ⟨b, rfl, hb⟩ := h
  exact .tup (st_of hb) (dp_ints r)
theorem dp_rows : ∀ {xs : List V} {rs : List (List Int)}, Paired (IsRow H) xs rs → DpAll K H xs (rs.map rd)
  | _, _, .nil => .nil
  | _, _, .cons h t => .cons h.dp (dp_rows t)
end
theorem IsRow.exB {H H' : Hp} {p : Addr} {n : Nat} {x : V} {r : List Int} (h : IsRow H x r) (hb : BoxAt H p n) (e : ExB p H H') : IsRow H' x r := by
  obtain ⟨b, rfl, h1⟩ := h
  obtain ⟨_, _, _, _, h2, _⟩ := hb
  exact ⟨b, rfl, e _ _ (fun z => by rw [z, h2] at h1; cases h1) h1⟩
section
variable {K : PySem.W.Frag} {σ : L2.St} {H H' : Hp} {ta tb tc te tl tx : TE} {x y z v : V}
/-- a new list of two new lists -/
theorem el_cat {xs ys : List V} (ha : EvL ta σ H xs) (hb : EvL tb σ H ys) (hz : xs.length + ys.length ≤ 100000) : EvL (tOp rCat ta tb) σ H (xs ++ ys) := fun H1 e Q q =>
  ha H1 e _ fun p1 H2 hp1 e2 h1 => hb H2 (e.trans e2) _ fun p2 H3 hp2 e3 h2 => ⟨p1, p2, xs, ys, rfl, rfl, e3 _ _ h1, h2, sz_of hz, fun p hp => q p _ (fresh_back (e2.trans e3) hp) ((e2.trans e3).trans (Ex.new hp)) upd_same⟩
/-- a row in a list of rows -/
theorem rv_inRows {f : Addr} {ys : List V} {rs : List (List Int)} {r : List Int} (hf : H f = some (.lst ys)) (hp : Paired (IsRow H) ys rs) (hx : IsRow H x r) : RV (rInD K) x (.ref f) H (.bl (decide (r ∈ rs))) := fun H1 e Q q => by
  refine ⟨rd r, rs.map rd, (hx.ex e).dp, .lst (sq_of (e _ _ hf)) (dp_rows (Paired.imp (fun _ _ h => h.ex e) hp)), shaped_row r, shaped_rows rs, ?_⟩
  have ee : ((rs.map rd).any fun z => PyData.eqv z (rd r)) = decide (r ∈ rs) := by
    rw [List.any_map, Bool.eq_iff_iff, List.any_eq_true, decide_eq_true_eq]
    constructor
    · rintro ⟨q, hq, e⟩
      have e : PyData.eqv (rd q) (rd r) = true := e
      rw [eqv_row] at e
      rw [← of_decide_eq_true e]
      exact hq
    · intro h
      exact ⟨r, h, by show PyData.eqv (rd r) (rd r) = true; rw [eqv_row, decide_eq_true rfl]⟩
  rw [ee]
  exact q H1 (Ex.refl H1)
theorem rv_ninRows {f : Addr} {ys : List V} {rs : List (List Int)} {r : List Int} (hf : H f = some (.lst ys)) (hp : Paired (IsRow H) ys rs) (hx : IsRow H x r) : RV (rNotInD K) x (.ref f) H (.bl (!decide (r ∈ rs))) := fun H1 e Q q => by
  refine ⟨rd r, rs.map rd, (hx.ex e).dp, .lst (sq_of (e _ _ hf)) (dp_rows (Paired.imp (fun _ _ h => h.ex e) hp)), shaped_row r, shaped_rows rs, ?_⟩
  have ee : ((rs.map rd).any fun z => PyData.eqv z (rd r)) = decide (r ∈ rs) := by
    rw [List.any_map, Bool.eq_iff_iff, List.any_eq_true, decide_eq_true_eq]
    constructor
    · rintro ⟨q, hq, e⟩
      have e : PyData.eqv (rd q) (rd r) = true := e
      rw [eqv_row] at e
      rw [← of_decide_eq_true e]
      exact hq
    · intro h
      exact ⟨r, h, by show PyData.eqv (rd r) (rd r) = true; rw [eqv_row, decide_eq_true rfl]⟩
  rw [ee]
  exact q H1 (Ex.refl H1)
end
section
variable {P : Program} {w : World} {K : PySem.W.Frag} {mg : Str → Option Value} {base : Heap} {a : Nat → Addr} {d : Nat → FuncData} {tk : Nat → Tok} {c ci : Nat → Addr} {di : Nat → FuncData}
/-- rows as they are drawn: a list -/
structure DrawR (H : Hp) (n : Nat) (q : Addr) (ks : List KR) : Prop where
  hs : H q = some (.lst (ks.map (·.1)))
  row : ∀ k ∈ ks, IsRow H k.1 k.2
  ok : ∀ k ∈ ks, OkRow n k.2
  nd : (ks.map (·.2)).Nodup
  few : ks.length ≤ 11
theorem DrawR.good {H : Hp} {n : Nat} {q : Addr} {ks : List KR} (h : DrawR H n q ks) : GoodR H n q ks := ⟨.inl h.hs, h.row, h.ok, h.nd, by have := h.few; omega⟩
theorem DrawR.law {H : Hp} {n : Nat} {q : Addr} {ks : List KR} (h : DrawR H n q ks) : RowsL H n q ks := ⟨h.hs, fun k hk => ⟨h.row k hk, (h.ok k hk).1⟩, by have := h.few; omega⟩
theorem DrawR.ex {H H' : Hp} {n : Nat} {q : Addr} {ks : List KR} (h : DrawR H n q ks) (e : Ex H H') : DrawR H' n q ks := ⟨e _ _ h.hs, fun k hk => (h.row k hk).ex e, h.ok, h.nd, h.few⟩
/-- a digit within a bound, by draws -/
def DrI (te : TE) (b : Addr) (σ : L2.St) (H : Hp) (n m : Nat) : Prop := ∀ Q : VK, (∀ (x : Int) (H2 : Hp), 0 ≤ x → x ≤ 999 → ExB b H H2 → BoxAt H2 b (n + m) → Q (.int x) H2) → te σ H Q
/-- [a drawn number for x in xs] -/
theorem lc_draws {σ : L2.St} {H : Hp} {b p : Addr} {xs : List V} {te : TE} {i0 j n m : Nat} {Q : VK} (hσ : σ[i0]? = some (some (.ref p))) (hp : H p = some (.lst xs)) (np : p ≠ b) (l5 : xs.length ≤ 5) (hB : BoxAt H b n) (hw : ∀ x, wipe ((wipe σ [j]).set j (some x)) [j] = wipe σ [j])
    (he : ∀ (i : Nat) (x : V) (H1 : Hp), i < 5 → ExB b H H1 → BoxAt H1 b (n + m * i) → DrI te b ((wipe σ [j]).set j (some x)) H1 (n + m * i) m)
    (k : ∀ (l : Addr) (is : List Int) (H2 : Hp), H l = none → ExB b H H2 → BoxAt H2 b (n + m * xs.length) → H2 l = some (.lst (is.map V.int)) → is.length = xs.length → (∀ x ∈ is, 0 ≤ x ∧ x ≤ 999) → Q (.ref l) H2) : tLc (iList K (tVar i0)) (gName j) tYes te [j] σ H Q := by
  refine ⟨_, hσ, p, rfl, ⟨xs, sq_of hp⟩, fun Dl hD => ?_⟩
  have bD : b ≠ Dl := hB.ne hD
  refine lc_list (xs := xs) (fun i H' => ExB b H H' ∧ BoxAt H' b (n + m * i) ∧ ∃ is : List Int, H' Dl = some (.lst (is.map V.int)) ∧ is.length = i ∧ ∀ x ∈ is, 0 ≤ x ∧ x ≤ 999) ⟨Ex.b (Ex.new hD), hB.upd bD, [], upd_same, rfl, fun x h => (by cases h)⟩ (fun i H' _ q => sq_of (q.1 _ _ np hp)) ?_ ?_
  · rintro i x H1 hi ⟨e1, hB1, is, g1, g2, g3⟩
    have hil := (List.getElem?_eq_some_iff.mp hi).1
    refine ⟨hw x, yes_go ?_⟩
    refine he i x H1 (by omega) e1 hB1 _ fun y H2 y0 y1 e2 hB2 => ?_
    have g7 : H2 Dl = some (.lst (is.map V.int)) := e2 _ _ (Ne.symm bD) g1
    refine ⟨_, g7, Nat.lt_of_le_of_lt (by rw [List.length_map, g2]; omega) (show 1000 < sizeLine by decide), (e1.trans e2).mut hD, (hB2.upd bD).mono (by rw [Nat.mul_add]; omega), is ++ [y], by rw [upd_same, List.map_append] <;> rfl, by rw [List.length_append, g2] <;> rfl, fun x hx => ?_⟩
    rcases List.mem_append.mp hx with hx | hx
    · exact g3 x hx
    · rw [List.mem_singleton.mp hx]
      exact ⟨y0, y1⟩
  · rintro H1 ⟨e1, hB1, is, g1, g2, g3⟩
    exact k Dl is H1 hD e1 hB1 g1 g2 g3
/-- a row that is drawn -/
theorem tup_draws {σ : L2.St} {H : Hp} {b p : Addr} {xs : List V} {te : TE} {i0 j n m : Nat} {Q : VK} (hσ : σ[i0]? = some (some (.ref p))) (hp : H p = some (.lst xs)) (np : p ≠ b) (l5 : xs.length ≤ 5) (hB : BoxAt H b n) (hw : ∀ x, wipe ((wipe σ [j]).set j (some x)) [j] = wipe σ [j])
    (he : ∀ (i : Nat) (x : V) (H1 : Hp), i < 5 → ExB b H H1 → BoxAt H1 b (n + m * i) → DrI te b ((wipe σ [j]).set j (some x)) H1 (n + m * i) m)
    (k : ∀ (t : Addr) (r : List Int) (H2 : Hp), ExB b H H2 → BoxAt H2 b (n + m * xs.length) → H2 t = some (.tup (r.map V.int)) → OkRow xs.length r → Q (.ref t) H2) : tCB (rTupOf K) (tCons (tLc (iList K (tVar i0)) (gName j) tYes te [j]) tNil) σ H Q :=
  lc_draws (Q := fun x H1 => rTupOf K [x] H1 Q) hσ hp np l5 hB hw he fun l is H2 hl e2 hB2 h2 hlen hv => ⟨l, _, rfl, .inl ⟨sq_of h2, fun t ht => k t is _ (e2.trans (Ex.b (Ex.new ht))) (hB2.ex (Ex.new ht)) upd_same ⟨hlen, hv⟩⟩⟩
theorem dr_take {σ : L2.St} {H : Hp} {b : Addr} {i0 n : Nat} {tb : TE} {v : Int} (h0 : σ[i0]? = some (some (.ref b))) (hB : BoxAt H b n) (hn : n ≤ 90000) (hb : Ev tb σ H (.int v)) (v1 : 1 ≤ v) (v2 : v ≤ 1000) {Q : VK} (k : ∀ (x : Int) (H2 : Hp), 0 ≤ x → x < v → ExB b H H2 → BoxAt H2 b (n + 1) → Q (.int x) H2) : tCall sp__law_take [] E0 (tCons (tVar i0) (tCons tb tNil)) σ H Q :=
  ⟨_, h0, hb H (Ex.refl _) _ fun H1 e1 => ⟨b, v, n, rfl, v1, by omega, hB.ex e1, by omega, fun x H2 x0 x1 e2 hB2 => k x H2 x0 x1 ((Ex.b e1).trans e2) hB2⟩⟩
/-- [a, 999 - b][int(c == 0)] -/
theorem dr_either {σ : L2.St} {H : Hp} {b : Addr} {n : Nat} {v : Int} (h0 : σ[0]? = some (some (.ref b))) (h4 : σ[4]? = some (some (.int v))) (v1 : 1 ≤ v) (v2 : v ≤ 5) (hB : BoxAt H b n) (hn : n ≤ 80000) :
    DrI (tOp (rIxL K) (tLst (tCons (tCall sp__law_take [] E0 (tCons (tVar 0) (tCons (tVar 4) tNil))) (tCons (tOp (rI0 fun i j => V.int (i - j)) (tC (.int 999)) (tCall sp__law_take [] E0 (tCons (tVar 0) (tCons (tVar 4) tNil)))) tNil))) (tCB (fun xs H Q => (∃ i, xs = [V.int i] ∧ Q (.int i) H) ∨ ∃ k, xs = [V.bl k] ∧ Q (.int (if k then 1 else 0)) H) (tCons (tOp rEq (tCall sp__law_take [] E0 (tCons (tVar 0) (tCons (tC (.int 8)) tNil))) (tC (.int 0))) tNil))) b σ H n 3 := fun Q q => by
  refine dr_take h0 hB (by omega) (ev_var h4) v1 (by omega) fun x1 H1 a0 a1 e1 hB1 => ?_
  refine dr_take h0 hB1 (by omega) (ev_var h4) v1 (by omega) fun x2 H2 b0 b1 e2 hB2 => ?_
  refine ⟨999, x2, rfl, rfl, sz_of (show 2 ≤ 100000 by decide), fun l hl => ?_⟩
  have eL : Ex H2 (upd H2 l (.lst [V.int x1, .int (999 - x2)])) := Ex.new hl
  refine dr_take h0 (hB2.ex eL) (by omega) (ev_c (v := .int 8)) (by decide) (by decide) fun x3 H3 c0 c1 e3 hB3 => ?_
  have nlb : l ≠ b := fun z => by rw [z] at hl; exact hB2.some hl
  have hl3 : H3 l = some (.lst [V.int x1, .int (999 - x2)]) := e3 _ _ nlb upd_same
  have eT : ExB b H H3 := ((e1.trans e2).trans (Ex.b eL)).trans e3
  refine (ev_c (v := .int 0)) H3 (Ex.refl _) _ fun H3' e3' => ?_
  refine (rv_eq (x := .int x3) (y := .int 0) rfl) H3' (Ex.refl _) _ fun H4 e4' => ?_
  have e4 := e3'.trans e4'
  have hB4 : BoxAt H4 b (n + 3) := (hB3.ex e4).mono (by omega)
  refine .inr ⟨_, rfl, ?_⟩
  cases decide (V.int x3 = V.int 0) with
  | true => exact ⟨l, _, 1, _, rfl, rfl, sq_of (e4 _ _ hl3), rfl, q _ H4 (by omega) (by omega) (eT.trans (Ex.b e4)) hB4⟩
  | false => exact ⟨l, _, 0, _, rfl, rfl, sq_of (e4 _ _ hl3), rfl, q _ H4 (by omega) (by omega) (eT.trans (Ex.b e4)) hB4⟩
theorem q_asg1 {te : TE} {tz : TS} {D : Ends} {σ : L2.St} {H : Hp} {i : Nat} (h : te σ H (fun v H2 => tz D (σ.set i (some v)) H2)) : tSeq (tAsg te (gName i)) tz D σ H := h
/-- all pairs kept by rows -/
theorem ev_keepA {σ : L2.St} {H : Hp} {i1 i2 : Nat} {tr : TE} {p m : Addr} {zs : List Str} {us : List V} {rs : List Pr} {ks : List KR} (h1 : σ[i1]? = some (some (.ref p))) (hp : H p = some (.lst (zs.map V.str))) (h2 : σ[i2]? = some (some (.ref m))) (hm : H m = some (.lst us)) (hpr : Paired (PairAt H) us rs)
    (hr : ∀ H1, Ex H H1 → ∀ Q : VK, (∀ q H2, Ex H1 H2 → RowsL H2 zs.length q ks → Q (.ref q) H2) → tr σ H1 Q) (G : NmG zs) (ho : ∀ r ∈ rs, PrG zs r) : Ev (tCall sp__law_keep [] E0 (tCons (tVar i1) (tCons (tVar i2) (tCons tr tNil)))) σ H (.bl (keepAll zs rs (ks.map (·.2)))) := fun H1 e Q k => by
  refine ⟨_, h1, _, h2, ?_⟩
  refine hr H1 e _ fun q H2 e2 hR => ?_
  exact ⟨p, m, q, zs, us, rs, ks, rfl, (e.trans e2) _ _ hp, (e.trans e2) _ _ hm, Paired.imp (fun _ _ z => z.ex (e.trans e2)) hpr, hR.hs, hR.row, G.nd, G.ok, ho, G.l5, hR.few, fun H3 e3 => k H3 (e2.trans e3)⟩
theorem pick3 : ∀ i : Int, 0 ≤ i → i < 3 → ∃ v : Int, atI [V.int 2, .int 3, .int 5] i = some (.int v) ∧ 1 ≤ v ∧ v ≤ 5 := fun i h0 h1 => by
  have : i = 0 ∨ i = 1 ∨ i = 2 := by omega
  rcases this with z | z | z
  · subst z; exact ⟨2, rfl, by decide, by decide⟩
  · subst z; exact ⟨3, rfl, by decide, by decide⟩
  · subst z; exact ⟨5, rfl, by decide, by decide⟩
def sp__law_drawn_rows : Sp := fun vs H Q _ => ∃ (b p m : Addr) (zs : List Str) (us : List V) (rs : List Pr) (n : Nat), vs = [.ref b, .ref p, .ref m] ∧ H p = some (.lst (zs.map V.str)) ∧ H m = some (.lst us) ∧ Paired (PairAt H) us rs ∧ NmG zs ∧ (∀ r ∈ rs, PrG zs r) ∧ BoxAt H b n ∧ n ≤ 50000 ∧
  ∀ (q : Addr) (ks : List KR) (H2 : Hp), H q = none → ExB b H H2 → BoxAt H2 b (n + 1000) → DrawR H2 zs.length q ks → Q (.ref q) H2
theorem ok__law_drawn_rows (T : All K mg a d tk c ci di) : FnOk P w K mg base CX0 3 (a 27) (d 27) ["box", "columns", "pairs"] sp__law_drawn_rows := by
  refine T.F__law_drawn_rows.fn.ok sc__law_drawn_rows (fun vs H Q E h => ?_) (fun cdv A outer s H vs Q E hr h => ?_)
  · obtain ⟨b, p, m, zs, us, rs, n, rfl, _⟩ := h
    rfl
  · obtain ⟨b, p, m, zs, us, rs, n, rfl, hp, hm, hpr, G, hrs, hB, hn, k⟩ := h
    have nd := sc__law_drawn_rows.nd
    have hu65 := hu65_of hr
    refine ⟨_, (pss_cons (ps_asg (pe_tup (pa_cons (pe_call (ok__law_take T) (hr.mono (by decide)) rfl T.F__law_take.m T.F__law_take.kp T.F__law_take.b .nil pass0 (pa_cons (pv 0) (pa_cons pe_int pa_nil))) (pa_cons (pe_ix ix_list (pe_lst (pa_cons pe_int (pa_cons pe_int (pa_cons pe_int pa_nil)))) (pe_call (ok__law_take T) (hr.mono (by decide)) rfl T.F__law_take.m T.F__law_take.kp T.F__law_take.b .nil pass0 (pa_cons (pv 0) (pa_cons pe_int pa_nil))) (fun _ _ => rfl)) (pa_cons (pe_lst pa_nil) pa_nil)))) (pg_tup rfl (pgs_cons (pg_name (i := 3) nd rfl (Or.inl rfl)) (pgs_cons (pg_name (i := 4) nd rfl (Or.inr rfl)) (pgs_cons (pg_name (i := 5) nd rfl (Or.inl rfl)) pgs_nil)))) (hw := by rfl))
 (pss_cons (ps_for PassesOwn.never rfl (pi_range1 rfl T.n_range (pa_cons (pe_call (ok__law_take T) (hr.mono (by decide)) rfl T.F__law_take.m T.F__law_take.kp T.F__law_take.b .nil pass0 (pa_cons (pv 0) (pa_cons pe_int pa_nil))) pa_nil)) (pg_name (i := 6) nd rfl (Or.inl rfl))
 (pss_cons (ps_set (i := 7) nd rfl (Or.inl rfl) (pe_callTy call_tuple_of rfl T.n_tuple PyProof.Rows.boot_tuple (pa_cons (pe_lc (own := [("name", 9)]) (g := (gName 9)) rfl nd (pi_list (pv 1)) (blkOk_by (N := N__law_drawn_rows) (sc := defScope s__law_drawn_rows) (by decide +kernel)) (fun _ _ _ _ _ => (pg_name (i := 9) nd rfl (Or.inl rfl))) (fun _ _ _ _ _ => pts_nil) (fun _ _ _ _ _ => (pe_ix (show IxR _ (rIxL K) from ix_list) (pe_lst (pa_cons (pe_call (ok__law_take T) (hr.mono (by decide)) rfl T.F__law_take.m T.F__law_take.kp T.F__law_take.b .nil pass0 (pa_cons (pv 0) (pa_cons (pv 4) pa_nil))) (pa_cons (pe_op op_sub pe_int (pe_call (ok__law_take T) (hr.mono (by decide)) rfl T.F__law_take.m T.F__law_take.kp T.F__law_take.b .nil pass0 (pa_cons (pv 0) (pa_cons (pv 4) pa_nil)))) pa_nil))) (pe_callTy call_int1 rfl T.n_int PyProof.Rows.boot_int (pa_cons (pe_cmpR op_eq (pe_call (ok__law_take T) (hr.mono (by decide)) rfl T.F__law_take.m T.F__law_take.kp T.F__law_take.b .nil pass0 (pa_cons (pv 0) (pa_cons pe_int pa_nil))) pe_int (nomark _)) pa_nil)) (fun _ _ => rfl)))) pa_nil)))
 (pss_one (ps_if (PW.pt (pw_and (pt_cmpR (op_notInD hu65) (pv 7) (pv 5) rfl) (pw_and1 (PW.pt (pw_or (pt_cmpR op_eq (pv 3) pe_int (nomark _)) (pw_or1 (pt_val (pe_call (ok__law_keep T) (hr.mono (by decide)) rfl T.F__law_keep.m T.F__law_keep.kp T.F__law_keep.b .nil pass0 (pa_cons (pv 1) (pa_cons (pv 2) (pa_cons (pe_op op_cat (pv 5) (pe_lst (pa_cons (pv 7) pa_nil))) pa_nil)))))))))))
 (pss_one (ps_expr (pe_bm PySem.F.plainAttrs_list PySem.F.slot_list_append PySem.F.type_list_append mt_append (pv 5) (pa_cons (pv 7) pa_nil))))
 pss_nil))))
 (pss_cons (ps_set (i := 8) nd rfl (Or.inl rfl) (pe_callTy call_tuple_of rfl T.n_tuple PyProof.Rows.boot_tuple (pa_cons (pe_lc (own := [("name", 9)]) (g := (gName 9)) rfl nd (pi_list (pv 1)) (blkOk_by (N := N__law_drawn_rows) (sc := defScope s__law_drawn_rows) (by decide +kernel)) (fun _ _ _ _ _ => (pg_name (i := 9) nd rfl (Or.inl rfl))) (fun _ _ _ _ _ => pts_nil) (fun _ _ _ _ _ => (pe_call (ok__law_take T) (hr.mono (by decide)) rfl T.F__law_take.m T.F__law_take.kp T.F__law_take.b .nil pass0 (pa_cons (pv 0) (pa_cons (pv 4) pa_nil))))) pa_nil)))
 (pss_one (ps_ret (pe_ifExp (PW.pt (pw_and (pt_cmpR op_eq (pv 3) pe_int (nomark _)) (pw_and1 (pt_cmpR (op_notInD hu65) (pv 8) (pv 5) rfl)))) (pe_op op_cat (pv 5) (pe_lst (pa_cons (pv 8) pa_nil))) (pv 5))))))), ?_⟩
    have np := box_strs hB hp
    have lz : (zs.map V.str).length = zs.length := List.length_map ..
    have l5 : (zs.map V.str).length ≤ 5 := by rw [lz]; exact G.l5
    obtain ⟨hm0, hpr0⟩ := pairs_noB hB hm hpr
    have hp0 : noB b H p = some (.lst (zs.map V.str)) := by rw [noB_ne np]; exact hp
    refine dr_take (σ := start N__law_drawn_rows [V.ref b, V.ref p, V.ref m]) rfl hB (by omega) (ev_c (v := .int 3)) (by decide) (by decide) fun wy H1 y0 y1 e1 hB1 => ?_
    refine ⟨sz_of (show 3 ≤ 100000 by decide), fun tl htl => ?_⟩
    have eL : Ex H1 (upd H1 tl (.lst [V.int 2, .int 3, .int 5])) := Ex.new htl
    refine dr_take (σ := start N__law_drawn_rows [V.ref b, V.ref p, V.ref m]) rfl (hB1.ex eL) (by omega) (ev_c (v := .int 3)) (by decide) (by decide) fun i1 H2 i0 i3 e2 hB2 => ?_
    have ntb : tl ≠ b := fun z => by rw [z] at htl; exact hB1.some htl
    have htl2 : H2 tl = some (.lst [V.int 2, .int 3, .int 5]) := e2 _ _ ntb upd_same
    obtain ⟨vl, hvl, v1, v2⟩ := pick3 i1 i0 i3
    refine ⟨tl, _, i1, _, rfl, rfl, sq_of htl2, hvl, ?_⟩
    refine ⟨sz_of (show 0 ≤ 100000 by decide), fun f hf => ?_⟩
    refine ⟨sz_of (show 3 ≤ 100000 by decide), fun tt htt => ?_⟩
    refine ⟨tt, _, rfl, st_of upd_same, rfl, _, _, rfl, _, _, rfl, _, _, rfl, rfl, ?_⟩
    have eF : Ex H2 (upd H2 f (.lst [])) := Ex.new hf
    have eT : Ex (upd H2 f (.lst [])) (upd (upd H2 f (.lst [])) tt (.tup [V.int wy, .int vl, .ref f])) := Ex.new htt
    have nfb : f ≠ b := fun z => by rw [z] at hf; exact hB2.some hf
    have e03 : ExB b H H2 := (e1.trans (Ex.b eL)).trans e2
    have hfH : H f = none := e03.back nfb hf
    have hB3 := hB2.ex (eF.trans eT)
    have hf3 := eT _ _ (upd_same (H := H2) (a := f) (o := .lst []))
    have e3 := e03.trans (Ex.b (eF.trans eT))
    generalize upd (upd H2 f (.lst [])) tt (.tup [V.int wy, .int vl, .ref f]) = H3 at hB3 hf3 e3 ⊢
    let Pv : Nat → L2.St → Hp → Prop := fun i σ' H' => ExB b H H' ∧ BoxAt H' b (n + 3 + 15 * i) ∧ (∃ ks : List KR, H' f = some (.lst (ks.map (·.1))) ∧ (∀ k ∈ ks, IsRow H' k.1 k.2) ∧ (∀ k ∈ ks, OkRow zs.length k.2) ∧ (ks.map (·.2)).Nodup ∧ ks.length ≤ i) ∧ ∃ v6 v7 v8 v9, σ' = [some (.ref b), some (.ref p), some (.ref m), some (.int wy), some (.int vl), some (.ref f), v6, v7, v8, v9]
    dsimp only
    refine dr_take (σ := [some (.ref b), some (.ref p), some (.ref m), some (.int wy), some (.int vl), some (.ref f), none, none, none, none]) rfl hB3 (by omega) (ev_c (v := .int 10)) (by decide) (by decide) fun tn H4 t0 t1 e4 hB4 => ?_
    have hf4 := e4 _ _ nfb hf3
    refine ⟨tn, rfl, by omega, by omega, for_range (lo := 0) (n := tn.toNat) Pv ⟨e3.trans e4, hB4.mono (by omega), ⟨[], hf4, (fun _ h => nomatch h), (fun _ h => nomatch h), List.nodup_nil, Nat.le_refl _⟩, _, _, _, _, rfl⟩ ?_ ?_⟩
    · rintro i σ' H5 hi ⟨e5, hB5, ⟨ks, hf5, hr5, ho5, hn5, hl5⟩, v6, v7, v8, v9, rfl⟩
      have hi10 : i < 10 := by omega
      have hp5 := e5 _ _ np hp
      show tSeq _ _ _ [some (.ref b), some (.ref p), some (.ref m), some (.int wy), some (.int vl), some (.ref f), some (.int (0 + (i : Int))), v7, v8, v9] H5
      refine q_asg1 (tup_draws (K := K) (b := b) (p := p) (xs := zs.map V.str) (n := n + 3 + 15 * i) (m := 3) (j := 9) (i0 := 1) (σ := [some (.ref b), some (.ref p), some (.ref m), some (.int wy), some (.int vl), some (.ref f), some (.int (0 + (i : Int))), v7, v8, v9]) rfl hp5 np l5 hB5 (fun _ => rfl) (fun j x H6 hj e6 hB6 => dr_either (K := K) rfl rfl v1 v2 hB6 (by omega)) fun t r H6 e6 hB6 ht hok => ?_)
      rw [lz] at hok hB6
      have e56 := e5.trans e6
      have hf6 := e6 _ _ nfb hf5
      have hr6 : ∀ k ∈ ks, IsRow H6 k.1 k.2 := fun k hk => (hr5 k hk).exB hB5 e6
      have hrow : IsRow H6 (.ref t) r := ⟨t, rfl, ht⟩
      have hB6' : BoxAt H6 b (n + 3 + 15 * (i + 1)) := hB6.mono (by have := G.l5; omega)
      have e0 := noB_exB e56
      have tst : EvT _ [some (.ref b), some (.ref p), some (.ref m), some (.int wy), some (.int vl), some (.ref f), some (.int (0 + (i : Int))), some (.ref t), v8, v9] H6 _ := et_and (et_test (ev_op (ev_var (i := 7) rfl) (ev_var (i := 5) rfl) (rv_ninRows (K := K) hf6 (paired_kr hr6) hrow))) fun _ => et_or (et_test (ev_op (ev_var (i := 3) rfl) (ev_c (v := .int 0)) (rv_eq rfl))) fun _ => et_B (ev_keepA (σ := [some (.ref b), some (.ref p), some (.ref m), some (.int wy), some (.int vl), some (.ref f), some (.int (0 + (i : Int))), some (.ref t), v8, v9]) (H := H6) (i1 := 1) (i2 := 2) (tr := tOp rCat (tVar 5) (tLst (tCons (tVar 7) tNil))) (ks := ks ++ [(.ref t, r)]) rfl (e0 _ _ hp0) rfl (e0 _ _ hm0) (Paired.imp (fun _ _ z => z.ex e0) hpr0) (fun H7 e7 Q7 q7 => by
        refine ⟨_, rfl, _, rfl, sz_of (show 1 ≤ 100000 by decide), fun l1 hl1 => ⟨f, l1, _, _, rfl, rfl, (Ex.new hl1) _ _ (e7 _ _ hf6), upd_same, sz_of (by rw [List.length_map]; simp; omega), fun l2 hl2 => ?_⟩⟩
        have e8 : Ex H7 (upd (upd H7 l1 (.lst [V.ref t])) l2 (.lst (ks.map (·.1) ++ [V.ref t]))) := (Ex.new hl1).trans (Ex.new hl2)
        refine q7 l2 _ e8 ⟨by rw [upd_same, List.map_append] <;> rfl, fun k hk => ?_, by rw [List.length_append, List.length_singleton]; omega⟩
        rcases List.mem_append.mp hk with hk | hk
        · exact ⟨(hr6 k hk).ex (e7.trans e8), (ho5 k hk).1⟩
        · rw [List.mem_singleton.mp hk]
          exact ⟨hrow.ex (e7.trans e8), hok.1⟩) G hrs)
      cases hb : (!decide (r ∈ ks.map (·.2)) && (decide (V.int wy = V.int 0) || keepAll zs rs ((ks ++ [((V.ref t, r) : KR)]).map (·.2)))) with
      | false =>
        refine s_when (b := false) (et_is tst hb) (fun h => nomatch h) fun _ H7 e7 => ?_
        exact ⟨e56.trans (Ex.b e7), hB6'.ex e7, ⟨ks, e7 _ _ hf6, fun k hk => (hr6 k hk).ex e7, ho5, hn5, by omega⟩, _, _, _, _, rfl⟩
      | true =>
        have hno : r ∉ ks.map (·.2) := fun z => by
          rw [decide_eq_true z] at hb
          cases hb
        refine s_when (b := true) (et_is tst hb) (fun _ H7 e7 => ?_) fun h => nomatch h
        refine s_app (e7 _ _ hf6) (ev_var (i := 5) rfl) (ev_var (i := 7) rfl) (by rw [List.length_map]; omega) fun H8 e8 => ?_
        have e78 := e7.trans e8
        have nbf : b ≠ f := Ne.symm nfb
        have mvr : ∀ {x : V} {r' : List Int}, IsRow H6 x r' → IsRow (upd H8 f (.lst (ks.map (·.1) ++ [V.ref t]))) x r' := fun {x r'} ⟨b', h1, h2⟩ => ⟨b', h1, by rw [upd_ne (fun z => by rw [z, hf6] at h2; cases h2)]; exact e78 _ _ h2⟩
        refine ⟨(e56.trans (Ex.b e78)).mut hfH, (hB6'.ex e78).upd nbf, ⟨ks ++ [(.ref t, r)], by rw [upd_same, List.map_append] <;> rfl, fun k hk => ?_, fun k hk => ?_, ?_, by rw [List.length_append, List.length_singleton]; omega⟩, _, _, _, _, rfl⟩
        · rcases List.mem_append.mp hk with hk | hk
          · exact mvr (hr6 k hk)
          · rw [List.mem_singleton.mp hk]
            exact mvr hrow
        · rcases List.mem_append.mp hk with hk | hk
          · exact ho5 k hk
          · rw [List.mem_singleton.mp hk]
            exact hok
        · rw [List.map_append]
          refine List.nodup_append.mpr ⟨hn5, by simp, fun x hx y hy => ?_⟩
          rw [List.map_cons, List.map_nil, List.mem_singleton] at hy
          rw [hy]
          exact fun z => hno (by rw [← (show x = r from z)]; exact hx)
    · rintro σ' H5 ⟨e5, hB5, ⟨ks, hf5, hr5, ho5, hn5, hl5⟩, v6, v7, v8, v9, rfl⟩
      have hp5 := e5 _ _ np hp
      have hl9 : ks.length ≤ 9 := by omega
      dsimp only
      refine q_asg1 (tup_draws (K := K) (b := b) (p := p) (xs := zs.map V.str) (n := n + 3 + 15 * tn.toNat) (m := 1) (j := 9) (i0 := 1) (σ := [some (.ref b), some (.ref p), some (.ref m), some (.int wy), some (.int vl), some (.ref f), v6, v7, v8, v9]) rfl hp5 np l5 hB5 (fun _ => rfl) (fun j x H6 hj e6 hB6 Q6 q6 => dr_take (i0 := 0) rfl hB6 (by omega) (ev_var (i := 4) rfl) v1 (by omega) fun y H7 y0 y1 e7 hB7 => q6 y H7 y0 (by omega) e7 hB7) fun t r H6 e6 hB6 ht hok => ?_)
      rw [lz] at hok hB6
      have e56 := e5.trans e6
      have hf6 := e6 _ _ nfb hf5
      have hr6 : ∀ k ∈ ks, IsRow H6 k.1 k.2 := fun k hk => (hr5 k hk).exB hB5 e6
      have hrow : IsRow H6 (.ref t) r := ⟨t, rfl, ht⟩
      have hB6' : BoxAt H6 b (n + 1000) := hB6.mono (by have := G.l5; omega)
      have tst : EvT _ [some (.ref b), some (.ref p), some (.ref m), some (.int wy), some (.int vl), some (.ref f), v6, v7, some (.ref t), v9] H6 _ := et_and (et_test (ev_op (ev_var (i := 3) rfl) (ev_c (v := .int 2)) (rv_eq rfl))) fun _ => et_test (ev_op (ev_var (i := 8) rfl) (ev_var (i := 5) rfl) (rv_ninRows (K := K) hf6 (paired_kr hr6) hrow))
      refine tst H6 (Ex.refl _) _ fun H7 e7 => ?_
      cases hb : (decide (V.int wy = V.int 2) && !decide (r ∈ ks.map (·.2))) with
      | false =>
        rw [if_neg Bool.false_ne_true]
        exact ⟨_, rfl, k f ks H7 hfH (e56.trans (Ex.b e7)) (hB6'.ex e7) ⟨e7 _ _ hf6, fun k hk => (hr6 k hk).ex e7, ho5, hn5, by omega⟩⟩
      | true =>
        have hno : r ∉ ks.map (·.2) := fun z => by
          rw [decide_eq_true z, Bool.not_true, Bool.and_false] at hb
          cases hb
        rw [if_pos rfl]
        refine ⟨_, rfl, _, rfl, sz_of (show 1 ≤ 100000 by decide), fun l1 hl1 => ⟨f, l1, _, _, rfl, rfl, (Ex.new hl1) _ _ (e7 _ _ hf6), upd_same, sz_of (by rw [List.length_map]; simp; omega), fun l2 hl2 => ?_⟩⟩
        have e8 : Ex H7 (upd (upd H7 l1 (.lst [V.ref t])) l2 (.lst (ks.map (·.1) ++ [V.ref t]))) := (Ex.new hl1).trans (Ex.new hl2)
        have e68 := e7.trans e8
        have n2b : l2 ≠ b := fun z => by
          rw [z] at hl2
          exact (hB6'.ex (e7.trans (Ex.new hl1))).some hl2
        refine k l2 (ks ++ [(.ref t, r)]) _ ((e56.trans (Ex.b (e7.trans (Ex.new hl1)))).back n2b hl2) (e56.trans (Ex.b e68)) (hB6'.ex e68) ⟨by rw [upd_same, List.map_append] <;> rfl, fun k hk => ?_, fun k hk => ?_, ?_, by rw [List.length_append, List.length_singleton]; omega⟩
        · rcases List.mem_append.mp hk with hk | hk
          · exact (hr6 k hk).ex e68
          · rw [List.mem_singleton.mp hk]
            exact hrow.ex e68
        · rcases List.mem_append.mp hk with hk | hk
          · exact ho5 k hk
          · rw [List.mem_singleton.mp hk]
            exact hok
        · rw [List.map_append]
          refine List.nodup_append.mpr ⟨hn5, by simp, fun x hx y hy => ?_⟩
          rw [List.map_cons, List.map_nil, List.mem_singleton] at hy
          rw [hy]
          exact fun z => hno (by rw [← (show x = r from z)]; exact hx)
end
end Mv
/-! The plain laws. -/
namespace Mv
open PySem PySem.Spec PyProof.Rows L2 Evl
/-! the least ones: by length, or all against all -/
theorem allIn_iff {o s : List Str} : allIn o s = true ↔ ∀ z ∈ o, z ∈ s := by
  unfold allIn
  rw [List.all_eq_true]
  exact ⟨fun h z hz => of_decide_eq_true (h z hz), fun h z hz => decide_eq_true (h z hz)⟩
theorem plC_sub : ∀ n, n ≤ 5 → ∀ c ∈ plC n, ∀ d ∈ plC n, (c.all fun j => decide (j ∈ d)) = true → c = d ∨ c.length < d.length := by decide +kernel
theorem plC_nd : ∀ n, n ≤ 5 → (plC n).Nodup := by decide +kernel
theorem atS_len (xs : List Str) (c : List Nat) : (atS xs c).length = c.length := List.length_map ..
theorem atS_mem {xs : List Str} {c : List Nat} {i : Nat} (nd : xs.Nodup) (hc : ∀ j ∈ c, j < xs.length) (hi : i < xs.length) (h : xs.getD i "" ∈ atS xs c) : i ∈ c := by
  obtain ⟨j, hj, e⟩ := List.mem_map.mp h
  have lj := hc j hj
  rw [List.getD_eq_getElem?_getD, List.getD_eq_getElem?_getD, List.getElem?_eq_getElem lj, List.getElem?_eq_getElem hi] at e
  rw [← (List.getElem_inj nd).mp e]
  exact hj
theorem subs_sub {xs o s : List Str} (l5 : xs.length ≤ 5) (nd : xs.Nodup) (ho : o ∈ subsC xs) (hs : s ∈ subsC xs) (h : allIn o s = true) : o = s ∨ o.length < s.length := by
  obtain ⟨c, hc, rfl⟩ := List.mem_map.mp ho
  obtain ⟨d, hd, rfl⟩ := List.mem_map.mp hs
  have h1 := (plC_in xs.length l5 c hc).1
  have h2 := (plC_in xs.length l5 d hd).1
  have := plC_sub xs.length l5 c hc d hd (by
    rw [List.all_eq_true]
    intro j hj
    exact decide_eq_true (atS_mem nd h2 (h1 j hj) (allIn_iff.mp h _ (List.mem_map_of_mem hj))))
  rcases this with e | e
  · exact .inl (by rw [e])
  · exact .inr (by rw [atS_len, atS_len]; exact e)
theorem subs_nd {xs : List Str} (l5 : xs.length ≤ 5) (nd : xs.Nodup) : (subsC xs).Nodup := by
  unfold subsC
  rw [List.nodup_iff_pairwise_ne, List.pairwise_map]
  refine List.Pairwise.imp_of_mem (fun {c d} hc hd ne e => ne ?_) (List.nodup_iff_pairwise_ne.mp (plC_nd xs.length l5))
  have h1 := (plC_in xs.length l5 c hc).1
  have h2 := (plC_in xs.length l5 d hd).1
  have l := congrArg List.length e
  rw [atS_len, atS_len] at l
  have := plC_sub xs.length l5 c hc d hd (by
    rw [List.all_eq_true]
    intro j hj
    exact decide_eq_true (atS_mem nd h2 (h1 j hj) (by rw [← e]; exact List.mem_map_of_mem hj)))
  rcases this with q | q
  · exact q
  · omega
/-- least among those of L that hold -/
def minB (hold : List Str → Bool) (L : List (List Str)) (l : List Str) : Bool := hold l && !((L.filter hold).any fun o => !decide (o = l) && allIn o l)
theorem minB_iff {hold : List Str → Bool} {L : List (List Str)} {l : List Str} : minB hold L l = true ↔ hold l = true ∧ ∀ o ∈ L, hold o = true → allIn o l = true → o = l := by
  unfold minB
  rw [Bool.and_eq_true, Bool.not_eq_true']
  refine and_congr_right fun _ => ?_
  rw [← Bool.not_eq_true, List.any_eq_true]
  constructor
  · intro h o ho h1 h2
    by_cases e : o = l
    · exact e
    · exact absurd ⟨o, List.mem_filter.mpr ⟨ho, h1⟩, by rw [decide_eq_false e, h2] <;> rfl⟩ h
  · rintro h ⟨o, ho, hb⟩
    obtain ⟨h1, h2⟩ := List.mem_filter.mp ho
    rw [Bool.and_eq_true] at hb
    rw [decide_eq_true (h o h1 h2 hb.2)] at hb
    cases hb.1
theorem least_min {hold : List Str → Bool} {L : List (List Str)} : leastOf (L.filter hold) = L.filter (minB hold L) := by
  unfold leastOf
  rw [List.filter_filter]
  refine List.filter_congr fun s _ => ?_
  unfold minB
  rw [Bool.and_comm]
theorem min_under {hold : List Str → Bool} {L : List (List Str)} (hsub : ∀ o ∈ L, ∀ s ∈ L, allIn o s = true → o = s ∨ o.length < s.length) : ∀ n : Nat, ∀ o ∈ L, o.length ≤ n → hold o = true → ∃ s ∈ L, minB hold L s = true ∧ allIn s o = true
  | 0, o, ho, hl, hh => ⟨o, ho, minB_iff.mpr ⟨hh, fun q hq _ hi => by
      rcases hsub q hq o ho hi with e | e
      · exact e
      · omega⟩, allIn_iff.mpr fun _ h => h⟩
  | n + 1, o, ho, hl, hh => by
    by_cases hm : minB hold L o = true
    · exact ⟨o, ho, hm, allIn_iff.mpr fun _ h => h⟩
    · have : ∃ q ∈ L, hold q = true ∧ allIn q o = true ∧ q ≠ o := by
        refine Classical.byContradiction fun hn => hm (minB_iff.mpr ⟨hh, fun q hq h1 h2 => Classical.byContradiction fun ne => hn ⟨q, hq, h1, h2, ne⟩⟩)
      obtain ⟨q, hq, h1, h2, ne⟩ := this
      have hlt := (hsub q hq o ho h2).resolve_left ne
      obtain ⟨s, hs, m1, m2⟩ := min_under hsub n q hq (by omega) h1
      exact ⟨s, hs, m1, allIn_iff.mpr fun z hz => allIn_iff.mp h2 z (allIn_iff.mp m2 z hz)⟩
theorem keptR_go {hold : List Str → Bool} {L : List (List Str)} (nd : L.Nodup) (hlen : L.Pairwise fun a b => a.length ≤ b.length) (hsub : ∀ o ∈ L, ∀ s ∈ L, allIn o s = true → o = s ∨ o.length < s.length) : ∀ (B A : List (List Str)), L = A ++ B → B.foldl (keptStep hold) (A.filter (minB hold L)) = L.filter (minB hold L)
  | [], A, e => by rw [e, List.append_nil] <;> rfl
  | l :: B, A, e => by
    have hlL : l ∈ L := by rw [e]; exact List.mem_append.mpr (.inr List.mem_cons_self)
    have hstep : keptStep hold (A.filter (minB hold L)) l = (A ++ [l]).filter (minB hold L) := by
      rw [List.filter_append, List.filter_cons, List.filter_nil]
      have key : (!((A.filter (minB hold L)).any fun s => allIn s l) && hold l) = minB hold L l := by
        cases hh : hold l with
        | false =>
          have : minB hold L l = false := by unfold minB; rw [hh, Bool.false_and]
          rw [this, Bool.and_false]
        | true =>
          rw [Bool.and_true, Bool.eq_iff_iff, Bool.not_eq_true', ← Bool.not_eq_true, List.any_eq_true, minB_iff]
          constructor
          · intro h
            refine ⟨hh, fun o ho h1 h2 => Classical.byContradiction fun ne => ?_⟩
            have hlt := (hsub o ho l hlL h2).resolve_left ne
            obtain ⟨s, hs, m1, m2⟩ := min_under hsub o.length o ho (Nat.le_refl _) h1
            have hsl : allIn s l = true := allIn_iff.mpr fun z hz => allIn_iff.mp h2 z (allIn_iff.mp m2 z hz)
            have hslen : s.length < l.length := by
              rcases hsub s hs o ho m2 with q | q
              · rw [q]; exact hlt
              · omega
            refine h ⟨s, List.mem_filter.mpr ⟨?_, m1⟩, hsl⟩
            rw [e] at hs
            rcases List.mem_append.mp hs with z | z
            · exact z
            · rw [e] at hlen
              have hp := (List.pairwise_append.mp hlen).2.1
              rcases List.mem_cons.mp z with q | q
              · rw [q] at hslen; omega
              · have := (List.pairwise_cons.mp hp).1 s q
                omega
          · rintro ⟨_, h⟩ ⟨s, hs, hi⟩
            obtain ⟨hsA, hm⟩ := List.mem_filter.mp hs
            have es := h s (by rw [e]; exact List.mem_append.mpr (.inl hsA)) (minB_iff.mp hm).1 hi
            rw [e] at nd
            exact (List.nodup_append.mp nd).2.2 s hsA l List.mem_cons_self es
      unfold keptStep
      rw [key]
      cases minB hold L l with
      | true => rw [if_pos rfl, if_pos rfl]
      | false => rw [if_neg Bool.false_ne_true, if_neg Bool.false_ne_true, List.append_nil]
    rw [List.foldl_cons, hstep]
    exact keptR_go nd hlen hsub B (A ++ [l]) (by rw [e, List.append_assoc] <;> rfl)
theorem keptR_min {hold : List Str → Bool} {L : List (List Str)} (nd : L.Nodup) (hlen : L.Pairwise fun a b => a.length ≤ b.length) (hsub : ∀ o ∈ L, ∀ s ∈ L, allIn o s = true → o = s ∨ o.length < s.length) : keptR hold L = leastOf (L.filter hold) := by
  rw [least_min]
  exact keptR_go nd hlen hsub L [] rfl
theorem lenS_perm (xss : List (List Str)) : (lenS xss).Perm xss := List.mergeSort_perm _ _
theorem lenS_pw (xss : List (List Str)) : (lenS xss).Pairwise fun a b => a.length ≤ b.length := by
  have h := List.pairwise_mergeSort (le := fun a b : List Str => decide (a.length ≤ b.length)) (fun a b c h1 h2 => decide_eq_true (Nat.le_trans (of_decide_eq_true h1) (of_decide_eq_true h2))) (fun a b => by
    rcases Nat.le_total a.length b.length with h | h
    · rw [decide_eq_true h, Bool.true_or]
    · rw [decide_eq_true h, Bool.or_true]) xss
  exact h.imp fun h => of_decide_eq_true h
theorem kept_due {zs : List Str} {ks : List KR} {z : Str} (l5 : zs.length ≤ 5) (nd : zs.Nodup) : (keptFor zs ks z).Perm (leastOf (heldOf zs (ks.map (·.2)) z)) := by
  have l5o : (srtS (othersOf zs z)).length ≤ 5 := by rw [srtS_len]; exact Nat.le_trans others_len l5
  have ndo : (srtS (othersOf zs z)).Nodup := ordD_nodup (others_nd nd)
  have p1 : (lenS (leftsOf zs z)).Perm (subsC (srtS (othersOf zs z))) := (lenS_perm _).trans (ordD_perm _)
  unfold keptFor
  rw [keptR_min (p1.nodup_iff.mpr (subs_nd l5o ndo)) (lenS_pw _) fun o ho s hs h => subs_sub l5o ndo (p1.mem_iff.mp ho) (p1.mem_iff.mp hs) h]
  refine leastOf_perm ?_
  unfold heldOf
  have e : (fun l => decide (KFd zs (l, z) (ks.map (·.2)))) = holdB zs ks z := funext fun l => hold_fd.symm
  rw [e]
  exact (p1.trans (lawS_perm l5o).symm).filter _
theorem flatMap_perm {α β : Type} {f g : α → List β} : ∀ {l : List α}, (∀ x ∈ l, (f x).Perm (g x)) → (l.flatMap f).Perm (l.flatMap g)
  | [], _ => .nil
  | x :: l, h => by
    rw [List.flatMap_cons, List.flatMap_cons]
    exact (h x List.mem_cons_self).append (flatMap_perm fun y hy => h y (List.mem_cons_of_mem _ hy))
theorem keptU_due {zs : List Str} {ks : List KR} (l5 : zs.length ≤ 5) (nd : zs.Nodup) : keptU zs ks = dueK zs (ks.map (·.2)) := by
  unfold keptU dueK
  refine ordD_congr injP (((ordD_perm (k := PyData.str) zs).flatMap_right _).trans (flatMap_perm fun z _ => ?_))
  exact (kept_due l5 nd).map _
/-! the first pair that is broken -/
theorem broken_find {zs : List Str} {ks : List KR} : ∀ {rs : List Pr}, brokenU zs ks rs = (rs.find? fun r => (firstU zs r ks).isSome).bind fun r => (firstU zs r ks).map fun p => (r, p.1, p.2)
  | [] => rfl
  | r :: rs => by
    unfold brokenU
    rw [List.find?_cons]
    cases hf : firstU zs r ks with
    | none => exact broken_find
    | some p =>
      obtain ⟨k, o⟩ := p
      show some (r, k, o) = (firstU zs r ks).map _
      rw [hf] <;> rfl
theorem find_least {α : Type} {le : α → α → Bool} {p : α → Bool} : ∀ {l : List α} {a : α}, l.Pairwise (fun a b => le a b = true) → l.find? p = some a → (∀ x, le x x = true) → ∀ b ∈ l, p b = true → le a b = true
  | x :: l, a, pw, h, rf, b, hb, pb => by
    rw [List.find?_cons] at h
    obtain ⟨h1, h2⟩ := List.pairwise_cons.mp pw
    cases hx : p x with
    | true =>
      rw [hx] at h
      have e : x = a := Option.some.inj h
      rw [← e]
      rcases List.mem_cons.mp hb with q | q
      · rw [q]; exact rf x
      · exact h1 b q
    | false =>
      rw [hx] at h
      rcases List.mem_cons.mp hb with q | q
      · rw [q, hx] at pb; cases pb
      · exact find_least h2 h rf b q pb
theorem find_same {p : Pr → Bool} {l m : List Pr} (hl : l.Pairwise fun a b => PySem.W.dataLe false encP a b = true) (hm : m.Pairwise fun a b => PySem.W.dataLe false encP a b = true) (h : ∀ x, x ∈ l ↔ x ∈ m) : l.find? p = m.find? p := by
  have rf : ∀ x : Pr, PySem.W.dataLe false encP x x = true := fun x => by
    have := dle_total (k := encP) x x
    rwa [Bool.or_self] at this
  cases h1 : l.find? p with
  | none =>
    symm
    rw [List.find?_eq_none] at h1 ⊢
    exact fun x hx => h1 x ((h x).mpr hx)
  | some a =>
    cases h2 : m.find? p with
    | none =>
      have := List.find?_eq_none.mp h2 a ((h a).mp (List.mem_of_find?_eq_some h1))
      exact absurd (List.find?_some h1) this
    | some b =>
      have la := find_least hl h1 rf b ((h b).mpr (List.mem_of_find?_eq_some h2)) (List.find?_some h2)
      have lb := find_least hm h2 rf a ((h a).mp (List.mem_of_find?_eq_some h1)) (List.find?_some h1)
      rw [dle_anti injP a b la lb]
theorem broken_known {zs : List Str} {ks : List KR} {rs : List Pr} : brokenU zs ks (ordD encP (rs.map nrm)) = brokenU zs ks (dueP rs) := by
  rw [broken_find, broken_find, find_same (ordD_pw _) (m := dueP rs) (ordD_pw _) fun x => by rw [ordD_mem, dueP_mem]]
theorem keepB_nrm {zs : List Str} {r : Pr} {a b : List Int} : keepB zs (nrm r) a b = keepB zs r a b := by
  unfold keepB nrm
  congr 2
  rw [Bool.eq_iff_iff, List.all_eq_true, List.all_eq_true]
  exact ⟨fun h z hz => h z (srtS_mem.mpr hz), fun h z hz => h z (srtS_mem.mp hz)⟩
theorem kfd_nrm {zs : List Str} {r : Pr} {ws : List (List Int)} : KFd zs (nrm r) ws ↔ KFd zs r ws := by
  unfold KFd
  constructor
  · exact fun h => h.imp fun h => by rwa [keepB_nrm] at h
  · exact fun h => h.imp fun h => by rwa [keepB_nrm]
theorem broken_none {zs : List Str} {ks : List KR} : ∀ {rs : List Pr}, brokenU zs ks rs = none ↔ ∀ r ∈ rs, KFd zs r (ks.map (·.2))
  | [] => ⟨(fun _ _ h => nomatch h), fun _ => rfl⟩
  | r :: rs => by
    unfold brokenU
    rw [List.forall_mem_cons, ← broken_none, ← fd_first (ks := ks)]
    cases hf : firstU zs r ks with
    | none => exact ⟨fun h => ⟨rfl, h⟩, fun h => h.2⟩
    | some p => exact ⟨(fun h => nomatch h), fun h => nomatch h.1⟩
theorem due_keep {zs : List Str} {ks : List KR} {rs : List Pr} : (brokenU zs ks (ordD encP (rs.map nrm))).isNone = keepAll zs rs (ks.map (·.2)) := by
  rw [Bool.eq_iff_iff, Option.isNone_iff_eq_none, broken_none]
  unfold keepAll
  rw [List.all_eq_true]
  constructor
  · intro h r hr
    exact decide_eq_true (kfd_nrm.mp (h _ (ordD_mem.mpr (List.mem_map_of_mem hr))))
  · intro h r hr
    obtain ⟨q, hq, rfl⟩ := List.mem_map.mp (ordD_mem.mp hr)
    exact kfd_nrm.mpr (of_decide_eq_true (h q hq))
theorem dueK_mem {zs : List Str} {ws : List (List Int)} {r : Pr} (G : NmG zs) (h : r ∈ dueK zs ws) : KFd zs r ws ∧ r.2 ∈ zs ∧ (∀ y ∈ r.1, y ∈ zs ∧ y ≠ r.2) ∧ r.1.Nodup ∧ r.1.length ≤ 5 := by
  obtain ⟨z, hz, hr⟩ := List.mem_flatMap.mp (ordD_mem.mp h)
  obtain ⟨l, hl, rfl⟩ := List.mem_map.mp hr
  have hh := (List.mem_filter.mp hl).1
  obtain ⟨m1, m2, m3⟩ := held_mem G hh
  exact ⟨of_decide_eq_true (List.mem_filter.mp hh).2, hz, m1, m2, m3⟩
theorem flatMap_len {α β : Type} {f : α → List β} {n : Nat} : ∀ {l : List α}, (∀ x ∈ l, (f x).length ≤ n) → (l.flatMap f).length ≤ n * l.length
  | [], _ => by simp
  | x :: l, h => by
    have h1 := h x List.mem_cons_self
    have h2 := flatMap_len (f := f) fun y hy => h y (List.mem_cons_of_mem x hy)
    rw [List.flatMap_cons, List.length_append, List.length_cons, Nat.mul_add, Nat.mul_one]
    omega
theorem dueK_len {zs : List Str} {ws : List (List Int)} (l5 : zs.length ≤ 5) : (dueK zs ws).length ≤ 200 := by
  unfold dueK
  rw [ordD_length]
  refine Nat.le_trans (flatMap_len (n := 40) fun z _ => ?_) (by omega)
  unfold dueFor
  rw [List.length_map]
  exact Nat.le_trans (List.length_filter_le _ _) (held_len l5)
end Mv
/-! Steps of the law's own checks. -/
namespace Mv
open PySem PySem.Spec PyProof.Rows L2 Evl
section
variable {K : PySem.W.Frag} {σ : L2.St} {H H' : Hp} {ta tb tc te tl : TE} {tA : TA} {x y z v : V} {D : Ends} {tu tz : TS} {t : TT} {c : Nat → Addr}
theorem t_call {sp : Sp} {E : XK} {vs : List V} {Q : VK} (h : EvA tA σ H vs) (k : ∀ H2, Ex H H2 → sp (vs ++ []) H2 Q E) : tCall sp [] E tA σ H Q := h H (Ex.refl H) _ k
theorem el_listS {q : Addr} {xs : List V} (h : Ev ta σ H (.ref q)) (hq : Seq H q xs) : EvL (tCB (rListS K) (tCons ta tNil)) σ H xs := fun H1 e Q k => h H1 e _ fun H2 e2 => ⟨q, xs, rfl, (hq.ex (e.trans e2)).sq, fun l hl => k l _ (fresh_back e2 hl) (e2.trans (Ex.new hl)) upd_same⟩
theorem eu_tupS {q : Addr} {xs : List V} (h : Ev ta σ H (.ref q)) (hq : H q = some (.lst xs)) : EvU (tCB (rTupOf K) (tCons ta tNil)) σ H xs := fun H1 e Q k => h H1 e _ fun H2 e2 => ⟨q, xs, rfl, .inl ⟨sq_of ((e.trans e2) _ _ hq), fun l hl => k l _ (fresh_back e2 hl) (e2.trans (Ex.new hl)) upd_same⟩⟩
theorem S2.seq {q : Addr} {l : Bool} {xs : List V} (h : H q = some (if l = true then .lst xs else .tup xs)) : Seq H q xs := by
  cases l with
  | true => exact .inl h
  | false => exact .inr h
/-- list(xs) if turn == 0 else tuple(xs) -/
theorem es_passed {q : Addr} {xs : List V} {i5 i8 : Nat} {i : Int} (h5 : σ[i5]? = some (some (.ref q))) (h8 : σ[i8]? = some (some (.int i))) (hq : H q = some (.lst xs)) :
    EvS2 (tIf (tTest (tOp rEq (tVar i8) (tC (.int 0)))) (tCB (rListS K) (tCons (tVar i5) tNil)) (tCB (rTupOf K) (tCons (tVar i5) tNil))) σ H (decide (V.int i = V.int 0)) xs := fun H1 e Q k =>
  (et_test (ev_op (ev_var h8) (ev_c (v := .int 0)) (rv_eq rfl))) H1 e _ fun H2 e2 => by
    cases hb : decide (V.int i = V.int 0) with
    | true =>
      rw [hb] at k
      rw [if_pos rfl]
      exact (el_listS (ev_var h5) (.inl hq)) H2 (e.trans e2) _ fun p H3 hp e3 h3 => k p H3 (fresh_back e2 hp) (e2.trans e3) h3
    | false =>
      rw [hb] at k
      rw [if_neg Bool.false_ne_true]
      exact (eu_tupS (ev_var h5) hq) H2 (e.trans e2) _ fun p H3 hp e3 h3 => k p H3 (fresh_back e2 hp) (e2.trans e3) h3
/-- by_name == (turn == n) -/
theorem ev_by {i4 i8 : Nat} {bn : Bool} {i n : Int} (h4 : σ[i4]? = some (some (.bl bn))) (h8 : σ[i8]? = some (some (.int i))) : Ev (tOp rEq (tVar i4) (tOp rEq (tVar i8) (tC (.int n)))) σ H (.bl (decide (V.bl bn = V.bl (decide (V.int i = V.int n))))) :=
  ev_op (ev_var h4) (ev_op (ev_var h8) ev_c (rv_eq rfl)) (rv_eq rfl)
/-! alike -/
theorem sm_ints {n : Nat} : ∀ is : List Int, Paired (Sm H (n + 1)) (is.map V.int) (is.map V.int)
  | [] => .nil
  | i :: is => .cons (sm_prim (.int i)) (sm_ints is)
theorem sm_row {n : Nat} {r : List Int} (h : IsRow H x r) (l : r.length ≤ 200) : Sm H (n + 2) x x := by
  obtain ⟨b, rfl, hb⟩ := h
  exact sm_tup hb hb (by rw [List.length_map]; exact l) (sm_ints r)
theorem sm_strs2 {n : Nat} {p q : Addr} {zs : List Str} (hp : H p = some (.lst (zs.map V.str))) (hq : H q = some (.lst (zs.map V.str))) (l : zs.length ≤ 200) : Sm H (n + 2) (.ref p) (.ref q) := sm_strs hp hq l
theorem sm_pair {n : Nat} {u u' : V} {r : Pr} (h1 : PairAt H u r) (h2 : PairAt H u' r) (l : r.1.length ≤ 200) : Sm H (n + 3) u u' := by
  obtain ⟨t, v, rfl, g1, g2⟩ := h1
  obtain ⟨t2, v2, rfl, k1, k2⟩ := h2
  exact sm_tup g1 k1 (show 2 ≤ 200 by decide) (.cons (sm_strs g2 k2 l) (.cons (sm_prim (.str _)) .nil))
theorem sm_prs {n : Nat} {p q : Addr} {us vs : List V} {rs : List Pr} (hp : H p = some (.lst us)) (hq : H q = some (.lst vs)) (h1 : Paired (PairAt H) us rs) (h2 : Paired (PairAt H) vs rs) (l : rs.length ≤ 200) (lr : ∀ r ∈ rs, r.1.length ≤ 200) : Sm H (n + 4) (.ref p) (.ref q) :=
  sm_lst hp hq (by rw [Paired.length h1]; exact l) (paired_join (fun u v r ⟨a, m⟩ b => sm_pair a b (lr r m)) (paired_mem h1) h2)
theorem sm_told {n : Nat} {p q : Addr} {w : Str} {x y : V} (hp : H p = some (.lst [.str w, x])) (hq : H q = some (.lst [.str w, y])) (h : Sm H (n + 1) x y) : Sm H (n + 2) (.ref p) (.ref q) := sm_lst hp hq (show 2 ≤ 200 by decide) (.cons (sm_prim (.str w)) (.cons h .nil))
/-- lists of rows, not other -/
theorem rv_neRows {p q : Addr} {xs : List V} {rs : List (List Int)} (hp : H p = some (.lst xs)) (hq : H q = some (.lst xs)) (hr : Paired (IsRow H) xs rs) : RV (rNeD K) (.ref p) (.ref q) H (.bl false) :=
  rv_neE (d := .list (rs.map rd)) (e := .list (rs.map rd)) (b := true) (fun H1 e => .lst (sq_of (e _ _ hp)) (dp_rows (Paired.imp (fun _ _ z => z.ex e) hr))) (fun H1 e => .lst (sq_of (e _ _ hq)) (dp_rows (Paired.imp (fun _ _ z => z.ex e) hr))) (shaped_rows rs) (shaped_rows rs) (by
    rw [PyData.eqv]
    exact (eqvAll_enc (fun a b => by rw [eqv_row, decide_eq_true_eq]) rs rs).mpr rfl)
/-- not _law_same(told, ['told', due]) or list(passed) != rows: no -/
theorem et_okay {iT iD iP iR : Nat} {T ps q : Addr} {v dv : V} {ks : List KR} (hT : σ[iT]? = some (some (.ref T))) (hD : σ[iD]? = some (some dv)) (hP : σ[iP]? = some (some (.ref ps))) (hR : σ[iR]? = some (some (.ref q))) (h1 : H T = some (.lst [.str "told", v])) (h2 : Sm H 4 v dv) (h3 : Seq H ps (ks.map (·.1))) (h4 : H q = some (.lst (ks.map (·.1)))) (h5 : ∀ k ∈ ks, IsRow H k.1 k.2) :
    EvT (tOr (tNot (tB (tCall (sp_same 5) [] E0 (tCons (tVar iT) (tCons (tLst (tCons (tC (.str "told")) (tCons (tVar iD) tNil))) tNil))))) (tTest (tOp (rNeD K) (tCB (rListS K) (tCons (tVar iP) tNil)) (tVar iR)))) σ H false := by
  have e1 := et_not (et_B (ev_sameVL (tb := tLst (tCons (tC (.str "told")) (tCons (tVar iD) tNil))) (ev_var hT) (fun H1 e1 => el_lst (ea_cons ev_c (ea_cons (ev_var hD) ea_nil)) (by simp)) fun p H1 e1 hp => sm_told (n := 3) (e1 _ _ h1) hp (h2.ex e1)))
  exact et_is (et_or e1 fun _ => et_test (ev_opL (el_listS (K := K) (ev_var hP) h3) (fun H1 e1 => ev_var hR) fun p H1 e1 hp => rv_neRows hp (e1 _ _ h4) (paired_kr fun k hk => (h5 k hk).ex e1))) rfl
end
/-- what is due -/
inductive DueIs (zs : List Str) (rs : List Pr) (ks : List KR) (H : Hp) : V → Prop
  | no (h : brokenU zs ks rs = none) : DueIs zs rs ks H .non
  | yes (D t : Addr) (r : Pr) (k o : KR) (h : brokenU zs ks rs = some (r, k, o)) (hD : H D = some (.tup [.ref t, k.1, o.1])) (ht : PairAt H (.ref t) r) : DueIs zs rs ks H (.ref D)
theorem DueIs.ex {zs : List Str} {rs : List Pr} {ks : List KR} {H H' : Hp} {x : V} (h : DueIs zs rs ks H x) (e : Ex H H') : DueIs zs rs ks H' x := by
  cases h with
  | no h => exact .no h
  | yes D t r k o h hD ht => exact .yes D t r k o h (e _ _ hD) (ht.ex e)
theorem DueIs.b {zs : List Str} {rs : List Pr} {ks : List KR} {H : Hp} {x : V} (h : DueIs zs rs ks H x) : decide (x = .non) = (brokenU zs ks rs).isNone := by
  cases h with
  | no h => rw [h] <;> rfl
  | yes D t r k o h hD ht => rw [h] <;> rfl
theorem broken_mem {zs : List Str} {ks : List KR} {r : Pr} {k o : KR} : ∀ {rs : List Pr}, brokenU zs ks rs = some (r, k, o) → r ∈ rs ∧ k ∈ ks ∧ o ∈ ks
  | [], h => nomatch h
  | q :: rs, h => by
    have fm : ∀ {ks : List KR}, firstU zs q ks = some (k, o) → k ∈ ks ∧ o ∈ ks := fun {ks} => by
      induction ks with
      | nil => intro h; cases h
      | cons k0 ks ih =>
        intro h
        rw [firstU_find] at h
        cases hf : ks.find? fun o => !keepB zs q k0.2 o.2 with
        | none =>
          rw [hf] at h
          obtain ⟨a, b⟩ := ih h
          exact ⟨List.mem_cons_of_mem _ a, List.mem_cons_of_mem _ b⟩
        | some o' =>
          rw [hf] at h
          have h : (k0, o') = (k, o) := Option.some.inj h
          cases h
          exact ⟨List.mem_cons_self, List.mem_cons_of_mem _ (List.mem_of_find?_eq_some hf)⟩
    unfold brokenU at h
    cases hf : firstU zs q ks with
    | none =>
      rw [hf] at h
      obtain ⟨a, b⟩ := broken_mem h
      exact ⟨List.mem_cons_of_mem _ a, b⟩
    | some p =>
      obtain ⟨k', o'⟩ := p
      rw [hf] at h
      have h : (q, k', o') = (r, k, o) := Option.some.inj h
      cases h
      exact ⟨List.mem_cons_self, fm hf⟩
end Mv
/-! The rows are right. -/
namespace Mv
open PySem PySem.Spec PyProof.Rows L2 Evl
/-- what broken has found: new things -/
inductive FoundIs (zs : List Str) (rs : List Pr) (ks : List KR) (B H : Hp) : V → Prop
  | no (h : brokenU zs ks rs = none) : FoundIs zs rs ks B H .non
  | yes (p t v : Addr) (r : Pr) (k o : KR) (h : brokenU zs ks rs = some (r, k, o)) (bp : B p = none) (bv : B v = none) (hp : H p = some (.tup [.ref t, k.1, o.1])) (ht : H t = some (.tup [.ref v, .str r.2])) (hv : H v = some (.lst (r.1.map V.str))) : FoundIs zs rs ks B H (.ref p)
theorem FoundIs.ex {zs : List Str} {rs : List Pr} {ks : List KR} {B H H' : Hp} {x : V} (h : FoundIs zs rs ks B H x) (e : Ex H H') : FoundIs zs rs ks B H' x := by
  cases h with
  | no h => exact .no h
  | yes p t v r k o h bp bv hp ht hv => exact .yes p t v r k o h bp bv (e _ _ hp) (e _ _ ht) (e _ _ hv)
theorem BrkR.of {zs : List Str} {rs : List Pr} {ks : List KR} {H : Hp} {Q : VK} (k : ∀ v H2, Ex H H2 → FoundIs zs rs ks H H2 v → Q v H2) : BrkR zs rs ks H Q := by
  unfold BrkR
  cases hb : brokenU zs ks rs with
  | none => exact fun H2 e2 => k _ H2 e2 (.no hb)
  | some t =>
    obtain ⟨r, k1, o⟩ := t
    exact fun p t v H2 hp ht hv e2 h1 h2 h3 => k _ H2 e2 (.yes p t v r k1 o hb hp hv h1 h2 h3)
theorem DueR.of {zs : List Str} {rs : List Pr} {ks : List KR} {H : Hp} {Q : VK} (k : ∀ v H2, Ex H H2 → DueIs zs rs ks H2 v → Q v H2) : DueR zs rs ks H Q := by
  unfold DueR
  cases hb : brokenU zs ks rs with
  | none => exact fun H2 e2 => k _ H2 e2 (.no hb)
  | some t =>
    obtain ⟨r, k1, o⟩ := t
    exact fun p t H2 hp e2 h1 h2 => k _ H2 e2 (.yes p t r k1 o hb h1 h2)
theorem found_sm {zs : List Str} {rs ps : List Pr} {ks : List KR} {B H : Hp} {n : Nat} {x y : V} (h : FoundIs zs rs ks B H x) (h' : DueIs zs ps ks H y) (e : brokenU zs ks ps = brokenU zs ks rs) (hk : ∀ k ∈ ks, IsRow H k.1 k.2 ∧ k.2.length ≤ 200) (hl : ∀ r ∈ rs, r.1.length ≤ 200) : Sm H 4 x y := by
  cases h with
  | no h =>
    cases h' with
    | no _ => exact sm_prim .non
    | yes D t r k o h2 _ _ =>
      rw [h2, h] at e
      cases e
  | yes p t v r k o h bp bv hp ht hv =>
    cases h' with
    | no h2 =>
      rw [h2, h] at e
      cases e
    | yes D t2 r2 k2 o2 h2 hD ht2 =>
      rw [h2, h] at e
      cases e
      obtain ⟨m1, m2, m3⟩ := broken_mem h
      exact sm_tup hp hD (show 3 ≤ 200 by decide) (.cons (sm_pair (n := 0) ⟨t, v, rfl, ht, hv⟩ ht2 (hl r m1)) (.cons (sm_row (n := 1) (hk k m2).1 (hk k m2).2) (.cons (sm_row (n := 1) (hk o m3).1 (hk o m3).2) .nil)))
theorem paired_take {α β : Type} {F : α → β → Prop} : ∀ (n : Nat) {xs : List α} {ys : List β}, Paired F xs ys → Paired F (xs.take n) (ys.take n)
  | 0, _, _, _ => by rw [List.take_zero, List.take_zero]; exact .nil
  | n + 1, _, _, .nil => .nil
  | n + 1, _, _, .cons h t => .cons h (paired_take n t)
section
variable {K : PySem.W.Frag} {σ : L2.St} {H H' : Hp} {te tr : TE} {tA : TA} {Q : VK}
theorem t_sortP {rs : List Pr} (h : EvI te σ H PairS rs) (k : ∀ p us H2, H p = none → Ex H H2 → H2 p = some (.lst us) → Paired (PairAt H2) us (ordD encP rs) → Q (.ref p) H2) : tCB (rSortD K) (tCons te tNil) σ H Q := h H (Ex.refl H) _ fun l us H2 hl e2 h2 pp => by
  show rSortD K [.ref l] H2 Q
  refine sortD_use encP (sq_of h2) (Paired.imp (fun _ _ z => z.at'.dp) pp) alikeP (sortP rs) depthP fun us3 hF pm kn hkn => ?_
  exact k kn us3 _ (fresh_back e2 hkn) (e2.trans (Ex.new hkn)) upd_same (Paired.imp (fun _ _ z => (z.ex (Ex.new hkn)).at') (hF _ pp))
theorem t_call2 {sp : Sp} {E : XK} {P : V → Hp → Prop} {z : V} {vs : List V} (h1 : EvP te σ H P) (ha : ∀ H1, Ex H H1 → EvA tA σ H1 vs) (k : ∀ x H1 H2, Ex H H1 → Ex H1 H2 → P x H1 → sp ((z :: x :: vs) ++ []) H2 Q E) : tCall sp [] E (tCons (tC z) (tCons te tA)) σ H Q :=
  h1 H (Ex.refl H) _ fun x H1 e1 hP => ha H1 e1 H1 (Ex.refl _) _ fun H2 e2 => k x H1 H2 e1 e2 hP
theorem s_retBrk {c : Nat → Addr} {m : Str} {sp : Sp} {E : XK} {D : Ends} {zs : List Str} {rs : List Pr} (h : EvD c te σ H zs rs) (k : ∀ p H2, H p = none → Ex H H2 → DepR (c 9) H2 p zs (dueP rs) → ∃ dx fs, H2 p = some (.ins (c 9) dx fs) ∧ fs.lookup m = none ∧ tA σ H2 fun vs H3 => sp (.ref p :: (vs ++ [])) H3 (fun x H4 => D.rt (.bl (decide (x = .non))) H4) E) : tRet (tIsN (tMeth (c 9) m sp [] E te tA)) D σ H :=
  h H (Ex.refl H) _ fun p H2 hp e hD => let ⟨dx, fs, h1, h2, h3⟩ := k p H2 hp e hD; ⟨p, dx, fs, rfl, h1, h2, h3⟩
/-- columns if turn == 0 else tuple(columns) -/
theorem ep_cols {q : Addr} {xs : List V} {i1 i8 : Nat} {i : Int} (h1 : σ[i1]? = some (some (.ref q))) (h8 : σ[i8]? = some (some (.int i))) (hq : H q = some (.lst xs)) :
    EvP (tIf (tTest (tOp rEq (tVar i8) (tC (.int 0)))) (tVar i1) (tCB (rTupOf K) (tCons (tVar i1) tNil))) σ H (fun v H2 => ∃ p, v = .ref p ∧ Seq H2 p xs) := fun H1 e Q k =>
  (et_test (ev_op (ev_var h8) (ev_c (v := V.int 0)) (rv_eq rfl))) H1 e _ fun H2 e2 => by
    cases hb : decide (V.int i = V.int 0) with
    | true =>
      rw [if_pos rfl]
      exact ⟨_, h1, k _ H2 e2 ⟨q, rfl, .inl ((e.trans e2) _ _ hq)⟩⟩
    | false =>
      rw [if_neg Bool.false_ne_true]
      exact (eu_tupS (ev_var h1) hq) H2 (e.trans e2) _ fun p H3 hp e3 h3 => k _ H3 (e2.trans e3) ⟨p, rfl, .inr h3⟩
end
section
variable {P : Program} {w : World} {K : PySem.W.Frag} {mg : Str → Option Value} {base : Heap} {a : Nat → Addr} {d : Nat → FuncData} {tk : Nat → Tok} {c ci : Nat → Addr} {di : Nat → FuncData}
def sp__law_rows_right (K : PySem.W.Frag) (c : Nat → Addr) : Sp := fun vs H Q _ => ∃ (b p m dd : Addr) (zs : List Str) (us : List V) (rs : List Pr) (n : Nat) (bn : Bool), vs = [.ref b, .ref p, .ref m, .ref dd, .bl bn] ∧ H p = some (.lst (zs.map V.str)) ∧ 1 ≤ zs.length ∧ zs.length ≤ 5 ∧ zs.Nodup ∧ (∀ z ∈ zs, nameB z = true) ∧
  H m = some (.lst us) ∧ Paired (PairAt H) us rs ∧ (∀ r ∈ rs, RawP zs r) ∧ rs.length ≤ 10 ∧ DepR (c 9) H dd zs (dueP rs) ∧ BoxAt H b n ∧ n ≤ 40000 ∧ ∀ H2, ExB b H H2 → BoxAt H2 b (n + 1000) → Q (.bl true) H2
theorem ok__law_rows_right (T : All K mg a d tk c ci di) : FnG P w K mg base CX0 12 (a 28) (d 28) ["box", "columns", "pairs", "rules", "by_name"] (sp__law_rows_right K c) := by
  refine okG T.F__law_rows_right.fn sc__law_rows_right (fun vs H Q E h => ?_) (fun cdv A outer s H vs Q E hgd hr h => ?_)
  · obtain ⟨b, p, m, dd, zs, us, rs, n, bn, rfl, _⟩ := h
    rfl
  · obtain ⟨b, p, m, dd, zs, us, rs, n, bn, rfl, hp, l1, l5, ndz, hz, hm, hpr, hR, hrl, hD, hB, hn, k⟩ := h
    have nd := sc__law_rows_right.nd
    have hu0 := hr.units0
    have hu64 := hr.units
    have hu65 := hu65_of hr
    refine ⟨_, (pss_cons (ps_set (i := 5) nd rfl (Or.inl rfl) (pe_call (ok__law_drawn_rows T) (hr.mono (by decide)) rfl T.F__law_drawn_rows.m T.F__law_drawn_rows.kp T.F__law_drawn_rows.b .nil pass0 (pa_cons (pv 0) (pa_cons (pv 1) (pa_cons (pv 2) pa_nil)))))
 (pss_cons (ps_set (i := 6) nd rfl (Or.inl rfl) (pe_callB (cr_sortedD hu64) (by rfl) T.n_sorted PyProof.Rows.boot_sorted (pa_cons (pe_lc (own := [("left", 12), ("right", 13)]) (g := (gTup K 2 (gCons (gName 12) (gCons (gName 13) gNil)))) rfl nd (pi_list (pv 2)) (blkOk_by (N := N__law_rows_right) (sc := defScope s__law_rows_right) (by decide +kernel)) (fun _ _ _ _ _ => (pg_tup rfl (pgs_cons (pg_name (i := 12) nd rfl (Or.inl rfl)) (pgs_cons (pg_name (i := 13) nd rfl (Or.inl rfl)) pgs_nil)))) (fun _ _ _ _ _ => pts_nil) (fun _ _ _ _ _ => (pe_tup (pa_cons (pe_callB (show CallR _ (.builtin "sorted") (rSortedS K) from cr_sortedS) (by rfl) T.n_sorted PyProof.Rows.boot_sorted (pa_cons (pv 12) pa_nil)) (pa_cons (pv 13) pa_nil))))) pa_nil)))
 (pss_cons (ps_set (i := 7) nd rfl (Or.inl rfl) (pe_call (ok__law_due_broken T) (hr.mono (by decide)) rfl T.F__law_due_broken.m T.F__law_due_broken.kp T.F__law_due_broken.b .nil pass0 (pa_cons (pv 1) (pa_cons (pv 6) (pa_cons (pv 5) pa_nil)))))
 (pss_cons (ps_if (pt_cmpR op_ne (pe_cmp (pc_isN (pv 7))) (pe_call (ok__law_keep T) (hr.mono (by decide)) rfl T.F__law_keep.m T.F__law_keep.kp T.F__law_keep.b .nil pass0 (pa_cons (pv 1) (pa_cons (pv 2) (pa_cons (pv 5) pa_nil)))) (nomark _))
 (pss_one (ps_ret pe_bl))
 pss_nil)
 (pss_cons (ps_for PassesOwn.never rfl (pi_range1 rfl T.n_range (pa_cons pe_int pa_nil)) (pg_name (i := 8) nd rfl (Or.inl rfl))
 (pss_cons (ps_set (i := 9) nd rfl (Or.inl rfl) (pe_ifExp (pt_cmpR op_eq (pv 8) pe_int (nomark _)) (pe_callTy call_list_of rfl T.n_list PyProof.Rows.boot_list (pa_cons (pv 5) pa_nil)) (pe_callTy call_tuple_of rfl T.n_tuple PyProof.Rows.boot_tuple (pa_cons (pv 5) pa_nil))))
 (pss_cons (ps_set (i := 10) nd rfl (Or.inl rfl) (pe_call (ok__law_told T) (hr.mono (by decide)) rfl T.F__law_told.m T.F__law_told.kp T.F__law_told.b .nil pass0 (pa_cons pe_str (pa_cons (pv 3) (pa_cons (pv 9) (pa_cons (pe_cmpR op_eq (pv 4) (pe_cmpR op_eq (pv 8) pe_int (nomark _)) (nomark _)) pa_nil))))))
 (pss_cons (ps_if (PW.pt (pw_or (pt_not (pt_val (pe_callG (ok__law_same T) hgd (hr.mono (by decide)) rfl T.F__law_same.m T.F__law_same.kp T.F__law_same.b .nil pass0 (pa_cons (pv 10) (pa_cons (pe_lst (pa_cons pe_str (pa_cons (pv 7) pa_nil))) pa_nil))))) (pw_or1 (pt_cmpR (op_neD hu64) (pe_callTy call_list_of rfl T.n_list PyProof.Rows.boot_list (pa_cons (pv 9) pa_nil)) (pv 5) (nomark _)))))
 (pss_one (ps_ret pe_bl))
 pss_nil)
 (pss_one (ps_if (pt_cmp (pc_notN (pv 7)))
 (pss_one (ps_expr (pe_bm PySem.F.plainAttrs_list PySem.F.slot_list_append PySem.F.type_list_append mt_append (pe_ix ix_tup (pe_ix ix_seq (pe_ix ix_list (pv 10) pe_int (fun _ _ => rfl)) pe_int (fun _ _ => rfl)) pe_int (fun _ _ => rfl)) (pa_cons pe_str pa_nil))))
 pss_nil))))))
 (pss_cons (ps_set (i := 11) nd rfl (Or.inl rfl) (pe_call (ok__law_due_kept T) (hr.mono (by decide)) rfl T.F__law_due_kept.m T.F__law_due_kept.kp T.F__law_due_kept.b .nil pass0 (pa_cons (pv 1) (pa_cons (pv 5) pa_nil))))
 (pss_cons (ps_for PassesOwn.never rfl (pi_range1 rfl T.n_range (pa_cons pe_int pa_nil)) (pg_name (i := 8) nd rfl (Or.inl rfl))
 (pss_cons (ps_set (i := 9) nd rfl (Or.inl rfl) (pe_ifExp (pt_cmpR op_eq (pv 8) pe_int (nomark _)) (pe_callTy call_list_of rfl T.n_list PyProof.Rows.boot_list (pa_cons (pv 5) pa_nil)) (pe_callTy call_tuple_of rfl T.n_tuple PyProof.Rows.boot_tuple (pa_cons (pv 5) pa_nil))))
 (pss_cons (ps_set (i := 10) nd rfl (Or.inl rfl) (pe_call (ok__law_told T) (hr.mono (by decide)) rfl T.F__law_told.m T.F__law_told.kp T.F__law_told.b .nil pass0 (pa_cons pe_str (pa_cons (pe_ifExp (pt_cmpR op_eq (pv 8) pe_int (nomark _)) (pv 1) (pe_callTy call_tuple_of rfl T.n_tuple PyProof.Rows.boot_tuple (pa_cons (pv 1) pa_nil))) (pa_cons (pv 9) (pa_cons (pe_cmpR op_eq (pv 4) (pe_cmpR op_eq (pv 8) pe_int (nomark _)) (nomark _)) pa_nil))))))
 (pss_cons (ps_if (PW.pt (pw_or (pt_not (pt_val (pe_callG (ok__law_same T) hgd (hr.mono (by decide)) rfl T.F__law_same.m T.F__law_same.kp T.F__law_same.b .nil pass0 (pa_cons (pv 10) (pa_cons (pe_lst (pa_cons pe_str (pa_cons (pv 11) pa_nil))) pa_nil))))) (pw_or1 (pt_cmpR (op_neD hu64) (pe_callTy call_list_of rfl T.n_list PyProof.Rows.boot_list (pa_cons (pv 9) pa_nil)) (pv 5) (nomark _)))))
 (pss_one (ps_ret pe_bl))
 pss_nil)
 (pss_cons (ps_if (pt_cmpR (op_neNil hu0) (pe_ix ix_list (pv 10) pe_int (fun _ _ => rfl)) (pe_lst pa_nil) (nomark _))
 (pss_one (ps_expr (pe_bm PySem.F.plainAttrs_list PySem.F.slot_list_append PySem.F.type_list_append mt_append (pe_ix ix_tup (pe_ix ix_seq (pe_ix ix_list (pv 10) pe_int (fun _ _ => rfl)) pe_int (fun _ _ => rfl)) pe_int (fun _ _ => rfl)) (pa_cons pe_str pa_nil))))
 pss_nil)
 (pss_one (ps_expr (pe_bm PySem.F.plainAttrs_list PySem.F.slot_list_append PySem.F.type_list_append mt_append (pe_ix ix_list (pv 10) pe_int (fun _ _ => rfl)) (pa_cons pe_int pa_nil)))))))))
 (pss_one (ps_ret (pe_cmp (pc_isN (pe_meth (pe_make T.M_Dependencies (ok_Dependencies_init T) (hr.mono (by decide)) rfl T.m_Dependencies T.F_Dependencies_init.b .nil pass_cx (pa_cons (pv 1) (pa_cons (pe_slice sl_list (pv 11) po_none (po_some pe_int)) pa_nil))) T.C_Dependencies T.R_Dependencies_broken (ok_Dependencies_broken T) (hr.mono (by decide)) T.F_Dependencies_broken.b .nil pass_cx (pa_cons (pv 5) pa_nil))))))))))))), ?_⟩
    have NG : NmG zs := ⟨ndz, fun z h => ok_of_name (hz z h), l5⟩
    have DGr : DG zs (dueP rs) := dg_due l1 l5 hz ndz hR hrl
    have hPr : ∀ r ∈ rs, PrG zs r := fun r hr => ⟨(hR r hr).sub, (hR r hr).rz, by have := (hR r hr).l3; omega⟩
    have np := box_strs hB hp
    obtain ⟨hm0, hpr0⟩ := pairs_noB hB hm hpr
    have hp0 : noB b H p = some (.lst (zs.map V.str)) := by rw [noB_ne np]; exact hp
    have hD0 := dep_noB hB hD
    refine q_asg1 ⟨_, rfl, _, rfl, _, rfl, b, p, m, zs, us, rs, n, rfl, hp, hm, hpr, NG, hPr, hB, by omega, fun q ks G hq eG hBG hRw => ?_⟩
    have e0 := noB_exB eG
    have gp := e0 _ _ hp0
    have gm := e0 _ _ hm0
    have gpr := Paired.imp (fun _ _ z => PairAt.ex z e0) hpr0
    have gD := hD0.mono e0
    have fin : ∀ H2, Ex G H2 → Q (.bl true) H2 := fun H2 e2 => k H2 (eG.trans (Ex.b e2)) (hBG.ex e2)
    have lur := Paired.length gpr
    have rows200 : ∀ {H2 : Hp}, Ex G H2 → ∀ k ∈ ks, IsRow H2 k.1 k.2 ∧ k.2.length ≤ 200 := fun e k hk => ⟨(hRw.row k hk).ex e, by rw [(hRw.ok k hk).1]; omega⟩
    obtain ⟨L, hL⟩ := lefts gpr
    have kc : EvI (tLc (iList K (tVar 2)) (gTup K 2 (gCons (gName 12) (gCons (gName 13) gNil))) tYes (tTup (tCons (tCB (rSortedS K) (tCons (tVar 12) tNil)) (tCons (tVar 13) tNil))) [12, 13]) [some (.ref b), some (.ref p), some (.ref m), some (.ref dd), some (.bl bn), some (.ref q), none, none, none, none, none, none, none, none] G PairS (rs.map nrm) := by
      have z := ei_lcP (K := K) (tl := tVar 2) (σ := [some (.ref b), some (.ref p), some (.ref m), some (.ref dd), some (.bl bn), some (.ref q), none, none, none, none, none, none, none, none]) (H := G) (te := tTup (tCons (tCB (rSortedS K) (tCons (tVar 12) tNil)) (tCons (tVar 13) tNil))) (j1 := 12) (j2 := 13) (vs := [12, 13]) mv_P (fun i => .ref (L i)) (fun i => .str (rs.getD i ([], "")).2) (ev_var rfl) gm (by omega) (fun i x hx => let ⟨t, z1, z2, _⟩ := hL i x hx; ⟨t, z1, z2⟩) (fun _ _ => rfl) (fun i => nrm (rs.getD i ([], ""))) (fun i hi => by
        obtain ⟨t, _, _, z3⟩ := hL i _ (List.getElem?_eq_getElem hi)
        have hlen := (hR _ (getD_mem (d := (([], "") : Pr)) (show i < rs.length by omega))).l3
        exact em_pair (zs := srtS (rs.getD i ([], "")).1) (em_ofL (el_sortedS (ev_var (i := 12) rfl) z3 (by omega))) fun H1 _ => ev_var (i := 13) rfl)
      have e : (List.range us.length).map (fun i => nrm (rs.getD i ([], ""))) = rs.map nrm := by
        rw [lur]
        exact range_getD (([], "") : Pr) nrm rs
      rw [e] at z
      exact z
    refine q_asg1 (t_sortP (K := K) kc fun kn us3 H2 hkn e2 h2 pp3 => ?_)
    have hPk : ∀ r ∈ ordD encP (rs.map nrm), PrG zs r := fun r hr => by
      obtain ⟨r', hr', rfl⟩ := List.mem_map.mp (ordD_mem.mp hr)
      exact ⟨fun z hz => (hR r' hr').sub z (srtS_mem.mp hz), (hR r' hr').rz, by show (srtS r'.1).length ≤ 100; rw [srtS_len]; have := (hR r' hr').l3; omega⟩
    refine q_asg1 ⟨_, rfl, _, rfl, _, rfl, p, kn, q, zs, us3, ordD encP (rs.map nrm), ks, rfl, e2 _ _ gp, h2, pp3, (hRw.ex e2).law, NG, hPk, DueR.of fun dv H3 e3 hdue => ?_⟩
    have e23 := e2.trans e3
    refine q_when (b := false) (et_is (et_test (ev_op (ev_isN (ev_var (i := 7) rfl)) (ev_keepA (i1 := 1) (i2 := 2) (tr := tVar 5) (ks := ks) rfl (e23 _ _ gp) rfl (e23 _ _ gm) (Paired.imp (fun _ _ z => PairAt.ex z e23) gpr) ((hRw.ex e23).law.v (i := 5) rfl) NG hPr) (rv_ne rfl))) (by rw [hdue.b, due_keep, decide_eq_true rfl] <;> rfl)) (fun h => nomatch h) fun _ H4 e4 => ?_
    have e24 := e23.trans e4
    have hdue4 := hdue.ex e4
    let Pv : Nat → L2.St → Hp → Prop := fun i σ' H' => Ex H4 H' ∧ ∃ v8 v9 v10, σ' = [some (.ref b), some (.ref p), some (.ref m), some (.ref dd), some (.bl bn), some (.ref q), some (.ref kn), some dv, v8, v9, v10, none, none, none]
    refine q_forR1 (n := 2) (ea_cons ev_c ea_nil) ⟨by decide, by decide⟩ Pv (fun H5 e5 => ⟨e5, _, _, _, rfl⟩) ?_ ?_
    · rintro i σ' H5 hi ⟨e5, v8, v9, v10, rfl⟩
      have e25 := e24.trans e5
      refine q_asg1 ((es_passed (K := K) (σ := [some (.ref b), some (.ref p), some (.ref m), some (.ref dd), some (.bl bn), some (.ref q), some (.ref kn), some dv, some (.int (i : Int)), v9, v10, none, none, none]) (i5 := 5) (i8 := 8) rfl rfl (e25 _ _ hRw.hs)) H5 (Ex.refl _) _ fun ps H6 hps e6 h6 => ?_)
      have hsq := S2.seq h6
      have args : EvA (tCons (tC (.str "broken")) (tCons (tVar 3) (tCons (tVar 9) (tCons (tOp rEq (tVar 4) (tOp rEq (tVar 8) (tC (.int 0)))) tNil)))) [some (.ref b), some (.ref p), some (.ref m), some (.ref dd), some (.bl bn), some (.ref q), some (.ref kn), some dv, some (.int (i : Int)), some (.ref ps), v10, none, none, none] H6 [.str "broken", .ref dd, .ref ps, .bl (decide (V.bl bn = V.bl (decide (V.int (i : Int) = V.int 0))))] :=
        ea_cons ev_c (ea_cons (ev_var rfl) (ea_cons (ev_var rfl) (ea_cons (ev_by rfl rfl) ea_nil)))
      refine q_asg1 (t_call args fun H7 e7 => ⟨"broken", .ref dd, .ref ps, _, rfl, .brk dd zs (dueP rs) rfl rfl (gD.mono ((e25.trans e6).trans e7)) DGr (.good ps ks rfl ⟨hsq.ex e7, fun k hk => (hRw.row k hk).ex ((e25.trans e6).trans e7), hRw.ok, hRw.nd, by have := hRw.few; omega⟩ (BrkR.of fun v H8 e8 hF => fun Tt H9 hT e9 h9 => ?_))⟩)
      have e57 := (e5.trans e6).trans e7
      have e69 := (e7.trans e8).trans e9
      have e29 := (e25.trans e6).trans e69
      have hdue9 := hdue4.ex ((e5.trans e6).trans e69)
      have hF9 := hF.ex e9
      have sm := found_sm (n := 0) hF9 hdue9 broken_known (rows200 e29) (fun r hr => by have := (DGr.hr r hr).2.2; omega)
      refine q_when (b := false) (et_okay (K := K) (iT := 10) (iD := 7) (iP := 9) (iR := 5) (ks := ks) rfl rfl rfl rfl h9 sm (hsq.ex e69) (e29 _ _ hRw.hs) fun k hk => (hRw.row k hk).ex e29) (fun h => nomatch h) fun _ H10 e10 => ?_
      have e4_10 : Ex H4 H10 := ((e5.trans e6).trans e69).trans e10
      have hF10 := hF9.ex e10
      have hdue10 := hdue9.ex e10
      cases hF10 with
      | no h =>
        cases hdue10 with
        | no h' => exact s_when (b := false) (et_is (et_B (ev_notN (x := .non) (ev_var (i := 7) rfl))) rfl) (fun h => nomatch h) fun _ H11 e11 => ⟨e4_10.trans e11, _, _, _, rfl⟩
        | yes D t r k o h' _ _ =>
          rw [broken_known, h] at h'
          cases h'
      | yes pt tt vt r k1 o1 h bp bv hpt htt hvt =>
        cases hdue10 with
        | no h' =>
          rw [broken_known, h] at h'
          cases h'
        | yes D t r' k' o' h' _ _ =>
          refine s_when (b := true) (et_is (et_B (ev_notN (x := .ref D) (ev_var (i := 7) rfl))) rfl) (fun _ H11 e11 => ?_) fun h => nomatch h
          have h9' := e11 _ _ (e10 _ _ h9)
          refine s_app (e11 _ _ hvt) (ev_op (ev_op (ev_ixL (K := K) (ev_var (i := 10) rfl) ev_c (sq_of h9') (atI_nat (j := 1) (v := V.ref pt) rfl)) ev_c (rv_ixS (.inr (e11 _ _ hpt)) (atI_nat (j := 0) (v := V.ref tt) rfl))) ev_c (rv_ixT (st_of (e11 _ _ htt)) (atI_nat (j := 0) (v := V.ref vt) rfl))) (ev_c (v := V.str "more")) (by rw [List.length_map]; have := (DGr.hr r (broken_mem h).1).2.2; omega) fun H12 e12 => ?_
          exact ⟨Ex.mut ((e4_10.trans e11).trans e12) (fresh_back e57 bv), _, _, _, rfl⟩
    · rintro σ' H5 ⟨e5, v8, v9, v10, rfl⟩
      have e25 := e24.trans e5
      refine q_asg1 ⟨_, rfl, _, rfl, p, q, zs, ks, rfl, e25 _ _ gp, (hRw.ex e25).law, NG, fun kp us4 H6 hkp e6 h6 pp6 => ?_⟩
      have e26 := e25.trans e6
      have memK : ∀ r ∈ dueK zs (ks.map (·.2)), KFd zs r (ks.map (·.2)) ∧ r.2 ∈ zs ∧ (∀ y ∈ r.1, y ∈ zs ∧ y ≠ r.2) ∧ r.1.Nodup ∧ r.1.length ≤ 5 := fun r hr => dueK_mem NG hr
      let Pk : Nat → L2.St → Hp → Prop := fun i σ' H' => Ex H6 H' ∧ ∃ v8 v9 v10, σ' = [some (.ref b), some (.ref p), some (.ref m), some (.ref dd), some (.bl bn), some (.ref q), some (.ref kn), some dv, v8, v9, v10, some (.ref kp), none, none]
      refine q_forR1 (n := 2) (ea_cons ev_c ea_nil) ⟨by decide, by decide⟩ Pk (fun H7 e7 => ⟨e7, _, _, _, rfl⟩) ?_ ?_
      · rintro i σ' H7 hi ⟨e7, v8, v9, v10, rfl⟩
        have e27 := e26.trans e7
        refine q_asg1 ((es_passed (K := K) (σ := [some (.ref b), some (.ref p), some (.ref m), some (.ref dd), some (.bl bn), some (.ref q), some (.ref kn), some dv, some (.int (i : Int)), v9, v10, some (.ref kp), none, none]) (i5 := 5) (i8 := 8) rfl rfl (e27 _ _ hRw.hs)) H7 (Ex.refl _) _ fun ps H8 hps e8 h8 => ?_)
        have hsq := S2.seq h8
        have e28 := e27.trans e8
        refine q_asg1 (t_call2 (σ := [some (.ref b), some (.ref p), some (.ref m), some (.ref dd), some (.bl bn), some (.ref q), some (.ref kn), some dv, some (.int (i : Int)), some (.ref ps), v10, some (.ref kp), none, none]) (vs := [.ref ps, .bl (decide (V.bl bn = V.bl (decide (V.int (i : Int) = V.int 1))))]) (ep_cols (K := K) (i1 := 1) (i8 := 8) rfl rfl (e28 _ _ gp)) (fun H9 e9 => ea_cons (ev_var (i := 9) rfl) (ea_cons (ev_by rfl rfl) ea_nil)) fun x H9 H10 e9 e10 hx => ?_)
        obtain ⟨cp, rfl, hcp⟩ := hx
        have e8_10 := e9.trans e10
        have e2_10 := e28.trans e8_10
        refine ⟨"kept", .ref cp, .ref ps, _, rfl, .kept rfl (.good cp ps zs ks rfl rfl (hcp.ex e10) l1 l5 hz ndz ⟨hsq.ex e8_10, fun k hk => (hRw.row k hk).ex e2_10, hRw.ok, hRw.nd, by have := hRw.few; omega⟩ fun pt us5 H11 hpt e11 h11 pp11 => fun Tt H12 hT e12 h12 => ?_)⟩
        rw [keptU_due l5 ndz] at pp11
        have e6_10 : Ex H6 H10 := (e7.trans e8).trans e8_10
        have e6_12 : Ex H6 H12 := (e6_10.trans e11).trans e12
        have e2_12 := e26.trans e6_12
        have pp12 := Paired.imp (fun _ _ (z : PairS _ H11 _ _) => z.ex e12) pp11
        have h11' := e12 _ _ h11
        have l200 := dueK_len (ws := ks.map (·.2)) l5
        have sm : Sm H12 4 (.ref pt) (.ref kp) := sm_prs (n := 0) h11' (e6_12 _ _ h6) (Paired.imp (fun _ _ z => z.at') pp12) (Paired.imp (fun _ _ z => z.ex e6_12) pp6) l200 fun r hr => by have := (memK r hr).2.2.2.2; omega
        refine q_when (b := false) (et_okay (K := K) (iT := 10) (iD := 11) (iP := 9) (iR := 5) (ks := ks) rfl rfl rfl rfl h12 sm (hsq.ex ((e8_10.trans e11).trans e12)) (e2_12 _ _ hRw.hs) fun k hk => (hRw.row k hk).ex e2_12) (fun h => nomatch h) fun _ H13 e13 => ?_
        have e6_13 := e6_12.trans e13
        have h12' := e13 _ _ h12
        have h11'' := e13 _ _ h11'
        have lu5 := Paired.length pp11
        have ptf : H6 pt = none := fresh_back e6_10 hpt
        have ix1 : ∀ {σ1 : L2.St} {H14 : Hp}, σ1[10]? = some (some (.ref Tt)) → H14 Tt = some (.lst [.str "told", .ref pt]) → Ev (tOp (rIxL K) (tVar 10) (tC (.int 1))) σ1 H14 (.ref pt) := fun h10 h => ev_ixL (ev_var h10) ev_c (sq_of h) (atI_nat (j := 1) (v := V.ref pt) rfl)
        refine q_when (b := !us5.isEmpty) (et_test (ev_neNil (ix1 rfl h12') h11'')) (fun hb H14 e14 => ?_) fun hb H14 e14 => ?_
        · cases us5 with
          | nil => cases hb
          | cons u0 us6 =>
            obtain ⟨r0, hr0, t0, v0, rfl, s1, s2, ht0, hv0⟩ := Paired.at_l pp11 0 u0 rfl
            have e11_14 := (e12.trans e13).trans e14
            have nTv : Tt ≠ v0 := fun z => by rw [z, hv0] at hT; cases hT
            have nPv : pt ≠ v0 := fun z => by
              rw [z, hv0] at h11
              injection h11 with h11
              injection h11 with h11
              cases hr1 : r0.1 with
              | nil => rw [hr1] at h11; cases h11
              | cons y ys => rw [hr1] at h11; cases h11
            have lr0 : r0.1.length ≤ 5 := (memK r0 (List.mem_of_getElem? hr0)).2.2.2.2
            refine s_app (e11_14 _ _ hv0) (ev_op (ev_op (ix1 rfl (e14 _ _ h12')) ev_c (rv_ixS (.inl (e14 _ _ h11'')) (atI_nat (j := 0) (v := V.ref t0) rfl))) ev_c (rv_ixT (st_of (e11_14 _ _ ht0)) (atI_nat (j := 0) (v := V.ref v0) rfl))) (ev_c (v := V.str "more")) (by rw [List.length_map]; omega) fun H15 e15 => ?_
            have hT15 : (upd H15 v0 (.lst (r0.1.map V.str ++ [.str "more"]))) Tt = some (.lst [.str "told", .ref pt]) := by rw [upd_ne nTv]; exact e15 _ _ (e14 _ _ h12')
            have hP15 : (upd H15 v0 (.lst (r0.1.map V.str ++ [.str "more"]))) pt = some (.lst (.ref t0 :: us6)) := by rw [upd_ne nPv]; exact e15 _ _ (e14 _ _ h11'')
            have eM : Ex H6 (upd H15 v0 (.lst (r0.1.map V.str ++ [.str "more"]))) := Ex.mut ((e6_13.trans e14).trans e15) (fresh_back e6_10 s2)
            refine s_app hP15 (ix1 rfl hT15) (ev_c (v := V.int 7)) (by omega) fun H16 e16 => ?_
            exact ⟨Ex.mut (eM.trans e16) ptf, _, _, _, rfl⟩
        · refine s_app (e14 _ _ h11'') (ix1 rfl (e14 _ _ h12')) (ev_c (v := V.int 7)) (by omega) fun H16 e16 => ?_
          exact ⟨Ex.mut ((e6_13.trans e14).trans e16) ptf, _, _, _, rfl⟩
      · rintro σ' H7 ⟨e7, v8, v9, v10, rfl⟩
        have e27 := e26.trans e7
        have hkp7 := e7 _ _ h6
        have pp7 := Paired.imp (fun _ _ z => PairAt.ex z e7) pp6
        let P10 := (dueK zs (ks.map (·.2))).take 10
        have memP : ∀ r ∈ P10, r ∈ dueK zs (ks.map (·.2)) := fun r hr => List.mem_of_mem_take hr
        have goodP : ∀ {H8 : Hp}, Ex H7 H8 → Paired (fun u r => GoodP zs u H8 (nrm r)) (us4.take 10) P10 := fun {H8} e8 => Paired.imp (fun u r ⟨hu, hm⟩ => by
          obtain ⟨t, v, h1, h2, h3⟩ := hu
          obtain ⟨_, m2, m3, m4, m5⟩ := memK r (memP r hm)
          exact ⟨t, v, r.1, h1, e8 _ _ h2, .inl (e8 _ _ h3), m5, fun y hy => (m3 y hy).1, m4, m2, fun z => (m3 r.2 z).2 rfl, rfl⟩) (paired_mem (paired_take 10 pp7))
        have mk : EvD c (tMake (c 9) (sp_Dependencies_init K c) [] (fun _ _ _ => False) (tCons (tVar 1) (tCons (tSl (rSlL K) (tVar 11) tNoPart (tPart (tC (.int 10)))) tNil))) [some (.ref b), some (.ref p), some (.ref m), some (.ref dd), some (.bl bn), some (.ref q), some (.ref kn), some dv, v8, v9, v10, some (.ref kp), none, none] H7 zs P10 := made_D fun H8 e8 Q8 q8 => by
          refine ⟨_, rfl, ?_⟩
          refine (el_sl (K := K) (ev_var (i := 11) rfl) eo_none (eo_some (ev_c (v := V.int 10))) (sq_of (e8 _ _ hkp7))) H8 (Ex.refl _) _ fun sl H9 hsl e9 h9 => ?_
          have e79 := e8.trans e9
          rw [show ∀ xs : List V, cutV xs none (some 10) = cutV xs none (some ((10 : Nat) : Int)) from fun _ => rfl, cutV_take] at h9
          exact q8 _ _ H9 e9 (madeG l1 l5 hz ndz (.inl ((e27.trans e79) _ _ gp)) (.inl h9) (by rw [List.length_take]; omega) (goodP e79))
        have hnone : brokenU zs ks (dueP P10) = none := broken_none.mpr fun r hr => by
          obtain ⟨r', hr', rfl⟩ := List.mem_map.mp (dueP_mem.mp hr)
          exact kfd_nrm.mpr (memK r' (memP r' hr')).1
        have DGp : DG zs (dueP P10) := by
          refine ⟨l1, l5, hz, ndz, fun r hr => ?_, ?_, fun r hr => ?_⟩
          · obtain ⟨r', hr', rfl⟩ := List.mem_map.mp (dueP_mem.mp hr)
            obtain ⟨_, m2, m3, m4, m5⟩ := memK r' (memP r' hr')
            exact ⟨fun z hz => NG.ok z (m3 z (srtS_mem.mp hz)).1, NG.ok _ m2, by show (srtS r'.1).length ≤ 100; rw [srtS_len]; omega⟩
          · have h1 := dueP_len P10
            have h2 : P10.length ≤ 10 := by rw [List.length_take]; omega
            omega
          · obtain ⟨r', hr', rfl⟩ := List.mem_map.mp (dueP_mem.mp hr)
            exact (memK r' (memP r' hr')).2.1
        refine s_retBrk mk fun dp H8 hdp e8 hD8 => ?_
        have hD8' := hD8
        obtain ⟨dx, l, m', us', g1, g2, g3, g4⟩ := hD8'
        have lk : (flD l m').lookup ("broken" : Str) = none := flD_no (by decide +kernel) (by decide +kernel)
        refine ⟨dx, _, g1, lk, _, rfl, dp, zs, dueP P10, .ref q, rfl, hD8, DGp, .good q ks rfl (hRw.ex (e27.trans e8)).good ?_⟩
        unfold BrkR
        rw [hnone]
        exact fun H9 e9 => fin H9 ((e27.trans e8).trans e9)
end
end Mv
/-! Values that are no rows. -/
namespace Mv
open PySem PySem.Spec PyProof.Rows L2 Evl
theorem noB_ex2 {b : Addr} {H1 H2 : Hp} (e : Ex H1 H2) : Ex (noB b H1) (noB b H2) := fun a o h => by
  by_cases ea : a = b
  · rw [ea, noB_b] at h
    cases h
  · rw [noB_ne ea] at h ⊢
    exact e a o h
theorem noB_exB2 {b : Addr} {H1 H2 : Hp} (e : ExB b H1 H2) : Ex (noB b H1) (noB b H2) := fun a o h => by
  by_cases ea : a = b
  · rw [ea, noB_b] at h
    cases h
  · rw [noB_ne ea] at h ⊢
    exact e a o ea h
/-- no list of rows of the width n, wherever the box is -/
def NoR (K : PySem.W.Frag) (b : Addr) (n : Nat) : V → Hp → Prop := fun v H => RowsO K (noB b H) n v false ∧ Sm (noB b H) 3 v v
theorem sta_NoR {K : PySem.W.Frag} {b : Addr} {n : Nat} : Sta (NoR K b n) := fun _ _ _ ⟨h1, h2⟩ e => ⟨h1.ex (noB_ex2 e), h2.ex (noB_ex2 e)⟩
theorem NoR.exB {K : PySem.W.Frag} {b : Addr} {n : Nat} {v : V} {H1 H2 : Hp} (h : NoR K b n v H1) (e : ExB b H1 H2) : NoR K b n v H2 := ⟨h.1.ex (noB_exB2 e), h.2.ex (noB_exB2 e)⟩
/-- a thing in such a list -/
def ItD (b : Addr) (dd : PyData) : V → Hp → Prop := fun v H => Da (noB b H) v dd ∧ Sm (noB b H) 2 v v
theorem sta_ItD {b : Addr} {dd : PyData} : Sta (ItD b dd) := fun _ _ _ ⟨h1, h2⟩ e => ⟨h1.ex (noB_ex2 e), h2.ex (noB_ex2 e)⟩
theorem daRep {H : Hp} {x : V} {dd : PyData} (h : Da H x dd) : ∀ n : Nat, DaAll H (List.replicate n x) (List.replicate n dd)
  | 0 => .nil
  | n + 1 => .cons h (daRep h n)
theorem smRep {H : Hp} {x : V} {m : Nat} (h : Sm H m x x) : ∀ n : Nat, Paired (Sm H m) (List.replicate n x) (List.replicate n x)
  | 0 => .nil
  | n + 1 => .cons h (smRep h n)
theorem rep_int (n : Nat) (i : Int) : List.replicate n (V.int i) = (List.replicate n i).map V.int := by rw [List.map_replicate]
section
variable {K : PySem.W.Frag} {σ : L2.St} {H H' : Hp} {ta tb tc te tl : TE} {x y z v : V} {b : Addr} {m n : Nat} {P R : V → Hp → Prop} {dd : PyData}
theorem el_repV {k : Nat} {xs : List V} (h : EvL ta σ H xs) (hb : ∀ H1, Ex H H1 → Ev tb σ H1 (.int (k : Int))) (h1 : k ≤ 20) (h2 : xs.length ≤ 20) : EvL (tOp rRep ta tb) σ H (List.replicate k xs).flatten := fun H1 e Q q => h H1 e _ fun l H2 hl e2 hl2 => hb H2 (e.trans e2) H2 (Ex.refl _) _ fun H3 e3 => by
  refine ⟨l, (k : Int), xs, rfl, rfl, e3 _ _ hl2, by omega, by omega, ?_, fun p hp => ?_⟩
  · have e0 : ((k : Int)).toNat = k := by omega
    rw [e0, sizeLine_eq]
    have : xs.length * k ≤ 20 * 20 := Nat.mul_le_mul h2 h1
    omega
  · have e0 : ((k : Int)).toNat = k := by omega
    rw [e0]
    exact q p _ (fresh_back (e2.trans e3) hp) ((e2.trans e3).trans (Ex.new hp)) upd_same
/-- tuple([x] * k) -/
theorem eu_repV {k : Nat} (h : Ev ta σ H x) (hb : ∀ H1, Ex H H1 → Ev tb σ H1 (.int (k : Int))) (h1 : k ≤ 20) : EvU (tCB (rTupOf K) (tCons (tOp rRep (tLst (tCons ta tNil)) tb) tNil)) σ H (List.replicate k x) := by
  have z := el_repV (k := k) (el_lst (ea_cons h ea_nil) (show 1 ≤ 100000 by decide)) hb h1 (show 1 ≤ 20 by decide)
  rw [rep1] at z
  exact eu_tupL z
theorem nb_of (hB : BoxAt H b m) {H1 : Hp} {l : Addr} (e : Ex H H1) (hl : H1 l = none) : l ≠ b := Ne.symm ((hB.ex e).ne hl)
theorem nb_at {H2 : Hp} {l : Addr} {o : HO} (h : l ≠ b) (hl : H2 l = some o) : noB b H2 l = some o := by rw [noB_ne h]; exact hl
/-- [y] -/
theorem ep_one (hB : BoxAt H b m) (h : EvP te σ H P) (sP : Sta P) : EvP (tLst (tCons te tNil)) σ H (fun v H2 => ∃ l y, v = .ref l ∧ noB b H2 l = some (.lst [y]) ∧ P y H2) := fun H1 e Q q => h H1 e _ fun y H2 e2 hy => ⟨sz_of (show 1 ≤ 100000 by decide), fun l hl => q _ _ (e2.trans (Ex.new hl)) ⟨l, y, rfl, nb_at (nb_of hB (e.trans e2) hl) upd_same, sP _ _ _ hy (Ex.new hl)⟩⟩
/-- [x, y] -/
theorem ep_two {i5 : Nat} (hB : BoxAt H b m) (h5 : σ[i5]? = some (some x)) (h : EvP te σ H P) (sP : Sta P) : EvP (tLst (tCons (tVar i5) (tCons te tNil))) σ H (fun v H2 => ∃ l y, v = .ref l ∧ noB b H2 l = some (.lst [x, y]) ∧ P y H2) := fun H1 e Q q => ⟨_, h5, h H1 e _ fun y H2 e2 hy => ⟨sz_of (show 2 ≤ 100000 by decide), fun l hl => q _ _ (e2.trans (Ex.new hl)) ⟨l, y, rfl, nb_at (nb_of hB (e.trans e2) hl) upd_same, sP _ _ _ hy (Ex.new hl)⟩⟩⟩
/-- one thing that is no row -/
theorem noR_one (hB : BoxAt H b m) (h : EvP te σ H (ItD b dd)) (hd : rowB (n : Int) dd = false) : EvP (tLst (tCons te tNil)) σ H (NoR K b n) := (ep_one hB h sta_ItD).imp fun v H2 _ ⟨l, y, e1, h1, h2, h3⟩ => by
  subst e1
  exact ⟨.bad (ds := [dd]) (.inl h1) (show 1 ≤ 40 by decide) (.cons h2 .nil) (by rw [List.all_cons, hd, Bool.false_and]), sm_lst h1 h1 (show 1 ≤ 200 by decide) (.cons h3 .nil)⟩
/-- a thing, and one that is no row -/
theorem noR_two {i5 : Nat} {d0 : PyData} (hB : BoxAt H b m) (h5 : σ[i5]? = some (some x)) (hx : ItD b d0 x H) (h : EvP te σ H (ItD b dd)) (hd : rowB (n : Int) dd = false) : EvP (tLst (tCons (tVar i5) (tCons te tNil))) σ H (NoR K b n) := (ep_two hB h5 h sta_ItD).imp fun v H2 e2 ⟨l, y, e1, h1, h2, h3⟩ => by
  subst e1
  obtain ⟨g1, g2⟩ := sta_ItD _ _ _ hx e2
  exact ⟨.bad (ds := [d0, dd]) (.inl h1) (show 2 ≤ 40 by decide) (.cons g1 (.cons h2 .nil)) (by rw [List.all_cons, List.all_cons, hd, Bool.false_and, Bool.and_false]), sm_lst h1 h1 (show 2 ≤ 200 by decide) (.cons g2 (.cons h3 .nil))⟩
theorem itD_tup {xs : List V} {ds : List PyData} (hB : BoxAt H b m) (h : EvU te σ H xs) (hd : ∀ H1, DaAll H1 xs ds) (hs : ∀ H1, Paired (Sm H1 1) xs xs) (l : xs.length ≤ 200) : EvP te σ H (ItD b (.tuple ds)) := fun H1 e Q q => h H1 e _ fun p H2 hp e2 h2 => by
  have hn := nb_at (nb_of hB e hp) h2
  exact q _ _ e2 ⟨.tup hn (hd _), sm_tup hn hn l (hs _)⟩
theorem itD_lst {xs : List V} {ds : List PyData} (hB : BoxAt H b m) (h : EvL te σ H xs) (hd : ∀ H1, DaAll H1 xs ds) (hs : ∀ H1, Paired (Sm H1 1) xs xs) (l : xs.length ≤ 200) : EvP te σ H (ItD b (.list ds)) := fun H1 e Q q => h H1 e _ fun p H2 hp e2 h2 => by
  have hn := nb_at (nb_of hB e hp) h2
  exact q _ _ e2 ⟨.lst hn (hd _), sm_lst hn hn l (hs _)⟩
theorem noR_of {v1 v2 v3 : Bool} (h : ∀ H1, Is5 K H1 x v1 v2 v3 false false) (s : ∀ H1, Sm H1 3 x x) (hx : Ev te σ H x) : EvP te σ H (NoR K b n) := ep_of hx fun H1 _ => ⟨.oth (.oth (h _)), s _⟩
theorem da_ints (r : List Int) : ∀ H1, DaAll H1 (r.map V.int) (r.map PyData.int) := fun H1 => daInts r
theorem rowB_len {ds : List PyData} (h : ds.length ≠ n) : rowB (n : Int) (.tuple ds) = false := by
  show (decide ((ds.length : Int) = (n : Int)) && _) = false
  rw [decide_eq_false (fun z => h (by omega)), Bool.false_and]
theorem rowB_rep {dd : PyData} (h : intIn 0 999 dd = false) (h1 : 1 ≤ n) : rowB (n : Int) (.tuple (List.replicate n dd)) = false := by
  show (_ && (List.replicate n dd).all (intIn 0 999)) = false
  cases n with
  | zero => omega
  | succ n => rw [List.replicate_succ, List.all_cons, h, Bool.false_and, Bool.and_false]
/-- xs + (0,) -/
theorem eu_catT {q : Addr} {xs ys : List V} {tA : TA} (h : Ev ta σ H (.ref q)) (hq : H q = some (.tup xs)) (hne : xs ≠ []) (hy : EvA tA σ H ys) (hyn : ys ≠ []) (l : xs.length + ys.length ≤ 1000) : EvU (tOp (rCatT K) ta (tTup tA)) σ H (xs ++ ys) := fun H1 e Q k => h H1 e _ fun H2 e2 => hy H2 (e.trans e2) _ fun H3 e3 => ⟨sz_of (by omega), fun p hp => ⟨q, p, xs, ys, rfl, rfl, st_of ((Ex.new hp) _ _ (e3 _ _ ((e.trans e2) _ _ hq))), st_of upd_same, hne, sz_of (by omega), fun z => absurd z hyn, fun _ r hr => k r _ (fresh_back ((e2.trans e3).trans (Ex.new hp)) hr) (((e2.trans e3).trans (Ex.new hp)).trans (Ex.new hr)) upd_same⟩⟩
/-- xs[1:], a tuple -/
theorem eu_drop1 {q : Addr} {xs : List V} (h : Ev ta σ H (.ref q)) (hq : H q = some (.tup xs)) (h1 : 1 ≤ xs.length) : EvU (tSl (rSlT K) ta (tPart (tC (.int 1))) tNoPart) σ H (xs.drop 1) := fun H1 e Q k => h H1 e _ fun H2 e2 => (eo_some (ev_c (v := .int 1))) H2 (Ex.refl _) _ fun H3 e3 => by
  refine ⟨q, xs, rfl, st_of (((e.trans e2).trans e3) _ _ hq), fun hh => ?_, fun p hp => ?_⟩
  · have := hh.1
    rw [show HT.sIx xs.length 0 (some 1) = HT.sIx xs.length 0 (some ((1 : Nat) : Int)) from rfl, HT.sIx_nat] at this
    omega
  · rw [show cutV xs (some 1) none = cutV xs (some ((1 : Nat) : Int)) none from rfl, cutV_drop xs 1 h1]
    exact k p _ (fresh_back (e2.trans e3) hp) ((e2.trans e3).trans (Ex.new hp)) upd_same
/-- rows that are new -/
def RwS : ItP (List Int) := fun S H u r => ∃ t, u = .ref t ∧ S t ∧ H t = some (.tup (r.map V.int))
theorem mv_Rw : MvP RwS := fun _ _ _ _ _ _ ⟨t, h1, h2, h3⟩ e => ⟨t, h1, (e _ _ h2 h3).1, (e _ _ h2 h3).2⟩
theorem em_rw {r : List Int} (h : EvU te σ H (r.map V.int)) : EvM te σ H RwS r := fun H1 e Q k => h H1 e _ fun p H2 hp e2 h2 => k _ _ e2 ⟨p, rfl, hp, h2⟩
/-- [e for k in range(n)], new things -/
theorem ei_lcR {M : Type} {It : ItP M} {tA : TA} {j N : Nat} {vs : List Nat} (hv : MvP It) (h : EvA tA σ H [.int (N : Int)]) (hN : N ≤ 1000) (hw : ∀ x, wipe ((wipe σ vs).set j (some x)) vs = wipe σ vs) (mm : Nat → M) (he : ∀ i, i < N → EvM te ((wipe σ vs).set j (some (.int (i : Int)))) H It (mm i)) :
    EvI (tLc (iRng1 tA) (gName j) tYes te vs) σ H It ((List.range N).map mm) := fun H0 e Q q => h H0 e _ fun H1 e1 => ⟨(N : Int), rfl, by omega, by omega, fun Dl hD => by
  rw [Int.toNat_natCast]
  refine lc_it (walk_range (lo := 0) (n := N)) (fun i H' => Ci It H1 Dl ((List.range i).map mm) H') (Ci.start hD) (fun _ _ _ _ => trivial) ?_ ?_
  · rintro i x H2 H2' hi p ⟨rfl, rfl⟩
    have e0 : (0 : Int) + (i : Int) = (i : Int) := Int.zero_add _
    dsimp only
    rw [e0]
    have z := ci_turn (te := te) (σ2 := (wipe σ vs).set j (some (.int (i : Int)))) (m := mm i) hv p (by rw [List.length_map, List.length_range]; omega) ((he i hi).mono ((e.trans e1).trans p.2.1))
    refine ⟨hw _, ?_⟩
    rw [List.range_succ, List.map_append]
    exact z
  · intro H2 p
    obtain ⟨p1, p2, us, p3, p4⟩ := p
    exact q Dl us H2 (fresh_back e1 p1) (e1.trans p2) p3 (Paired.imp (fun _ _ z => hv _ _ _ _ _ _ z fun a o s ha => ⟨⟨fresh_back e1 s.1, s.2⟩, ha⟩) p4)⟩
/-- what is told, whatever it is, is not told otherwise -/
theorem et_toldP (h : ∀ H1, Ex H H1 → ∀ Q : VK, (∀ T v H2, Ex H1 H2 → H2 T = some (.lst [.str "told", v]) → Q (.ref T) H2) → te σ H1 Q) : EvT (tTest (tOp rNe (tOp (rIxL K) te (tC (.int 0))) (tC (.str "told")))) σ H false := by
  refine et_is (et_test (ev_op (x := .str "told") (fun H1 e Q q => h H1 e _ fun T v H2 e2 hT => ?_) ev_c (rv_ne rfl))) (by rw [decide_eq_true rfl] <;> rfl)
  exact (ev_c (v := .int 0)) H2 (Ex.refl _) _ fun H3 e3 => (rv_ixL (K := K) (sq_of (e3 _ _ hT)) (atI_nat (j := 0) (v := .str "told") rfl)) H3 (Ex.refl _) Q fun H4 e4 => q H4 ((e2.trans e3).trans e4)
end
/-- rows [k, 0, 0, ..] -/
def manyR (n k : Nat) : List Int := (k : Int) :: List.replicate (n - 1) 0
theorem manyR_ok {n k : Nat} (h1 : 1 ≤ n) (hk : k ≤ 999) : OkRow n (manyR n k) := by
  refine ⟨by unfold manyR; rw [List.length_cons, List.length_replicate]; omega, fun i hi => ?_⟩
  rcases List.mem_cons.mp hi with h | h
  · rw [h]; omega
  · rw [(List.mem_replicate.mp h).2]; decide
theorem many_nd (n N : Nat) : ((List.range N).map (manyR n)).Nodup := by
  rw [List.nodup_iff_pairwise_ne, List.pairwise_map]
  refine List.Pairwise.imp (fun {a b} h e => h ?_) (List.nodup_iff_pairwise_ne.mp List.nodup_range)
  unfold manyR at e
  injection e with e
  omega
/-- what is told of wrong columns -/
theorem NoCols.cols {K : PySem.W.Frag} {c : Nat → Addr} {x : V} {w : Str} {H : Hp} (h : NoCols K x w H) : ∃ z : V, (w = "columns" → z = x) ∧ ∀ H1, Ex H H1 → ∀ Q, RetT w z H1 Q → ∃ o, ListR K H1 x o ∧ colsO K c x H1 (fun _ _ => False) (tE c Q) o := by
  obtain ⟨o, i, z, h1, h2, h3, h4⟩ := h
  refine ⟨z, fun hw => ?_, fun H1 e Q k => ⟨o, h3.ex e, ?_⟩⟩
  · rcases h4 with ⟨_, _, e3⟩ | ⟨p, xs, e1, ⟨hn, e2, e3⟩ | ⟨l1, l2, bs, hp, hwk⟩⟩
    · exact e3
    · exact e3
    · exfalso
      have : i = 0 ∨ i = 2 := by
        clear h1 h2 h3 hp l1 l2
        have go : ∀ (ys : List (V × Bool)) (f : List V), walkC ys f = some (i, z) → i = 0 ∨ i = 2 := by
          intro ys
          induction ys with
          | nil => intro f h; cases h
          | cons y ys ih =>
            obtain ⟨y1, y2⟩ := y
            intro f h
            unfold walkC at h
            by_cases hb : y2 = false
            · rw [if_pos hb] at h
              cases h
              exact .inl rfl
            · rw [if_neg hb] at h
              by_cases hm : y1 ∈ f
              · rw [if_pos hm] at h
                cases h
                exact .inr rfl
              · rw [if_neg hm] at h
                exact ih _ h
        exact go _ _ hwk
      rw [hw] at h2
      rcases this with q | q
      · rw [q] at h2
        exact absurd h2 (by decide +kernel)
      · rw [q] at h2
        exact absurd h2 (by decide +kernel)
  · have r : Rs c i z H1 (tE c Q) := Rs.t h1 (by rw [h2]; exact k)
    rcases h4 with ⟨e1, e2, e3⟩ | ⟨p, xs, e1, h4⟩
    · subst e1 e2 e3
      exact r
    · subst e1
      rcases h4 with ⟨hn, e2, e3⟩ | ⟨l1, l2, bs, hp, hw⟩
      · subst e2 e3
        exact .inl ⟨hn, r⟩
      · refine .inr ⟨l1, l2, bs, Paired.imp (fun _ _ z => z.ex e) hp, ?_⟩
        rw [hw]
        exact r
end Mv
/-! What is refused. -/
namespace Mv
open PySem PySem.Spec PyProof.Rows L2 Evl
section
variable {K : PySem.W.Frag} {σ : L2.St} {H H' : Hp} {ta tb : TE} {D : Ends} {tz : TS}
theorem q_parU {i j : Nat} {xs ys : List V} (ha : EvU ta σ H xs) (hb : ∀ H1, Ex H H1 → EvU tb σ H1 ys) (k : ∀ p q H1, H p = none → H q = none → Ex H H1 → H1 p = some (.tup xs) → H1 q = some (.tup ys) → tz D ((σ.set i (some (.ref p))).set j (some (.ref q))) H1) : tSeq (tPar i j (tCons ta (tCons tb tNil))) tz D σ H :=
  ha H (Ex.refl H) _ fun p H1 hp e1 h1 => hb H1 e1 H1 (Ex.refl _) _ fun q H2 hq e2 h2 => ⟨.ref p, .ref q, rfl, k p q H2 hp (fresh_back e1 hq) (e1.trans e2) (e2 _ _ h1) h2⟩
end
section
variable {P : Program} {w : World} {K : PySem.W.Frag} {mg : Str → Option Value} {base : Heap} {a : Nat → Addr} {d : Nat → FuncData} {tk : Nat → Tok} {c ci : Nat → Addr} {di : Nat → FuncData}
def sp__law_refused (K : PySem.W.Frag) (c : Nat → Addr) : Sp := fun vs H Q _ => ∃ (b p dd : Addr) (bn : Bool) (zs : List Str) (rs : List Pr) (n : Nat), vs = [.ref b, .ref p, .ref dd, .bl bn] ∧ BoxAt H b n ∧ n ≤ 60000 ∧ DepR (c 9) H dd zs rs ∧ DG zs rs ∧ H p = some (.lst (zs.map V.str)) ∧
  ∀ H2, ExB b H H2 → BoxAt H2 b (n + 100) → Q (.bl true) H2
/-- the names that stay -/
def StR (b p dd rw ot mn vl : Addr) (n : Nat) : L2.St → Prop := fun σ' => ∃ (bn : Bool) (v9 v10 v11 v12 v13 v14 : Option V), σ' = [some (.ref b), some (.ref p), some (.ref dd), some (.bl bn), some (.int (n : Int)), some (.ref rw), some (.ref ot), some (.ref mn), some (.ref vl), v9, v10, v11, v12, v13, v14]
theorem ok__law_refused (T : All K mg a d tk c ci di) : FnG P w K mg base CX0 12 (a 29) (d 29) ["box", "columns", "rules", "by_name"] (sp__law_refused K c) := by
  refine okG T.F__law_refused.fn sc__law_refused (fun vs H Q E h => ?_) (fun cdv A outer s H vs Q E hgd hr h => ?_)
  · obtain ⟨b, p, dd, bn, zs, rs, n, rfl, _⟩ := h
    rfl
  · obtain ⟨b, p, dd, bn, zs, rs, n, rfl, hB, hn, hD, G, hp, k⟩ := h
    have nd := sc__law_refused.nd
    refine ⟨_, (pss_cons (ps_set (i := 4) nd rfl (Or.inr rfl) (pe_callB call_len_seq (by rfl) T.n_len PySem.boot_len (pa_cons (pv 1) pa_nil)))
 (pss_cons (ps_par (i := 5) (j := 6) rfl nd rfl rfl (by decide) rfl rfl (pa_cons (pe_callTy call_tuple_of rfl T.n_tuple PyProof.Rows.boot_tuple (pa_cons (pe_op op_rep (pe_lst (pa_cons pe_int pa_nil)) (pv 4)) pa_nil)) (pa_cons (pe_callTy call_tuple_of rfl T.n_tuple PyProof.Rows.boot_tuple (pa_cons (pe_op op_rep (pe_lst (pa_cons pe_int pa_nil)) (pv 4)) pa_nil)) pa_nil)) (by rfl))
 (pss_cons (ps_setLc (i := 7) (own := [("k", 14)]) (g := (gName 14)) rfl nd rfl rfl (sw_true rfl rfl rfl (by decide +kernel)) (pi_range1 rfl T.n_range (pa_cons pe_int pa_nil)) (blkOk_by (N := N__law_refused) (sc := defScope s__law_refused) (by decide +kernel)) (fun _ _ _ _ _ => (pg_name (i := 14) nd rfl (Or.inl rfl))) (fun _ _ _ _ _ => pts_nil) (fun _ _ _ _ _ => (pe_callTy (show CallR _ (.type "tuple") (rTupOf K) from call_tuple_of) rfl T.n_tuple PyProof.Rows.boot_tuple (pa_cons (pe_op op_cat (pe_lst (pa_cons (pv 14) pa_nil)) (pe_op op_rep (pe_lst (pa_cons pe_int pa_nil)) (pe_op op_sub (pv 4) pe_int))) pa_nil))))
 (pss_cons (ps_set (i := 8) nd rfl (Or.inl rfl) (pe_lst (pa_cons pe_non (pa_cons pe_int (pa_cons pe_str (pa_cons pe_dnewK (pa_cons (pe_lst (pa_cons (pv 5) (pa_cons (pv 5) pa_nil))) (pa_cons (pe_lst (pa_cons (pv 5) (pa_cons (pe_callTy call_list_of rfl T.n_list PyProof.Rows.boot_list (pa_cons (pv 6) pa_nil)) pa_nil))) (pa_cons (pe_lst (pa_cons (pv 5) (pa_cons (pe_op op_catT (pv 6) (pe_tup (pa_cons pe_int pa_nil))) pa_nil))) (pa_cons (pe_lst (pa_cons (pe_slice sl_tup (pv 6) (po_some pe_int) po_none) pa_nil)) (pa_cons (pe_lst (pa_cons (pv 5) (pa_cons pe_non pa_nil))) (pa_cons (pv 7) (pa_cons (pe_lst (pa_cons (pv 5) (pa_cons pe_str pa_nil))) pa_nil)))))))))))))
 (pss_cons (ps_set (i := 8) nd rfl (Or.inl rfl) (pe_op op_cat (pv 8) (pe_lst (pa_cons (pe_lst (pa_cons (pe_callTy call_tuple_of rfl T.n_tuple PyProof.Rows.boot_tuple (pa_cons (pe_op op_rep (pe_lst (pa_cons pe_int pa_nil)) (pv 4)) pa_nil)) pa_nil)) (pa_cons (pe_lst (pa_cons (pe_callTy call_tuple_of rfl T.n_tuple PyProof.Rows.boot_tuple (pa_cons (pe_op op_rep (pe_lst (pa_cons (pe_un un_neg pe_int) pa_nil)) (pv 4)) pa_nil)) pa_nil)) (pa_cons (pe_lst (pa_cons (pe_callTy call_tuple_of rfl T.n_tuple PyProof.Rows.boot_tuple (pa_cons (pe_op op_rep (pe_lst (pa_cons pe_bl pa_nil)) (pv 4)) pa_nil)) pa_nil)) pa_nil))))))
 (pss_cons (ps_for PassesOwn.never rfl (pi_list (pe_slice sl_list (pe_call (ok__law_mixed T) (hr.mono (by decide)) rfl T.F__law_mixed.m T.F__law_mixed.kp T.F__law_mixed.b .nil pass0 (pa_cons (pv 0) (pa_cons (pv 8) pa_nil))) po_none (po_some pe_int))) (pg_name (i := 9) nd rfl (Or.inl rfl))
 (pss_one (ps_for PassesOwn.never rfl (pi_list (pe_lst (pa_cons (pe_tup (pa_cons pe_str (pa_cons (pv 2) pa_nil))) (pa_cons (pe_tup (pa_cons pe_str (pa_cons (pv 1) pa_nil))) pa_nil)))) (pg_tup rfl (pgs_cons (pg_name (i := 10) nd rfl (Or.inl rfl)) (pgs_cons (pg_name (i := 11) nd rfl (Or.inl rfl)) pgs_nil)))
 (pss_cons (ps_set (i := 12) nd rfl (Or.inl rfl) (pe_call (ok__law_told T) (hr.mono (by decide)) rfl T.F__law_told.m T.F__law_told.kp T.F__law_told.b .nil pass0 (pa_cons (pv 10) (pa_cons (pv 11) (pa_cons (pv 9) (pa_cons (pv 3) pa_nil))))))
 (pss_cons (ps_if (PW.pt (pw_or (pt_cmpR op_ne (pe_ix ix_list (pv 12) pe_int (fun _ _ => rfl)) pe_str (nomark _)) (pw_or1 (pt_not (pt_val (pe_callG (ok__law_same T) hgd (hr.mono (by decide)) rfl T.F__law_same.m T.F__law_same.kp T.F__law_same.b .nil pass0 (pa_cons (pe_ix ix_list (pv 12) pe_int (fun _ _ => rfl)) (pa_cons (pv 9) pa_nil))))))))
 (pss_one (ps_ret pe_bl))
 pss_nil)
 (pss_one (ps_set (i := 3) nd rfl (Or.inl rfl) (pe_not (pv 3)))))))))
 (pss_cons (ps_if (pt_cmpR op_ne (pe_ix ix_list (pe_call (ok__law_told T) (hr.mono (by decide)) rfl T.F__law_told.m T.F__law_told.kp T.F__law_told.b .nil pass0 (pa_cons pe_str (pa_cons (pv 2) (pa_cons (pe_slice sl_list (pv 7) po_none (po_some pe_int)) (pa_cons (pv 3) pa_nil))))) pe_int (fun _ _ => rfl)) pe_str (nomark _))
 (pss_one (ps_ret pe_bl))
 pss_nil)
 (pss_cons (ps_set (i := 13) nd rfl (Or.inl rfl) (pe_lst (pa_cons (pe_lst (pa_cons pe_non (pa_cons pe_str pa_nil))) (pa_cons (pe_lst (pa_cons (pe_lst pa_nil) (pa_cons pe_str pa_nil))) (pa_cons (pe_lst (pa_cons (pe_op op_rep (pv 1) pe_int) (pa_cons pe_str pa_nil))) (pa_cons (pe_lst (pa_cons (pe_lst (pa_cons pe_str pa_nil)) (pa_cons pe_str pa_nil))) (pa_cons (pe_lst (pa_cons (pe_lst (pa_cons pe_str (pa_cons pe_non pa_nil))) (pa_cons pe_str pa_nil))) (pa_cons (pe_lst (pa_cons (pe_lst (pa_cons pe_str (pa_cons pe_str pa_nil))) (pa_cons pe_str pa_nil))) (pa_cons (pe_lst (pa_cons pe_str (pa_cons pe_str pa_nil))) pa_nil)))))))))
 (pss_cons (ps_asg (pe_ix ix_list (pv 13) (pe_call (ok__law_take T) (hr.mono (by decide)) rfl T.F__law_take.m T.F__law_take.kp T.F__law_take.b .nil pass0 (pa_cons (pv 0) (pa_cons pe_int pa_nil))) (fun _ _ => rfl)) (pg_unl rfl (pgs_cons (pg_name (i := 9) nd rfl (Or.inl rfl)) (pgs_cons (pg_name (i := 10) nd rfl (Or.inl rfl)) pgs_nil))) (hw := by rfl))
 (pss_cons (ps_set (i := 12) nd rfl (Or.inl rfl) (pe_call (ok__law_told T) (hr.mono (by decide)) rfl T.F__law_told.m T.F__law_told.kp T.F__law_told.b .nil pass0 (pa_cons pe_str (pa_cons (pv 9) (pa_cons pe_non (pa_cons (pv 3) pa_nil))))))
 (pss_one (ps_ret (pe_and (pe_cmpR op_eq (pe_ix ix_list (pv 12) pe_int (fun _ _ => rfl)) (pv 10) (nomark _)) (pe_one (pe_or (pe_cmpR op_ne (pv 10) pe_str (nomark _)) (pe_one (pe_callG (ok__law_same T) hgd (hr.mono (by decide)) rfl T.F__law_same.m T.F__law_same.kp T.F__law_same.b .nil pass0 (pa_cons (pe_ix ix_list (pv 12) pe_int (fun _ _ => rfl)) (pa_cons (pv 9) pa_nil))))))))))))))))))), ?_⟩
    have l1 := G.l1
    have l5 := G.l5
    have np := box_strs hB hp
    have hp0 : noB b H p = some (.lst (zs.map V.str)) := by rw [noB_ne np]; exact hp
    have hD0 := dep_noB hB hD
    obtain ⟨m, hm⟩ : ∃ m, m = zs.length := ⟨_, rfl⟩
    refine q_asg (v := .int (m : Int)) (ev_is (ev_lenS (K := K) (ev_var (i := 1) rfl) (.inl hp)) (by rw [List.length_map, hm])) fun H1 e1 => ?_
    refine q_parU (xs := List.replicate m (V.int 0)) (ys := List.replicate m (V.int 1)) (eu_repV (K := K) ev_c (fun _ _ => ev_var (i := 4) rfl) (by omega)) (fun H2 e2 => eu_repV (K := K) ev_c (fun _ _ => ev_var (i := 4) rfl) (by omega)) fun rw' ot H2 hrw hot e2 hrw2 hot2 => ?_
    have e02 := e1.trans e2
    have hB2 := hB.ex e02
    have nrw : rw' ≠ b := nb_of hB e1 hrw
    have not' : ot ≠ b := nb_of hB e1 hot
    let σ2 : L2.St := [some (.ref b), some (.ref p), some (.ref dd), some (.bl bn), some (.int (m : Int)), some (.ref rw'), some (.ref ot), none, none, none, none, none, none, none, none]
    have mc : EvI (tLc (iRng1 (tCons (tC (.int 41)) tNil)) (gName 14) tYes (tCB (rTupOf K) (tCons (tOp rCat (tLst (tCons (tVar 14) tNil)) (tOp rRep (tLst (tCons (tC (.int 0)) tNil)) (tOp (rI0 fun i j => .int (i - j)) (tVar 4) (tC (.int 1))))) tNil)) [14]) σ2 H2 RwS ((List.range 41).map (manyR m)) :=
      ei_lcR (N := 41) mv_Rw (ea_cons ev_c ea_nil) (by decide) (fun _ => rfl) (manyR m) fun i hi => em_rw (by
        have z0 := el_repV (k := m - 1) (σ := (wipe σ2 [14]).set 14 (some (.int (i : Int)))) (H := H2) (ta := tLst (tCons (tC (.int 0)) tNil)) (tb := tOp (rI0 fun i j => .int (i - j)) (tVar 4) (tC (.int 1))) (el_lst (ea_cons (ev_c (v := .int 0)) ea_nil) (show 1 ≤ 100000 by decide)) (fun H3 e3 => ev_is (ev_I0 (g := fun i j => .int (i - j)) (i := (m : Int)) (j := 1) (ev_var (i := 4) rfl) ev_c) (by
          show V.int ((m : Int) - 1) = V.int ((m - 1 : Nat) : Int)
          congr 1
          omega)) (by omega) (show 1 ≤ 20 by decide)
        rw [rep1] at z0
        have z1 := el_cat (el_lst (ea_cons (ev_var (σ := (wipe σ2 [14]).set 14 (some (.int (i : Int)))) (H := H2) (i := 14) rfl) ea_nil) (show 1 ≤ 100000 by decide)) z0 (by rw [List.length_replicate, List.length_singleton]; omega)
        have e0 : [V.int (i : Int)] ++ List.replicate (m - 1) (V.int 0) = (manyR m i).map V.int := by
          unfold manyR
          rw [rep_int, List.map_cons] <;> rfl
        rw [e0] at z1
        exact eu_tupL z1)
    refine q_asgI mc fun mn us H3 hmn e3 h3 pp3 => ?_
    have e03 := e02.trans e3
    have hB3 := hB.ex e03
    have nmn : mn ≠ b := nb_of hB e02 hmn
    have lus : us.length = 41 := by rw [Paired.length pp3, List.length_map, List.length_range]
    let σ3 : L2.St := [some (.ref b), some (.ref p), some (.ref dd), some (.bl bn), some (.int (m : Int)), some (.ref rw'), some (.ref ot), some (.ref mn), none, none, none, none, none, none, none]
    have rw3 : noB b H3 rw' = some (.tup (List.replicate m (V.int 0))) := nb_at nrw (e3 _ _ hrw2)
    have ot3 : H3 ot = some (.tup (List.replicate m (V.int 1))) := e3 _ _ hot2
    have mn3 : noB b H3 mn = some (.lst us) := nb_at nmn h3
    have rows3 : Paired (fun u r => IsRow (noB b H3) u r) us ((List.range 41).map (manyR m)) := Paired.imp (fun _ _ ⟨t, x1, x2, x3⟩ => ⟨t, x1, nb_at (nb_of hB e02 x2.1) x3⟩) pp3
    have smi : ∀ (x : V) (H : Hp), Prim x → Paired (Sm H 1) (List.replicate m x) (List.replicate m x) := fun x H h => smRep (sm_prim h) m
    have hrow : ItD b (.tuple (List.replicate m (.int 0))) (.ref rw') H3 := ⟨.tup rw3 (daRep (.int 0) m), sm_tup rw3 rw3 (by rw [List.length_replicate]; omega) (smi _ _ (.int 0))⟩
    have lr200 : ∀ x : V, (List.replicate m x).length ≤ 200 := fun x => by rw [List.length_replicate]; omega
    have p1 : EvP (tC .non) σ3 H3 (NoR K b m) := noR_of (fun _ => is_non) (fun _ => sm_prim .non) ev_c
    have p2 : EvP (tC (.int 7)) σ3 H3 (NoR K b m) := noR_of (fun _ => is_int) (fun _ => sm_prim (.int _)) ev_c
    have p3 : EvP (tC (.str "ab")) σ3 H3 (NoR K b m) := noR_of (fun _ => is_str) (fun _ => sm_prim (.str _)) ev_c
    have p4 : EvP tDNewK σ3 H3 (NoR K b m) := fun H4 e4 Q q l hl => q _ _ (Ex.new hl) ⟨.oth (.oth (is_dct (nb_at (nb_of hB3 e4 hl) upd_same))), sm_d0 (nb_at (nb_of hB3 e4 hl) upd_same)⟩
    have p5 : EvP (tLst (tCons (tVar 5) (tCons (tVar 5) tNil))) σ3 H3 (NoR K b m) := (ep_two (x := .ref rw') (i5 := 5) hB3 rfl (Ev.p (ev_var (i := 5) rfl)) (sta_eq (x := .ref rw'))).imp fun v H4 e4 ⟨l, y, x1, x2, x3⟩ => by
      subst x1 x3
      have r4 : IsRow (noB b H4) (.ref rw') (List.replicate m 0) := ⟨rw', rfl, by rw [← rep_int]; exact noB_ex2 e4 _ _ rw3⟩
      have z := RowsO.rows (K := K) (n := m) (rs := [List.replicate m 0, List.replicate m 0]) ⟨l, _, rfl, .inl x2, .cons r4 (.cons r4 .nil)⟩ (show 2 ≤ 40 by decide) fun r hr => by
        have : r = List.replicate m 0 := by
          rcases List.mem_cons.mp hr with q | q
          · exact q
          · exact List.mem_singleton.mp q
        rw [this]
        exact ⟨List.length_replicate, fun i hi => by rw [(List.mem_replicate.mp hi).2]; decide⟩
      rw [decide_eq_false (fun h => (List.nodup_cons.mp h).1 List.mem_cons_self)] at z
      have s2 := (sta_ItD _ _ _ hrow e4).2
      exact ⟨z, sm_lst x2 x2 (show 2 ≤ 200 by decide) (.cons s2 (.cons s2 .nil))⟩
    have p6 : EvP (tLst (tCons (tVar 5) (tCons (tCB (rListS K) (tCons (tVar 6) tNil)) tNil))) σ3 H3 (NoR K b m) := noR_two (n := m) (dd := .list (List.replicate m (.int 1))) hB3 rfl hrow (itD_lst hB3 (el_listS (K := K) (ev_var (i := 6) rfl) (.inr ot3)) (fun H1 => daRep (.int 1) m) (fun H1 => smi _ _ (.int 1)) (lr200 _)) rfl
    have p7 : EvP (tLst (tCons (tVar 5) (tCons (tOp (rCatT K) (tVar 6) (tTup (tCons (tC (.int 0)) tNil))) tNil))) σ3 H3 (NoR K b m) := noR_two (n := m) (dd := .tuple ((List.replicate m (1 : Int) ++ [0]).map PyData.int)) hB3 rfl hrow (itD_tup (xs := (List.replicate m (1 : Int) ++ [0]).map V.int) hB3 (by
      have z := eu_catT (K := K) (ta := tVar 6) (σ := σ3) (ev_var (i := 6) rfl) ot3 (by cases m with | zero => omega | succ m => exact fun h => nomatch h) (ea_cons (ev_c (v := .int 0)) ea_nil) (fun h => nomatch h) (by rw [List.length_replicate, List.length_singleton]; omega)
      rw [rep_int] at z
      rw [List.map_append]
      exact z) (da_ints _) (fun H1 => sm_ints _) (by rw [List.length_map, List.length_append, List.length_replicate, List.length_singleton]; omega)) (rowB_len (by rw [List.length_map, List.length_append, List.length_replicate, List.length_singleton]; omega))
    have p8 : EvP (tLst (tCons (tSl (rSlT K) (tVar 6) (tPart (tC (.int 1))) tNoPart) tNil)) σ3 H3 (NoR K b m) := noR_one (n := m) (dd := .tuple (List.replicate (m - 1) (.int 1))) hB3 (itD_tup (xs := List.replicate (m - 1) (.int 1)) hB3 (by
      have z := eu_drop1 (K := K) (ta := tVar 6) (σ := σ3) (ev_var (i := 6) rfl) ot3 (by rw [List.length_replicate]; omega)
      rw [List.drop_replicate] at z
      exact z) (fun H1 => daRep (.int 1) _) (fun H1 => smRep (sm_prim (.int 1)) _) (by rw [List.length_replicate]; omega)) (rowB_len (by rw [List.length_replicate]; omega))
    have p9 : EvP (tLst (tCons (tVar 5) (tCons (tC .non) tNil))) σ3 H3 (NoR K b m) := noR_two (n := m) (dd := .none) hB3 rfl hrow (ep_of ev_c fun H1 _ => ⟨.non, sm_prim .non⟩) rfl
    have p10 : EvP (tVar 7) σ3 H3 (NoR K b m) := ep_of (ev_var (i := 7) rfl) fun H4 e4 => by
      have mn4 := noB_ex2 (b := b) e4 _ _ mn3
      refine ⟨.many (.inl mn4) (by rw [lus]; decide), sm_lst mn4 mn4 (by rw [lus]; decide) (sm_refl fun u hu => ?_)⟩
      obtain ⟨r, hr, hur⟩ := Paired.mem_l rows3 u hu
      obtain ⟨kk, hkk, rfl⟩ := List.mem_map.mp hr
      exact (sm_row (n := 0) hur (by rw [(manyR_ok (n := m) (k := kk) (by omega) (by have := List.mem_range.mp hkk; omega)).1]; omega)).ex (noB_ex2 e4)
    have p11 : EvP (tLst (tCons (tVar 5) (tCons (tC (.str "0")) tNil))) σ3 H3 (NoR K b m) := noR_two (n := m) (dd := .str "0") hB3 rfl hrow (ep_of ev_c fun H1 _ => ⟨.str _, sm_prim (.str _)⟩) rfl
    have al := al_cons sta_NoR p1 (al_cons sta_NoR p2 (al_cons sta_NoR p3 (al_cons sta_NoR p4 (al_cons sta_NoR p5 (al_cons sta_NoR p6 (al_cons sta_NoR p7 (al_cons sta_NoR p8 (al_cons sta_NoR p9 (al_cons sta_NoR p10 (al_cons sta_NoR p11 al_nil))))))))))
    refine q_asgAl sta_NoR al (by decide) fun vl0 vw0 H4 hvl0 e4 h4 lw0 hvw0 => ?_
    have hB4 := hB3.ex e4
    let σ4 : L2.St := [some (.ref b), some (.ref p), some (.ref dd), some (.bl bn), some (.int (m : Int)), some (.ref rw'), some (.ref ot), some (.ref mn), some (.ref vl0), none, none, none, none, none, none]
    have rp : ∀ {te : TE} {x : V} {d0 : PyData}, Ev te σ4 H4 x → (∀ H1, Da H1 x d0) → Prim x → intIn 0 999 d0 = false → EvP (tLst (tCons (tCB (rTupOf K) (tCons (tOp rRep (tLst (tCons te tNil)) (tVar 4)) tNil)) tNil)) σ4 H4 (NoR K b m) := fun {te x d0} h hd hpr hi => noR_one (n := m) (dd := .tuple (List.replicate m d0)) hB4 (itD_tup (xs := List.replicate m x) hB4 (eu_repV (K := K) h (fun _ _ => ev_var (i := 4) rfl) (by omega)) (fun H1 => daRep (hd H1) m) (fun H1 => smi _ _ hpr) (lr200 _)) (rowB_rep hi (by omega))
    have q1 : EvP (tLst (tCons (tCB (rTupOf K) (tCons (tOp rRep (tLst (tCons (tC (.int 1000)) tNil)) (tVar 4)) tNil)) tNil)) σ4 H4 (NoR K b m) := rp ev_c (fun _ => .int 1000) (.int _) (by decide)
    have q2 : EvP (tLst (tCons (tCB (rTupOf K) (tCons (tOp rRep (tLst (tCons (tUn (rU fun i => .int (-i)) (tC (.int 1))) tNil)) (tVar 4)) tNil)) tNil)) σ4 H4 (NoR K b m) := rp (x := .int (-1)) (d0 := .int (-1)) (ev_un ev_c fun H1 _ Q q => ⟨1, rfl, q H1 (Ex.refl _)⟩) (fun _ => .int (-1)) (.int _) (by decide)
    have q3 : EvP (tLst (tCons (tCB (rTupOf K) (tCons (tOp rRep (tLst (tCons (tC (.bl true)) tNil)) (tVar 4)) tNil)) tNil)) σ4 H4 (NoR K b m) := rp ev_c (fun _ => .bl true) (.bl _) (by decide)
    refine q_asgCatAl sta_NoR (ev_var (i := 8) rfl) h4 hvw0 (al_cons sta_NoR q1 (al_cons sta_NoR q2 (al_cons sta_NoR q3 al_nil))) (by omega) fun vl vw H5 hvl e5 h5 lw hvw => ?_
    have e05 := (e03.trans e4).trans e5
    have hB5 := hB.ex e05
    have nN : Ex (noB b H3) (noB b H5) := noB_ex2 (e4.trans e5)
    have p0N : Ex (noB b H) (noB b H5) := noB_ex2 e05
    refine ⟨_, rfl, _, rfl, b, vl, vw, n, rfl, h5, by omega, hB5, by omega, fun r ys H6 pm hr6 hr6' e6 hB6 => ?_⟩
    refine ⟨8, rfl, r, ys, rfl, sq_of hr6', fun sl hsl => ?_⟩
    have eS : Ex H6 (upd H6 sl (.lst (cutV ys none (some 8)))) := Ex.new hsl
    have hS := upd_same (H := H6) (a := sl) (o := .lst (cutV ys none (some 8)))
    have hB7 := hB6.ex eS
    have e7 : ExB b H5 (upd H6 sl (.lst (cutV ys none (some 8)))) := e6.trans (Ex.b eS)
    generalize upd H6 sl (.lst (cutV ys none (some 8))) = H7 at eS hS hB7 e7 ⊢
    have e57 : Ex (noB b H5) H7 := noB_exB e7
    have memv : ∀ x ∈ cutV ys none (some 8), NoR K b m x H7 := fun x hx => by
      rw [show cutV ys none (some 8) = cutV ys none (some ((8 : Nat) : Int)) from rfl, cutV_take] at hx
      exact (hvw x (pm.mem_iff.mp (List.mem_of_mem_take hx))).exB e7
    have hp7 : H7 p = some (.lst (zs.map V.str)) := e57 _ _ (p0N _ _ hp0)
    have hD7 : DepR (c 9) H7 dd zs rs := hD0.mono (p0N.trans e57)
    refine ⟨sl, rfl, ⟨_, sq_of hS⟩, for_list (K := K) (a := sl) (xs := cutV ys none (some 8)) (fun _ σ' H' => Ex H7 H' ∧ StR b p dd rw' ot mn vl m σ') ⟨Ex.refl _, bn, _, _, _, _, _, _, rfl⟩ (fun i σ' H' _ z => sq_of (z.1 _ _ hS)) ?_ ?_⟩
    · rintro i x σ' H8 hi ⟨e8, bn8, v9, v10, v11, v12, v13, v14, rfl⟩
      have hx := memv x (List.mem_of_getElem? hi)
      have hx8 : RowsO K H8 m x false := hx.1.ex (noB_ex.trans e8)
      have sx8 : Sm H8 3 x x := hx.2.ex (noB_ex.trans e8)
      refine ⟨_, rfl, sz_of (show 2 ≤ 100000 by decide), fun t1 ht1 => ⟨_, rfl, sz_of (show 2 ≤ 100000 by decide), fun t2 ht2 => ⟨sz_of (show 2 ≤ 100000 by decide), fun ll hll => ?_⟩⟩⟩
      have f1 : Ex H8 (upd H8 t1 (.tup [.str "broken", .ref dd])) := Ex.new ht1
      have f2 : Ex (upd H8 t1 (.tup [.str "broken", .ref dd])) (upd (upd H8 t1 (.tup [.str "broken", .ref dd])) t2 (.tup [.str "kept", .ref p])) := Ex.new ht2
      have f3 : Ex (upd (upd H8 t1 (.tup [.str "broken", .ref dd])) t2 (.tup [.str "kept", .ref p])) (upd (upd (upd H8 t1 (.tup [.str "broken", .ref dd])) t2 (.tup [.str "kept", .ref p])) ll (.lst [.ref t1, .ref t2])) := Ex.new hll
      have g1 := f3 _ _ (f2 _ _ (upd_same (H := H8) (a := t1) (o := .tup [.str "broken", .ref dd])))
      have g2 := f3 _ _ (upd_same (H := upd H8 t1 (.tup [.str "broken", .ref dd])) (a := t2) (o := .tup [.str "kept", .ref p]))
      have g3 := upd_same (H := upd (upd H8 t1 (.tup [.str "broken", .ref dd])) t2 (.tup [.str "kept", .ref p])) (a := ll) (o := .lst [.ref t1, .ref t2])
      have e89 := (f1.trans f2).trans f3
      generalize upd (upd (upd H8 t1 (.tup [.str "broken", .ref dd])) t2 (.tup [.str "kept", .ref p])) ll (.lst [.ref t1, .ref t2]) = H9 at g1 g2 g3 e89 ⊢
      refine ⟨ll, rfl, ⟨_, sq_of g3⟩, for_list (K := K) (a := ll) (xs := [.ref t1, .ref t2]) (fun _ σ' H' => Ex H9 H' ∧ ∃ (bn : Bool) (v10 v11 v12 : Option V), σ' = [some (.ref b), some (.ref p), some (.ref dd), some (.bl bn), some (.int (m : Int)), some (.ref rw'), some (.ref ot), some (.ref mn), some (.ref vl), some x, v10, v11, v12, v13, v14]) ⟨Ex.refl _, bn8, _, _, _, rfl⟩ (fun i σ' H' _ z => sq_of (z.1 _ _ g3)) ?_ ?_⟩
      · have turn : ∀ {Hj : Hp} {N : L2.St → Hp → Prop} {D : Ends} {bj : Bool} {wd' : Str} {th : V} {v12' : Option V}, Ex H9 Hj → (∀ (Q : VK), RetT "rows" x Hj Q → ToldK K c wd' th x Hj Q) → (∀ (bk : Bool) (v12 : Option V) (Hk : Hp), Ex H9 Hk → N [some (.ref b), some (.ref p), some (.ref dd), some (.bl bk), some (.int (m : Int)), some (.ref rw'), some (.ref ot), some (.ref mn), some (.ref vl), some x, some (.str wd'), some th, v12, v13, v14] Hk) →
          tSeq (tAsg (tCall (sp__law_told K c) [] E0 (tCons (tVar 10) (tCons (tVar 11) (tCons (tVar 9) (tCons (tVar 3) tNil))))) (gName 12)) (tSeq (tIfS (tOr (tTest (tOp rNe (tOp (rIxL K) (tVar 12) (tC (.int 0))) (tC (.str "rows")))) (tNot (tB (tCall (sp_same 5) [] E0 (tCons (tOp (rIxL K) (tVar 12) (tC (.int 1))) (tCons (tVar 9) tNil)))))) (tRet (tC (.bl false))) tNext) (tAsg (tNotV (tVar 3)) (gName 3))) { D with nx := N, ct := N, bk := D.nx } [some (.ref b), some (.ref p), some (.ref dd), some (.bl bj), some (.int (m : Int)), some (.ref rw'), some (.ref ot), some (.ref mn), some (.ref vl), some x, some (.str wd'), some th, v12', v13, v14] Hj := fun {Hj N D bj wd' th v12'} ej ht hN => by
          refine q_asg1 ⟨_, rfl, _, rfl, _, rfl, _, rfl, wd', th, x, bj, rfl, ht _ fun TT Hk hTT ek hk => ?_⟩
          refine q_when (b := false) (chk (K := K) (i5 := 12) (i4 := 9) rfl rfl hk (sx8.ex ((e89.trans ej).trans ek)) ev_c) (fun h => nomatch h) fun _ Hl el => ?_
          exact s_asg (ev_notV (ev_var (i := 3) rfl)) fun Ho eo => hN _ _ _ (((ej.trans ek).trans el).trans eo)
        rintro j y σ' Hj hj ⟨ej, bj, w10, w11, w12, rfl⟩
        have e9j := (e8.trans e89).trans ej
        match j, hj with
        | 0, hj =>
          cases hj
          refine ⟨t1, _, rfl, st_of (ej _ _ g1), rfl, _, _, rfl, _, _, rfl, rfl, ?_⟩
          exact turn ej (fun Q q => .brk dd zs rs rfl rfl (hD7.mono e9j) G (.bad (by rw [← hm]; exact hx8.ex (e89.trans ej)) (Rs.t (i := 3) (by decide) q))) fun bk v12 Hk ek => ⟨ek, bk, _, _, _, rfl⟩
        | 1, hj =>
          cases hj
          refine ⟨t2, _, rfl, st_of (ej _ _ g2), rfl, _, _, rfl, _, _, rfl, rfl, ?_⟩
          exact turn ej (fun Q q => .kept rfl (.bad p zs rfl (.inl (e9j _ _ hp7)) G.l1 G.l5 G.hz G.nd (by rw [← hm]; exact hx8.ex (e89.trans ej)) (Rs.t (i := 3) (by decide) q))) fun bk v12 Hk ek => ⟨ek, bk, _, _, _, rfl⟩
        | j + 2, hj => simp at hj
      · rintro σ' Hj ⟨ej, bj, w10, w11, w12, rfl⟩
        exact ⟨(e8.trans e89).trans ej, bj, _, _, _, _, _, _, rfl⟩
    · rintro σ' H8 ⟨e8, bn8, v9, v10, v11, v12, v13, v14, rfl⟩
      have e58 : Ex (noB b H5) H8 := e57.trans e8
      have hp8 : H8 p = some (.lst (zs.map V.str)) := e8 _ _ hp7
      have hD8 := hD7.mono e8
      have mn8 : H8 mn = some (.lst us) := e58 _ _ (nN _ _ mn3)
      have rows8 : Paired (fun u r => IsRow H8 u r) us ((List.range 41).map (manyR m)) := Paired.imp (fun _ _ z => IsRow.ex z (nN.trans e58)) rows3
      obtain ⟨z1, z2, z3⟩ := paired_zip rows8
      let ks : List KR := (us.zip ((List.range 41).map (manyR m))).take 40
      have lks : ks.length ≤ 40 := by show (List.take _ _).length ≤ 40; rw [List.length_take]; omega
      have kf : ks.map (·.1) = us.take 40 := by show (List.take 40 _).map _ = _; rw [List.map_take, z1]
      have ksn : ks.map (·.2) = ((List.range 41).map (manyR m)).take 40 := by show (List.take 40 _).map _ = _; rw [List.map_take, z2]
      let σ8 : L2.St := [some (.ref b), some (.ref p), some (.ref dd), some (.bl bn8), some (.int (m : Int)), some (.ref rw'), some (.ref ot), some (.ref mn), some (.ref vl), v9, v10, v11, v12, v13, v14]
      have tst : EvT (tTest (tOp rNe (tOp (rIxL K) (tCall (sp__law_told K c) [] E0 (tCons (tC (.str "broken")) (tCons (tVar 2) (tCons (tSl (rSlL K) (tVar 7) tNoPart (tPart (tC (.int 40)))) (tCons (tVar 3) tNil))))) (tC (.int 0))) (tC (.str "told")))) σ8 H8 false := et_toldP (K := K) fun H9 e9 Q9 q9 => by
        refine ⟨_, rfl, (el_sl (K := K) (te := tVar 7) (σ := σ8) (ev_var (i := 7) rfl) eo_none (eo_some (ev_c (v := .int 40))) (sq_of (e9 _ _ mn8))) H9 (Ex.refl _) _ fun s4 H10 hs4 e10 h10 => ⟨_, rfl, ?_⟩⟩
        rw [show cutV us none (some 40) = cutV us none (some ((40 : Nat) : Int)) from rfl, cutV_take, ← kf] at h10
        have e8_10 := e9.trans e10
        refine ⟨"broken", .ref dd, .ref s4, bn8, rfl, .brk dd zs rs rfl rfl (hD8.mono e8_10) G (.good s4 ks rfl ⟨.inl h10, fun kr hkr => (z3 kr (List.mem_of_mem_take hkr)).ex e8_10, fun kr hkr => ?_, ?_, lks⟩ (BrkR.of fun v H11 e11 hF => fun TT H12 hTT e12 h12 => q9 TT v H12 ((e10.trans e11).trans e12) h12))⟩
        · have : kr.2 ∈ ks.map (·.2) := List.mem_map_of_mem hkr
          rw [ksn] at this
          obtain ⟨kk, hkk, e0⟩ := List.mem_map.mp (List.mem_of_mem_take this)
          rw [← e0, ← hm]
          exact manyR_ok (by omega) (by have := List.mem_range.mp hkk; omega)
        · rw [ksn]
          exact (many_nd m 41).sublist (List.take_sublist _ _)
      refine q_when (b := false) tst (fun h => nomatch h) fun _ H9 e9 => ?_
      have e89 := e8.trans e9
      have hB9 := hB7.ex e89
      have hp9 := e9 _ _ hp8
      let σ9 : L2.St := [some (.ref b), some (.ref p), some (.ref dd), some (.bl bn8), some (.int (m : Int)), some (.ref rw'), some (.ref ot), some (.ref mn), some (.ref vl), v9, v10, v11, v12, v13, v14]
      let NC : V → Hp → Prop := fun v H => ∃ l x w, v = .ref l ∧ noB b H l = some (.lst [x, .str w]) ∧ NoCols K x w (noB b H) ∧ (w = "columns" → Sm (noB b H) 3 x x)
      have sNC : Sta NC := fun v H1 H2 ⟨l, x, w, x1, x2, x3, x4⟩ e => ⟨l, x, w, x1, noB_ex2 e _ _ x2, x3.ex (noB_ex2 e), fun h => (x4 h).ex (noB_ex2 e)⟩
      have prim : ∀ {x : V} {ww : Str}, (∀ H1, NoCols K x ww H1) → Prim x → EvP (tLst (tCons (tC x) (tCons (tC (.str ww)) tNil))) σ9 H9 NC := fun {x ww} f hpr H1 e1 Q q => ⟨sz_of (show 2 ≤ 100000 by decide), fun l hl => q _ _ (Ex.new hl) ⟨l, x, ww, rfl, nb_at (nb_of hB9 e1 hl) upd_same, f _, fun _ => sm_prim hpr⟩⟩
      have lst : ∀ {te : TE} {xs : List V} {ww : Str}, EvL te σ9 H9 xs → (∀ l H1, H1 l = some (.lst xs) → NoCols K (.ref l) ww H1) → xs.length ≤ 200 → (∀ x ∈ xs, Prim x) → EvP (tLst (tCons te (tCons (tC (.str ww)) tNil))) σ9 H9 NC := fun {te xs ww} h f l2 hpr H1 e1 Q q => h H1 e1 _ fun l H2 hl e2 h2 => ⟨sz_of (show 2 ≤ 100000 by decide), fun m' hm' => by
        have hl2 := nb_at (nb_of hB9 e1 hl) ((Ex.new (o := .lst [V.ref l, .str ww]) hm') _ _ h2)
        exact q _ _ (e2.trans (Ex.new hm')) ⟨m', .ref l, ww, rfl, nb_at (nb_of hB9 (e1.trans e2) hm') upd_same, f l _ hl2, fun _ => sm_lst hl2 hl2 l2 (sm_refl fun x hx => sm_prim (hpr x hx))⟩⟩
      have n1 : ∀ {x : V} {H1 : Hp} {v1 v2 v3 : Bool}, Is5 K H1 x v1 v2 v3 false false → NoCols K x "columns" H1 := fun {x} {H1} {_} {_} {_} h => ⟨none, 1, x, by decide, rfl, .oth h, .inl ⟨rfl, rfl, rfl⟩⟩
      have n2 : ∀ {l : Addr} {xs : List V} {H1 : Hp}, H1 l = some (.lst xs) → ¬ (1 ≤ xs.length ∧ xs.length ≤ 5) → NoCols K (.ref l) "columns" H1 := fun {l xs H1} h hn => ⟨some (l, xs), 1, .ref l, by decide, rfl, .seq (.inl h), .inr ⟨l, xs, rfl, .inl ⟨hn, rfl, rfl⟩⟩⟩
      have nA : nameB "A" = false := by decide +kernel
      have na : nameB "a" = true := by decide +kernel
      have lA : ("A" : Str).length ≤ 1000 := by decide +kernel
      have w1 : EvP (tLst (tCons (tC .non) (tCons (tC (.str "columns")) tNil))) σ9 H9 NC := prim (fun H1 => n1 is_non) .non
      have w2 : EvP (tLst (tCons (tLst tNil) (tCons (tC (.str "columns")) tNil))) σ9 H9 NC := lst (xs := []) (el_lst ea_nil (by decide)) (fun l H1 h => n2 h (fun z => absurd z.1 (by decide))) (Nat.zero_le _) fun _ h => nomatch h
      have w3 : EvP (tLst (tCons (tOp rRep (tVar 1) (tC (.int 6))) (tCons (tC (.str "columns")) tNil))) σ9 H9 NC := lst (xs := (List.replicate 6 (zs.map V.str)).flatten) (el_rep (k := 6) (ev_var (i := 1) rfl) hp9 (by decide) (by rw [List.length_map]; omega)) (fun l H1 h => n2 h (fun z => by
        have := z.2
        rw [rep_len, List.length_map] at this
        omega)) (by rw [rep_len, List.length_map]; omega) fun x hx => by
          obtain ⟨z, _, rfl⟩ := List.mem_map.mp (rep_mem hx)
          exact .str z
      have w4 : EvP (tLst (tCons (tLst (tCons (tC (.str "A")) tNil)) (tCons (tC (.str "name")) tNil))) σ9 H9 NC := lst (xs := [V.str "A"]) (el_lst (ea_cons (ev_c (v := .str "A")) ea_nil) (show 1 ≤ 100000 by decide)) (fun l H1 h => ⟨some (l, [.str "A"]), 0, .str "A", by decide, rfl, .seq (.inl h), .inr ⟨l, _, rfl, .inr ⟨show 1 ≤ 1 by decide, show 1 ≤ 5 by decide, [false], .cons (name_no nA lA) .nil, rfl⟩⟩⟩) (show 1 ≤ 200 by decide) fun x hx => by rw [List.mem_singleton.mp hx]; exact .str _
      have w5 : EvP (tLst (tCons (tLst (tCons (tC (.str "a")) (tCons (tC .non) tNil))) (tCons (tC (.str "name")) tNil))) σ9 H9 NC := lst (xs := [V.str "a", .non]) (el_lst (ea_cons (ev_c (v := .str "a")) (ea_cons (ev_c (v := .non)) ea_nil)) (show 2 ≤ 100000 by decide)) (fun l H1 h => ⟨some (l, [.str "a", .non]), 0, .non, by decide, rfl, .seq (.inl h), .inr ⟨l, _, rfl, .inr ⟨show 1 ≤ 2 by decide, show 2 ≤ 5 by decide, [true, false], .cons (nameR_ok na) (.cons (.oth is_non) .nil), by
        show walkC [(V.str "a", true), (V.non, false)] [] = _
        rw [walkC, if_neg (fun h => nomatch h), if_neg (fun h => nomatch h), walkC, if_pos rfl]⟩⟩⟩) (show 2 ≤ 200 by decide) fun x hx => by
          rcases List.mem_cons.mp hx with q | q
          · rw [q]; exact .str _
          · rw [List.mem_singleton.mp q]; exact .non
      have w6 : EvP (tLst (tCons (tLst (tCons (tC (.str "a")) (tCons (tC (.str "a")) tNil))) (tCons (tC (.str "twice")) tNil))) σ9 H9 NC := lst (xs := [V.str "a", .str "a"]) (el_lst (ea_cons (ev_c (v := .str "a")) (ea_cons (ev_c (v := .str "a")) ea_nil)) (show 2 ≤ 100000 by decide)) (fun l H1 h => ⟨some (l, [.str "a", .str "a"]), 2, .str "a", by decide, rfl, .seq (.inl h), .inr ⟨l, _, rfl, .inr ⟨show 1 ≤ 2 by decide, show 2 ≤ 5 by decide, [true, true], .cons (nameR_ok na) (.cons (nameR_ok na) .nil), by
        show walkC [(V.str "a", true), (V.str "a", true)] [] = _
        rw [walkC, if_neg (fun h => nomatch h), if_neg (fun h => nomatch h), walkC, if_neg (fun h => nomatch h), if_pos (show V.str "a" ∈ [] ++ [V.str "a"] from List.mem_singleton.mpr rfl)]⟩⟩⟩) (show 2 ≤ 200 by decide) fun x hx => by
          rcases List.mem_cons.mp hx with q | q
          · rw [q]; exact .str _
          · rw [List.mem_singleton.mp q]; exact .str _
      have w7 : EvP (tLst (tCons (tC (.str "ab")) (tCons (tC (.str "columns")) tNil))) σ9 H9 NC := prim (fun H1 => n1 is_str) (.str _)
      have al5 := al_cons sNC w1 (al_cons sNC w2 (al_cons sNC w3 (al_cons sNC w4 (al_cons sNC w5 (al_cons sNC w6 (al_cons sNC w7 al_nil))))))
      refine q_asgAl sNC al5 (by decide) fun wl ww' H10 hwl e10 h10 lww hvw10 => ?_
      have nwl : wl ≠ b := nb_of hB9 (Ex.refl _) hwl
      refine ⟨_, rfl, _, rfl, b, 7, _, rfl, by decide, by decide, hB9.ex e10, by omega, fun j H11 j0 j1 e11 hB11 => ?_⟩
      have hj : j.toNat < ww'.length := by omega
      have ej : j = ((j.toNat : Nat) : Int) := by omega
      rw [ej]
      refine (rv_ixL (K := K) (sq_of (e11 _ _ nwl h10)) (atI_nat (List.getElem?_eq_getElem hj))) H11 (Ex.refl _) _ fun H12 e12 => ?_
      obtain ⟨l, x, wd', ev, hl', hnc, hsm⟩ := hvw10 _ (List.getElem_mem hj)
      have eNG : Ex (noB b H10) H12 := (noB_exB e11).trans e12
      rw [ev]
      refine ⟨l, _, rfl, sq_of (eNG _ _ hl'), rfl, _, _, rfl, _, _, rfl, rfl, ?_⟩
      obtain ⟨zt, hzx, hzt⟩ := (hnc.ex eNG).cols (c := c)
      dsimp only
      refine q_asg1 ⟨_, rfl, _, rfl, "kept", x, .non, bn8, rfl, .kept rfl ?_⟩
      refine (fun (z : ∃ o, ListR K H12 x o ∧ colsO K c x H12 (fun _ _ => False) _ o) => let ⟨o, o1, o2⟩ := z; AkO.cols o o1 o2) (hzt H12 (Ex.refl _) _ fun TT H13 hTT e13 h13 => ?_)
      have fin : ∀ H14, Ex H13 H14 → Q (.bl true) H14 := fun H14 e14 => k H14 ((((Ex.b e05).trans e7).trans (Ex.b (e89.trans e10))).trans (e11.trans (Ex.b ((e12.trans e13).trans e14)))) ((hB11.ex ((e12.trans e13).trans e14)).mono (by omega))
      by_cases hw : wd' = "columns"
      · have sx := ((hsm hw).ex (eNG.trans e13)).up (show 3 ≤ 5 by decide)
        have hz := hzx hw
        subst hz
        exact s_ret (ev_is (ev_andV (a := true) (b := true) (ev_is (ev_op (ev_ixL (ev_var (i := 12) rfl) ev_c (sq_of h13) (atI_nat (j := 0) (v := V.str wd') rfl)) (ev_var (i := 10) rfl) (rv_eq rfl)) (by rw [decide_eq_true rfl])) fun _ => ev_is (ev_orV (a := false) (b := true) (ev_is (ev_op (ev_var (i := 10) rfl) ev_c (rv_ne rfl)) (by rw [hw, decide_eq_true rfl] <;> rfl)) fun _ => ev_sameV (ev_ixL (ev_var (i := 12) rfl) ev_c (sq_of h13) (atI_nat (j := 1) (v := zt) rfl)) (fun H14 e14 => ev_var (i := 9) rfl) fun H14 e14 => sx.ex e14) rfl) rfl) fin
      · exact s_ret (ev_is (ev_andV (a := true) (b := true) (ev_is (ev_op (ev_ixL (ev_var (i := 12) rfl) ev_c (sq_of h13) (atI_nat (j := 0) (v := V.str wd') rfl)) (ev_var (i := 10) rfl) (rv_eq rfl)) (by rw [decide_eq_true rfl])) fun _ => ev_is (ev_orV (a := true) (b := true) (ev_is (ev_op (ev_var (i := 10) rfl) ev_c (rv_ne rfl)) (by rw [decide_eq_false (fun h => hw (by injection h))] <;> rfl)) fun h => nomatch h) rfl) rfl) fin
end
end Mv
/-! The law. -/
namespace Mv
open PySem PySem.Spec PyProof.Rows L2 Evl
theorem ev_min2 {σ : L2.St} {H : Hp} {ta tb : TE} {i j : Int} (ha : Ev ta σ H (.int i)) (hb : Ev tb σ H (.int j)) : Ev (tCB (fun xs H Q => ∃ i j, xs = [V.int i, .int j] ∧ Q (.int (if j < i then j else i)) H) (tCons ta (tCons tb tNil))) σ H (.int (if j < i then j else i)) := fun H1 e Q q =>
  ha H1 e _ fun H2 e2 => hb H2 (e.trans e2) _ fun H3 e3 => ⟨i, j, rfl, q H3 (e2.trans e3)⟩
section
variable {P : Program} {w : World} {K : PySem.W.Frag} {mg : Str → Option Value} {base : Heap} {a : Nat → Addr} {d : Nat → FuncData} {tk : Nat → Tok} {c ci : Nat → Addr} {di : Nat → FuncData}
def sp_law (K : PySem.W.Frag) : Sp := fun vs H Q _ => ∃ (p : Addr) (ns : List Int), vs = [.ref p] ∧ SqL K H p (ns.map V.int) ∧ ns.length ≤ 63 ∧ ∀ H', Q (.bl true) H'
theorem ok_law (T : All K mg a d tk c ci di) : FnG P w K mg base CX0 14 (a 30) (d 30) ["script"] (sp_law K) := by
  refine okG T.F_law.fn sc_law (fun vs H Q E h => ?_) (fun cdv A outer s H vs Q E hgd hr h => ?_)
  · obtain ⟨p, ns, rfl, _⟩ := h
    rfl
  · obtain ⟨sc, ns, rfl, hs, h63, k⟩ := h
    have nd := sc_law.nd
    have hu64 := hr.units
    refine ⟨_, (pss_cons (ps_for PassesOwn.never rfl (pi_range1 rfl T.n_range (pa_cons (pe_callB (call_max2 rfl) (by rfl) T.n_max PyProof.Rows.boot_max (pa_cons pe_int (pa_cons (pe_callB (call_min2 rfl) (by rfl) T.n_min PyProof.Rows.boot_min (pa_cons pe_int (pa_cons (pe_callB call_len_seq (by rfl) T.n_len PySem.boot_len (pa_cons (pv 0) pa_nil)) pa_nil))) pa_nil))) pa_nil)) (pg_name (i := 1) nd rfl (Or.inl rfl))
 (pss_cons (ps_set (i := 2) nd rfl (Or.inl rfl) (pe_call (ok__law_box T) (hr.mono (by decide)) rfl T.F__law_box.m T.F__law_box.kp T.F__law_box.b .nil pass0 (pa_cons (pe_call (ok__law_cell T) (hr.mono (by decide)) rfl T.F__law_cell.m T.F__law_cell.kp T.F__law_cell.b .nil pass0 (pa_cons (pv 0) (pa_cons (pv 1) pa_nil))) pa_nil)))
 (pss_cons (ps_set (i := 3) nd rfl (Or.inl rfl) (pe_cmpR op_eq (pe_call (ok__law_take T) (hr.mono (by decide)) rfl T.F__law_take.m T.F__law_take.kp T.F__law_take.b .nil pass0 (pa_cons (pv 2) (pa_cons pe_int pa_nil))) pe_int (nomark _)))
 (pss_cons (ps_set (i := 4) nd rfl (Or.inl rfl) (pe_call (ok__law_names T) (hr.mono (by decide)) rfl T.F__law_names.m T.F__law_names.kp T.F__law_names.b .nil pass0 (pa_cons (pv 2) (pa_cons (pe_op op_add pe_int (pe_call (ok__law_take T) (hr.mono (by decide)) rfl T.F__law_take.m T.F__law_take.kp T.F__law_take.b .nil pass0 (pa_cons (pv 2) (pa_cons pe_int pa_nil)))) pa_nil))))
 (pss_cons (ps_set (i := 5) nd rfl (Or.inl rfl) (pe_call (ok__law_pairs T) (hr.mono (by decide)) rfl T.F__law_pairs.m T.F__law_pairs.kp T.F__law_pairs.b .nil pass0 (pa_cons (pv 2) (pa_cons (pv 4) (pa_cons pe_int pa_nil)))))
 (pss_cons (ps_set (i := 6) nd rfl (Or.inl rfl) (pe_make T.M_Dependencies (ok_Dependencies_init T) (hr.mono (by decide)) rfl T.m_Dependencies T.F_Dependencies_init.b .nil pass_cx (pa_cons (pv 4) (pa_cons (pv 5) pa_nil))))
 (pss_cons (ps_for PassesOwn.never rfl (pi_range1 rfl T.n_range (pa_cons pe_int pa_nil)) (pg_name (i := 7) nd rfl (Or.inl rfl))
 (pss_cons (ps_if (pt_not (pt_val (pe_callG (ok__law_rows_right T) hgd (hr.mono (by decide)) rfl T.F__law_rows_right.m T.F__law_rows_right.kp T.F__law_rows_right.b .nil pass0 (pa_cons (pv 2) (pa_cons (pv 4) (pa_cons (pv 5) (pa_cons (pv 6) (pa_cons (pv 3) pa_nil))))))))
 (pss_one (ps_ret pe_bl))
 pss_nil)
 (pss_one (ps_set (i := 3) nd rfl (Or.inl rfl) (pe_not (pv 3))))))
 (pss_one (ps_if (pt_not (pt_val (pe_callG (ok__law_refused T) hgd (hr.mono (by decide)) rfl T.F__law_refused.m T.F__law_refused.kp T.F__law_refused.b .nil pass0 (pa_cons (pv 2) (pa_cons (pv 4) (pa_cons (pv 6) (pa_cons (pv 3) pa_nil)))))))
 (pss_one (ps_ret pe_bl))
 pss_nil)))))))))
 (pss_one (ps_ret pe_bl))), ?_⟩
    let Ov : Nat → L2.St → Hp → Prop := fun _ σ' H' => Ex H H' ∧ ∃ v1 v2 v3 v4 v5 v6 v7, σ' = [some (.ref sc), v1, v2, v3, v4, v5, v6, v7]
    have nn : ∀ l : Nat, 0 ≤ (if (if (l : Int) < 4 then (l : Int) else 4) > 2 then (if (l : Int) < 4 then (l : Int) else 4) else (2 : Int)) ∧ (if (if (l : Int) < 4 then (l : Int) else 4) > 2 then (if (l : Int) < 4 then (l : Int) else 4) else (2 : Int)) ≤ 4 := fun l => by
      split <;> split <;> omega
    have n1 := nn (ns.map V.int).length
    refine q_forR1 (ea_cons (ev_max2 ev_c (ev_min2 ev_c (ev_len (ev_var rfl) hs))) ea_nil) ⟨n1.1, by omega⟩ Ov (fun H1 e1 => ⟨e1, _, _, _, _, _, _, _, rfl⟩) ?_ fun σ' H' ⟨_, v1, v2, v3, v4, v5, v6, v7, hσ⟩ => ?_
    · rintro i σ' H1 hi ⟨e1, v1, v2, v3, v4, v5, v6, v7, rfl⟩
      have hi5 : i ≤ 100 := by omega
      refine ⟨_, rfl, _, rfl, sc, ns, i, rfl, ex_l e1 hs, hi5, fun cl H2 e2 => ⟨cl, rfl, fun b H3 nb e3 hB => ?_⟩⟩
      have nb1 : H1 b = none := fresh_back e2 nb
      have e13 := e2.trans e3
      have nbH : H b = none := fresh_back e1 nb1
      have eH3 := e1.trans e13
      refine ⟨_, rfl, b, 2, 0, rfl, by decide, by decide, hB, by decide, fun j H4 j0 j1 e4 hB4 => ⟨rfl, ?_⟩⟩
      generalize decide (V.int j = V.int 0) = bn
      refine ⟨_, rfl, _, rfl, b, 5, 1, rfl, by decide, by decide, hB4, by decide, fun j2 H5 k0 k1 e5 hB5 => ⟨1, j2, rfl, rfl, ?_⟩⟩
      obtain ⟨jn, rfl⟩ : ∃ jn : Nat, j2 = (jn : Int) := ⟨j2.toNat, by omega⟩
      refine ⟨b, 1 + jn, 2, by rw [show (((1 + jn : Nat)) : Int) = 1 + (jn : Int) by omega] <;> rfl, by omega, hB5, by decide, fun q zs H6 hqn hlen hnd hall e6 hB6 h6 => ?_⟩
      have hz : ∀ z ∈ zs, nameB z = true := fun z hm => (allNm_ok z (hall z hm)).1
      have l1 : 1 ≤ zs.length := by omega
      have l5 : zs.length ≤ 5 := by omega
      refine ⟨_, rfl, _, rfl, b, q, zs, 62, rfl, h6, l1, l5, hnd, hB6, by decide, fun m us rs H7 hmn e7 hB7 h7 pp hR hl8 => ?_⟩
      have nqb := box_strs hB6 h6
      have h67 := e7 _ _ nqb h6
      have pp7 : Paired (PairAt H7) us rs := Paired.imp (fun _ _ z => z.at') pp
      have lus := Paired.length pp7
      refine ⟨_, rfl, _, rfl, fun o dx ho hdx ne => ?_⟩
      refine made_at (madeG l1 l5 hz hnd (.inl h67) (.inl h7) (by omega) (Paired.imp (fun u r ⟨z, hm'⟩ => good_of z (hR r hm')) (paired_mem pp7))) ho hdx ne fun H8 e8 hO => ?_
      have h68 := e8 _ _ h67
      have h78 := e8 _ _ h7
      have pp8 : Paired (PairAt H8) us rs := Paired.imp (fun _ _ z => z.ex e8) pp7
      have hB8 := hB7.ex e8
      have e38 : ExB b H3 H8 := (((e4.trans e5).trans e6).trans e7).trans (Ex.b e8)
      have G : DG zs (dueP rs) := dg_due l1 l5 hz hnd hR (by omega)
      have l10 : rs.length ≤ 10 := by omega
      have nqb8 := box_strs hB8 h68
      have hqN : noB b H8 q = some (.lst (zs.map V.str)) := by rw [noB_ne nqb8]; exact h68
      obtain ⟨hN1, hN2⟩ := pairs_noB hB8 h78 pp8
      have hON := dep_noB hB8 hO
      let Pv : Nat → L2.St → Hp → Prop := fun t σ' H' => ExB b H8 H' ∧ BoxAt H' b (62 + 1000 + 1000 * t) ∧ ∃ (bn : Bool) (v7 : Option V), σ' = [some (.ref sc), some (.int (i : Int)), some (.ref b), some (.bl bn), some (.ref q), some (.ref m), some (.ref o), v7]
      refine q_forR1 (n := 3) (ea_cons ev_c ea_nil) ⟨by decide, by decide⟩ Pv (fun H9 e9 => ⟨Ex.b e9, hB8.ex e9, _, _, rfl⟩) ?_ ?_
      · rintro t σ' H9 ht ⟨e9, hB9, bt, v7, rfl⟩
        have eN9 : Ex (noB b H8) H9 := noB_exB e9
        refine ⟨_, rfl, _, rfl, _, rfl, _, rfl, _, rfl, b, q, m, o, zs, us, rs, _, bt, rfl, eN9 _ _ hqN, l1, l5, hnd, hz, eN9 _ _ hN1, Paired.imp (fun _ _ z => PairAt.ex z eN9) hN2, hR, l10, hON.mono eN9, hB9, by omega, fun H10 e10 hB10 => ⟨true, rfl, ?_⟩⟩
        exact s_asg (ev_notV (ev_var (i := 3) rfl)) fun H11 e11 => ⟨(e9.trans e10).trans (Ex.b e11), (hB10.ex e11).mono (by omega), _, _, rfl⟩
      · rintro σ' H9 ⟨e9, hB9, bt, v7, rfl⟩
        have eN9 : Ex (noB b H8) H9 := noB_exB e9
        refine ⟨_, rfl, _, rfl, _, rfl, _, rfl, b, q, o, bt, zs, dueP rs, _, rfl, hB9, by decide, hON.mono eN9, G, eN9 _ _ hqN, fun H10 e10 hB10 => ⟨true, rfl, ?_⟩⟩
        exact ⟨ex_exB nbH eH3 ((e38.trans e9).trans e10), _, _, _, _, _, _, _, rfl⟩
    · subst hσ
      exact s_ret ev_c fun H3 e3 => k H3
end
end Mv
namespace Mv
open PySem PySem.Spec PyProof.Rows L2 Evl
/-! ### what the top has written -/
def FE (K : PySem.W.Frag) (mg : Str → Option Value) (x : Str) (st : Stmt) (ps : List Str) : Prop := ∃ f fd, FD K mg x st f fd ps
theorem fe_mk {K : PySem.W.Frag} {h : Heap} {mg : Str → Option Value} {x : Str} {st : Stmt} {ps : List Str} (X : K.In h) (G : h.Ns mainGlobals mg) {f : Addr} {oc : Value} {od an : Option Addr} {osl : Array (Option Value)} {kV doc pm cdv ct : Value}
    (hn : PySem.W.nsIn K mainGlobals x = some (some (.ref f))) (l : K.lookup f = some ⟨oc, od, .func (PySem.W.fnOf x x (defArgs st) (defBody st) (defScope st) .none kV doc pm an cdv ct), osl⟩) (c : PySem.W.codeIn K cdv x = true) (k : PySem.W.keepIn K (.ref f) = true)
    (b : ∀ (kV doc pm : Value) (an : Option Addr) (cdv ct : Value) (us : List Value), us.length = ps.length → bindArgs (PySem.W.fnOf x x (defArgs st) (defBody st) (defScope st) .none kV doc pm an cdv ct) ⟨us, []⟩ = pure (ps.zip us)) : FE K mg x st ps :=
  ⟨f, _, fun_mk (st := st) l c k, PySem.W.mg_of X G hn, k, (fun_mk (st := st) l c k).binds b⟩
def NoL (K : PySem.W.Frag) (C : Addr) : List Str → Prop
  | [] => True
  | f :: r => PySem.W.findIn K (.ref C) f = some none ∧ NoL K C r
theorem NoL.all {K : PySem.W.Frag} {C : Addr} : ∀ {fs : List Str}, NoL K C fs → ∀ f ∈ fs, PySem.W.findIn K (.ref C) f = some none
  | [], _, _, h => nomatch h
  | f :: r, ⟨h1, h2⟩, x, h => (List.mem_cons.mp h).elim (fun e => e ▸ h1) fun z => h2.all x z
theorem exf_mk {K : PySem.W.Frag} {h : Heap} {mg : Str → Option Value} {x q : Str} {st : Stmt} {C fI : Addr} {fs : List Str} {mro : List Value} {nI : String} (X : K.In h) (G : h.Ns mainGlobals mg) {nm qn : Str} {N : Addr} {bs : List Value} {sn : List Str} {sub : List Value} {ab : Bool} {col : Option Bool} {dd : Option Addr} {k0 k1 k2 k3 k5 : Option Value}
    {oc : Value} {od an : Option Addr} {osl : Array (Option Value)} {kV doc pm cdv ct : Value} (hn : PySem.W.nsIn K mainGlobals x = some (some (.ref C))) (lC : K.lookup C = some (excClassObj nm qn C N bs mro true sn sub ab col dd k0 k1 k2 k3 k5 nI))
    (sa : PySem.W.findIn K (.ref C) "__setattr__" = some (some (.builtin "object.__setattr__"))) (ga : PySem.W.findIn K (.ref C) "__getattribute__" = some (some (.builtin "BaseException.__getattribute__"))) (gg : PySem.W.findIn K (.ref C) "__getattr__" = some none)
    (iC : PySem.W.findIn K (.ref C) "__init__" = some (some (.ref fI))) (tI : PySem.W.typeIn K (.ref fI) = some (.type "function")) (kC : PySem.W.keepIn K (.ref C) = true) (ha : PySem.W.findIn K (.ref C) "__class__" = some (some (.builtin "object.__class__"))) (no : NoL K C fs)
    (l : K.lookup fI = some ⟨oc, od, .func (PySem.W.fnOf "__init__" q (defArgs st) (defBody st) (defScope st) .none kV doc pm an cdv ct), osl⟩) (c : PySem.W.codeIn K cdv q = true) (k : PySem.W.keepIn K (.ref fI) = true)
    (b : ∀ (kV doc pm : Value) (an : Option Addr) (cdv ct : Value) (us : List Value), us.length = (("self" : Str) :: fs).length → bindArgs (PySem.W.fnOf "__init__" q (defArgs st) (defBody st) (defScope st) .none kV doc pm an cdv ct) ⟨us, []⟩ = pure ((("self" : Str) :: fs).zip us))
    (kb : ∀ (kV doc pm : Value) (an : Option Addr) (cdv ct : Value) (u : Value) (ws : List Value), ws.length = fs.reverse.length → bindArgs (PySem.W.fnOf "__init__" q (defArgs st) (defBody st) (defScope st) .none kV doc pm an cdv ct) ⟨[u], fs.reverse.zip ws⟩ = pure ((("self" : Str) :: fs).zip ([u] ++ ws.reverse))) :
    ∃ fd, ExF K mg x q st C fI fd fs mro nI :=
  ⟨_, PySem.W.mg_of X G hn, ⟨nm, qn, N, bs, sn, sub, ab, col, dd, k0, k1, k2, k3, k5, lC⟩, sa, ga, gg, iC, tI, kC, no.all, ha, fun_mk (st := st) l c k, (fun_mk (st := st) l c k).binds b,
    ⟨fun s us ws _ l1 l2 => match us, l1 with
      | [u], _ => .of_eq (kb kV doc pm an cdv ct u ws l2), fun r1 r2 => r1.append (vals_rev r2)⟩⟩
theorem bsf_mk {K : PySem.W.Frag} {h : Heap} {mg : Str → Option Value} {x : Str} {S : Addr} {tail : List Value} {iI nI : String} (X : K.In h) (G : h.Ns mainGlobals mg) {nm qn : Str} {N : Addr} {bs : List Value} {sn : List Str} {sub : List Value} {ab : Bool} {col : Option Bool} {dd : Option Addr} {k0 k1 k2 k3 k5 : Option Value}
    (hn : PySem.W.nsIn K mainGlobals x = some (some (.ref S))) (lC : K.lookup S = some (excClassObj nm qn S N bs tail true sn sub ab col dd k0 k1 k2 k3 k5 nI)) (rd : PySem.W.readsIn K S (.type "type") = true)
    (ga : PySem.W.specialIn K (.ref S) "__getattribute__" = some (some (.builtin "type.__getattribute__"))) (fc : PySem.W.findCls K (.ref S) (.type "type") "__init__" = some (.val (.builtin iI))) : BsF K mg x S tail iI :=
  ⟨PySem.W.mg_of X G hn, ⟨nm, qn, N, bs, sn, sub, ab, col, dd, k0, k1, k2, k3, k5, nI, lC⟩, rd, ga, fc⟩
theorem md_mk {K : PySem.W.Frag} {x q : Str} {st : Stmt} {f : Addr} {ps : List Str} {oc : Value} {od an : Option Addr} {osl : Array (Option Value)} {kV doc pm cdv ct : Value}
    (l : K.lookup f = some ⟨oc, od, .func (PySem.W.fnOf x q (defArgs st) (defBody st) (defScope st) .none kV doc pm an cdv ct), osl⟩) (c : PySem.W.codeIn K cdv q = true)
    (b : ∀ (kV doc pm : Value) (an : Option Addr) (cdv ct : Value) (us : List Value), us.length = ps.length → bindArgs (PySem.W.fnOf x q (defArgs st) (defBody st) (defScope st) .none kV doc pm an cdv ct) ⟨us, []⟩ = pure (ps.zip us)) : ∃ fd, MD K x q st f fd ps :=
  ⟨_, ⟨oc, od, .none, kV, doc, pm, an, cdv, ct, osl, rfl, l, c⟩, .all (b kV doc pm an cdv ct)⟩
/-- a def, called by keywords alone -/
theorem feK_mk {K : PySem.W.Frag} {h : Heap} {mg : Str → Option Value} {x : Str} {st : Stmt} {ps ks : List Str} (X : K.In h) (G : h.Ns mainGlobals mg) {f : Addr} {oc : Value} {od an : Option Addr} {osl : Array (Option Value)} {kV doc pm cdv ct : Value}
    (hn : PySem.W.nsIn K mainGlobals x = some (some (.ref f))) (l : K.lookup f = some ⟨oc, od, .func (PySem.W.fnOf x x (defArgs st) (defBody st) (defScope st) .none kV doc pm an cdv ct), osl⟩) (c : PySem.W.codeIn K cdv x = true) (k : PySem.W.keepIn K (.ref f) = true)
    (b : ∀ (kV doc pm : Value) (an : Option Addr) (cdv ct : Value) (us : List Value), us.length = ps.length → bindArgs (PySem.W.fnOf x x (defArgs st) (defBody st) (defScope st) .none kV doc pm an cdv ct) ⟨us, []⟩ = pure (ps.zip us))
    (kb : ∀ (kV doc pm : Value) (an : Option Addr) (cdv ct : Value) (ws : List Value), ws.length = ks.length → bindArgs (PySem.W.fnOf x x (defArgs st) (defBody st) (defScope st) .none kV doc pm an cdv ct) ⟨[], ks.zip ws⟩ = pure (ps.zip ([] ++ ws.reverse))) :
    ∃ f fd, FD K mg x st f fd ps ∧ KBn K fd ps 0 ks (fun us ws => us ++ ws.reverse) (fun vs zs => vs ++ zs.reverse) :=
  ⟨f, _, ⟨fun_mk (st := st) l c k, PySem.W.mg_of X G hn, k, (fun_mk (st := st) l c k).binds b⟩, ⟨fun s us ws _ l1 l2 => match us, l1 with
      | [], _ => .of_eq (kb kV doc pm an cdv ct ws l2), fun r1 r2 => r1.append (vals_rev r2)⟩⟩
/-- a method, called by keywords too -/
theorem mdK_mk {K : PySem.W.Frag} {x q : Str} {st : Stmt} {f : Addr} {ps ks : List Str} {oc : Value} {od an : Option Addr} {osl : Array (Option Value)} {kV doc pm cdv ct : Value}
    (l : K.lookup f = some ⟨oc, od, .func (PySem.W.fnOf x q (defArgs st) (defBody st) (defScope st) .none kV doc pm an cdv ct), osl⟩) (c : PySem.W.codeIn K cdv q = true)
    (b : ∀ (kV doc pm : Value) (an : Option Addr) (cdv ct : Value) (us : List Value), us.length = ps.length → bindArgs (PySem.W.fnOf x q (defArgs st) (defBody st) (defScope st) .none kV doc pm an cdv ct) ⟨us, []⟩ = pure (ps.zip us))
    (kb : ∀ (kV doc pm : Value) (an : Option Addr) (cdv ct : Value) (u : Value) (ws : List Value), ws.length = ks.length → bindArgs (PySem.W.fnOf x q (defArgs st) (defBody st) (defScope st) .none kV doc pm an cdv ct) ⟨[u], ks.zip ws⟩ = pure (ps.zip ([u] ++ ws.reverse))) :
    ∃ fd, MD K x q st f fd ps ∧ KBn K fd ps 1 ks (fun us ws => us ++ ws.reverse) (fun vs zs => vs ++ zs.reverse) :=
  ⟨_, ⟨⟨oc, od, .none, kV, doc, pm, an, cdv, ct, osl, rfl, l, c⟩, .all (b kV doc pm an cdv ct)⟩, ⟨fun s us ws _ l1 l2 => match us, l1 with
      | [u], _ => .of_eq (kb kV doc pm an cdv ct u ws l2), fun r1 r2 => r1.append (vals_rev r2)⟩⟩
/-- a method with one default, an empty tuple -/
theorem mdI_mk {K : PySem.W.Frag} {x q : Str} {st : Stmt} {f T U : Addr} {p0 p1 p2 : Str} {oc : Value} {od an : Option Addr} {osl : Array (Option Value)} {kV doc pm cdv ct : Value} {oc2 : Value} {od2 od3 : Option Addr} {n2 n3 : Nat} {sl2 sl3 : Array (Option Value)}
    (l : K.lookup f = some ⟨oc, od, .func (PySem.W.fnOf x q (defArgs st) (defBody st) (defScope st) (.ref T) kV doc pm an cdv ct), osl⟩) (c : PySem.W.codeIn K cdv q = true) (lT : K.lookup T = some ⟨oc2, od2, .seq #[.ref U] n2, sl2⟩) (lU : K.lookup U = some ⟨.type "tuple", od3, .seq #[] n3, sl3⟩)
    (b : ∀ (T : Addr) (kV doc pm : Value) (an : Option Addr) (cdv ct u : Value) (us : List Value), us.length = [p0, p1, p2].length → ∃ k, bindArgs (PySem.W.fnOf x q (defArgs st) (defBody st) (defScope st) (.ref T) kV doc pm an cdv ct) ⟨us, []⟩ = seqItems? (.ref T) >>= k ∧ k (some #[u]) = pure ([p0, p1, p2].zip us))
    (b2 : ∀ (T : Addr) (kV doc pm : Value) (an : Option Addr) (cdv ct u : Value) (us : List Value), us.length = 2 → ∃ k, bindArgs (PySem.W.fnOf x q (defArgs st) (defBody st) (defScope st) (.ref T) kV doc pm an cdv ct) ⟨us, []⟩ = seqItems? (.ref T) >>= k ∧ k (some #[u]) = pure ([p0, p1, p2].zip (us ++ [u])))
    (kb : ∀ (T : Addr) (kV doc pm : Value) (an : Option Addr) (cdv ct u v : Value) (ws : List Value), ws.length = [p2, p1].length → ∃ k, bindArgs (PySem.W.fnOf x q (defArgs st) (defBody st) (defScope st) (.ref T) kV doc pm an cdv ct) ⟨[v], [p2, p1].zip ws⟩ = seqItems? (.ref T) >>= k ∧ k (some #[u]) = pure ([p0, p1, p2].zip ([v] ++ ws.reverse))) :
    ∃ fd, MD K x q st f fd [p0, p1, p2] ∧ (∃ U, Binds K fd [p0, p1, p2] [.ref U] ∧ ∀ H : Hp, SqT K H U []) ∧ KBn K fd [p0, p1, p2] 1 [p2, p1] (fun us ws => us ++ ws.reverse) (fun vs zs => vs ++ zs.reverse) :=
  ⟨_, ⟨⟨oc, od, .ref T, kV, doc, pm, an, cdv, ct, osl, rfl, l, c⟩, fun s us X hl => by
    rw [List.append_nil] at hl ⊢
    obtain ⟨k, e1, e2⟩ := b T kV doc pm an cdv ct (.ref U) us hl
    refine BindsTo.of_looks fun M => ?_
    rw [e1]
    exact looks_items X lT rfl (.of_pure e2)⟩, ⟨U, fun s us X hl => by
    have h2 : us.length = 2 := by
      rw [List.length_append] at hl
      simpa using hl
    obtain ⟨k, e1, e2⟩ := b2 T kV doc pm an cdv ct (.ref U) us h2
    refine BindsTo.of_looks fun M => ?_
    rw [e1]
    exact looks_items X lT rfl (.of_pure e2), fun H => .inr ⟨_, #[], n3, lU, rfl, rfl, Nat.zero_le _, .nil⟩⟩, ⟨fun s us ws X l1 l2 => match us, l1 with
      | [v], _ => by
        obtain ⟨k, e1, e2⟩ := kb T kV doc pm an cdv ct (.ref U) v ws l2
        refine BindsTo.of_looks fun M => ?_
        rw [e1]
        exact looks_items X lT rfl (.of_pure e2), fun r1 r2 => r1.append (vals_rev r2)⟩⟩
theorem nd_inj {l : List Addr} (h : l.Nodup) : ∀ i j, i < l.length → j < l.length → l.getD i 0 = l.getD j 0 → i = j := fun i j hi hj e => by
  rw [List.getD_eq_getElem?_getD, List.getD_eq_getElem?_getD, List.getElem?_eq_getElem hi, List.getElem?_eq_getElem hj] at e
  exact (List.getElem_inj h).mp e
/-- an own class as the walk asks for it -/
structure OwnC (K : PySem.W.Frag) (x : Str) (C fI : Addr) (no : List Str) : Prop where
  n : PySem.W.nsIn K mainGlobals x = some (some (.ref C))
  pg : PySem.W.plainGet K C Str.empty = true
  hd : PySem.W.hasDictIn K C = true
  po : PySem.W.plainOver K C = true
  sa : PySem.W.findIn K (.ref C) "__setattr__" = some (some (.builtin "object.__setattr__"))
  mks : PySem.W.makesIn K C = true
  i : PySem.W.findIn K (.ref C) "__init__" = some (some (.ref fI))
  fi : PySem.W.isFn K (.ref fI) = true
  kc : PySem.W.keepIn K (.ref C) = true
  j : PySem.W.isClsIn K C = true
  jt : PySem.W.typeIn K (.ref C) = some (.type "type")
  hc : PySem.W.findIn K (.ref C) "__class__" = some (some (.builtin "object.__class__"))
  ob : PySem.W.mroIn K C (.type "object") = some true
  sb : PySem.W.subIn K (.ref C) (.type "bool") = some false
  si : PySem.W.subIn K (.ref C) (.type "int") = some false
  ss : PySem.W.subIn K (.ref C) (.type "str") = some false
  sl : PySem.W.subIn K (.ref C) (.type "list") = some false
  st : PySem.W.subIn K (.ref C) (.type "tuple") = some false
  no : NoL K C no
theorem b_is_integer : ∀ (kV doc pm : Value) (an : Option Addr) (cdv ct : Value) (us : List Value), us.length = (["value", "low", "high"] : List Str).length → bindArgs (PySem.W.fnOf "is_integer" "is_integer" (defArgs s_is_integer) (defBody s_is_integer) (defScope s_is_integer) .none kV doc pm an cdv ct) ⟨us, []⟩ = pure ((["value", "low", "high"] : List Str).zip us) := fun _ _ _ _ _ _ us hl => match us, hl with | [_, _, _], _ => rfl
theorem b_is_name : ∀ (kV doc pm : Value) (an : Option Addr) (cdv ct : Value) (us : List Value), us.length = (["value"] : List Str).length → bindArgs (PySem.W.fnOf "is_name" "is_name" (defArgs s_is_name) (defBody s_is_name) (defScope s_is_name) .none kV doc pm an cdv ct) ⟨us, []⟩ = pure ((["value"] : List Str).zip us) := fun _ _ _ _ _ _ us hl => match us, hl with | [_], _ => rfl
theorem b_is_list : ∀ (kV doc pm : Value) (an : Option Addr) (cdv ct : Value) (us : List Value), us.length = (["value"] : List Str).length → bindArgs (PySem.W.fnOf "is_list" "is_list" (defArgs s_is_list) (defBody s_is_list) (defScope s_is_list) .none kV doc pm an cdv ct) ⟨us, []⟩ = pure ((["value"] : List Str).zip us) := fun _ _ _ _ _ _ us hl => match us, hl with | [_], _ => rfl
theorem b_is_row : ∀ (kV doc pm : Value) (an : Option Addr) (cdv ct : Value) (us : List Value), us.length = (["value", "width"] : List Str).length → bindArgs (PySem.W.fnOf "is_row" "is_row" (defArgs s_is_row) (defBody s_is_row) (defScope s_is_row) .none kV doc pm an cdv ct) ⟨us, []⟩ = pure ((["value", "width"] : List Str).zip us) := fun _ _ _ _ _ _ us hl => match us, hl with | [_, _], _ => rfl
theorem b_lies_in : ∀ (kV doc pm : Value) (an : Option Addr) (cdv ct : Value) (us : List Value), us.length = (["some", "others"] : List Str).length → bindArgs (PySem.W.fnOf "lies_in" "lies_in" (defArgs s_lies_in) (defBody s_lies_in) (defScope s_lies_in) .none kV doc pm an cdv ct) ⟨us, []⟩ = pure ((["some", "others"] : List Str).zip us) := fun _ _ _ _ _ _ us hl => match us, hl with | [_, _], _ => rfl
theorem b_checked_columns : ∀ (kV doc pm : Value) (an : Option Addr) (cdv ct : Value) (us : List Value), us.length = (["columns"] : List Str).length → bindArgs (PySem.W.fnOf "checked_columns" "checked_columns" (defArgs s_checked_columns) (defBody s_checked_columns) (defScope s_checked_columns) .none kV doc pm an cdv ct) ⟨us, []⟩ = pure ((["columns"] : List Str).zip us) := fun _ _ _ _ _ _ us hl => match us, hl with | [_], _ => rfl
theorem b_need_column : ∀ (kV doc pm : Value) (an : Option Addr) (cdv ct : Value) (us : List Value), us.length = (["known", "name", "earlier"] : List Str).length → bindArgs (PySem.W.fnOf "need_column" "need_column" (defArgs s_need_column) (defBody s_need_column) (defScope s_need_column) .none kV doc pm an cdv ct) ⟨us, []⟩ = pure ((["known", "name", "earlier"] : List Str).zip us) := fun _ _ _ _ _ _ us hl => match us, hl with | [_, _, _], _ => rfl
theorem b_checked_pair : ∀ (kV doc pm : Value) (an : Option Addr) (cdv ct : Value) (us : List Value), us.length = (["known", "value"] : List Str).length → bindArgs (PySem.W.fnOf "checked_pair" "checked_pair" (defArgs s_checked_pair) (defBody s_checked_pair) (defScope s_checked_pair) .none kV doc pm an cdv ct) ⟨us, []⟩ = pure ((["known", "value"] : List Str).zip us) := fun _ _ _ _ _ _ us hl => match us, hl with | [_, _], _ => rfl
theorem b_subsets : ∀ (kV doc pm : Value) (an : Option Addr) (cdv ct : Value) (us : List Value), us.length = (["names"] : List Str).length → bindArgs (PySem.W.fnOf "subsets" "subsets" (defArgs s_subsets) (defBody s_subsets) (defScope s_subsets) .none kV doc pm an cdv ct) ⟨us, []⟩ = pure ((["names"] : List Str).zip us) := fun _ _ _ _ _ _ us hl => match us, hl with | [_], _ => rfl
theorem b_agreeing : ∀ (kV doc pm : Value) (an : Option Addr) (cdv ct : Value) (us : List Value), us.length = (["columns", "one", "other"] : List Str).length → bindArgs (PySem.W.fnOf "agreeing" "agreeing" (defArgs s_agreeing) (defBody s_agreeing) (defScope s_agreeing) .none kV doc pm an cdv ct) ⟨us, []⟩ = pure ((["columns", "one", "other"] : List Str).zip us) := fun _ _ _ _ _ _ us hl => match us, hl with | [_, _, _], _ => rfl
theorem b_keep_pair : ∀ (kV doc pm : Value) (an : Option Addr) (cdv ct : Value) (us : List Value), us.length = (["columns", "pair", "one", "other"] : List Str).length → bindArgs (PySem.W.fnOf "keep_pair" "keep_pair" (defArgs s_keep_pair) (defBody s_keep_pair) (defScope s_keep_pair) .none kV doc pm an cdv ct) ⟨us, []⟩ = pure ((["columns", "pair", "one", "other"] : List Str).zip us) := fun _ _ _ _ _ _ us hl => match us, hl with | [_, _, _, _], _ => rfl
theorem b_are_rows : ∀ (kV doc pm : Value) (an : Option Addr) (cdv ct : Value) (us : List Value), us.length = (["columns", "value"] : List Str).length → bindArgs (PySem.W.fnOf "are_rows" "are_rows" (defArgs s_are_rows) (defBody s_are_rows) (defScope s_are_rows) .none kV doc pm an cdv ct) ⟨us, []⟩ = pure ((["columns", "value"] : List Str).zip us) := fun _ _ _ _ _ _ us hl => match us, hl with | [_, _], _ => rfl
theorem b_need_rows : ∀ (kV doc pm : Value) (an : Option Addr) (cdv ct : Value) (us : List Value), us.length = (["columns", "rows"] : List Str).length → bindArgs (PySem.W.fnOf "need_rows" "need_rows" (defArgs s_need_rows) (defBody s_need_rows) (defScope s_need_rows) .none kV doc pm an cdv ct) ⟨us, []⟩ = pure ((["columns", "rows"] : List Str).zip us) := fun _ _ _ _ _ _ us hl => match us, hl with | [_, _], _ => rfl
theorem b_first_unkept : ∀ (kV doc pm : Value) (an : Option Addr) (cdv ct : Value) (us : List Value), us.length = (["columns", "pair", "rows"] : List Str).length → bindArgs (PySem.W.fnOf "first_unkept" "first_unkept" (defArgs s_first_unkept) (defBody s_first_unkept) (defScope s_first_unkept) .none kV doc pm an cdv ct) ⟨us, []⟩ = pure ((["columns", "pair", "rows"] : List Str).zip us) := fun _ _ _ _ _ _ us hl => match us, hl with | [_, _, _], _ => rfl
theorem b_all_kept : ∀ (kV doc pm : Value) (an : Option Addr) (cdv ct : Value) (us : List Value), us.length = (["columns", "rows"] : List Str).length → bindArgs (PySem.W.fnOf "all_kept" "all_kept" (defArgs s_all_kept) (defBody s_all_kept) (defScope s_all_kept) .none kV doc pm an cdv ct) ⟨us, []⟩ = pure ((["columns", "rows"] : List Str).zip us) := fun _ _ _ _ _ _ us hl => match us, hl with | [_, _], _ => rfl
theorem b__law_cell : ∀ (kV doc pm : Value) (an : Option Addr) (cdv ct : Value) (us : List Value), us.length = (["script", "k"] : List Str).length → bindArgs (PySem.W.fnOf "_law_cell" "_law_cell" (defArgs s__law_cell) (defBody s__law_cell) (defScope s__law_cell) .none kV doc pm an cdv ct) ⟨us, []⟩ = pure ((["script", "k"] : List Str).zip us) := fun _ _ _ _ _ _ us hl => match us, hl with | [_, _], _ => rfl
theorem b__law_box : ∀ (kV doc pm : Value) (an : Option Addr) (cdv ct : Value) (us : List Value), us.length = (["great"] : List Str).length → bindArgs (PySem.W.fnOf "_law_box" "_law_box" (defArgs s__law_box) (defBody s__law_box) (defScope s__law_box) .none kV doc pm an cdv ct) ⟨us, []⟩ = pure ((["great"] : List Str).zip us) := fun _ _ _ _ _ _ us hl => match us, hl with | [_], _ => rfl
theorem b__law_take : ∀ (kV doc pm : Value) (an : Option Addr) (cdv ct : Value) (us : List Value), us.length = (["box", "many"] : List Str).length → bindArgs (PySem.W.fnOf "_law_take" "_law_take" (defArgs s__law_take) (defBody s__law_take) (defScope s__law_take) .none kV doc pm an cdv ct) ⟨us, []⟩ = pure ((["box", "many"] : List Str).zip us) := fun _ _ _ _ _ _ us hl => match us, hl with | [_, _], _ => rfl
theorem b__law_mixed : ∀ (kV doc pm : Value) (an : Option Addr) (cdv ct : Value) (us : List Value), us.length = (["box", "items"] : List Str).length → bindArgs (PySem.W.fnOf "_law_mixed" "_law_mixed" (defArgs s__law_mixed) (defBody s__law_mixed) (defScope s__law_mixed) .none kV doc pm an cdv ct) ⟨us, []⟩ = pure ((["box", "items"] : List Str).zip us) := fun _ _ _ _ _ _ us hl => match us, hl with | [_, _], _ => rfl
theorem b__law_same : ∀ (kV doc pm : Value) (an : Option Addr) (cdv ct : Value) (us : List Value), us.length = (["given", "due"] : List Str).length → bindArgs (PySem.W.fnOf "_law_same" "_law_same" (defArgs s__law_same) (defBody s__law_same) (defScope s__law_same) .none kV doc pm an cdv ct) ⟨us, []⟩ = pure ((["given", "due"] : List Str).zip us) := fun _ _ _ _ _ _ us hl => match us, hl with | [_, _], _ => rfl
theorem b__law_names : ∀ (kV doc pm : Value) (an : Option Addr) (cdv ct : Value) (us : List Value), us.length = (["box", "many"] : List Str).length → bindArgs (PySem.W.fnOf "_law_names" "_law_names" (defArgs s__law_names) (defBody s__law_names) (defScope s__law_names) .none kV doc pm an cdv ct) ⟨us, []⟩ = pure ((["box", "many"] : List Str).zip us) := fun _ _ _ _ _ _ us hl => match us, hl with | [_, _], _ => rfl
theorem b__law_pairs : ∀ (kV doc pm : Value) (an : Option Addr) (cdv ct : Value) (us : List Value), us.length = (["box", "columns", "most"] : List Str).length → bindArgs (PySem.W.fnOf "_law_pairs" "_law_pairs" (defArgs s__law_pairs) (defBody s__law_pairs) (defScope s__law_pairs) .none kV doc pm an cdv ct) ⟨us, []⟩ = pure ((["box", "columns", "most"] : List Str).zip us) := fun _ _ _ _ _ _ us hl => match us, hl with | [_, _, _], _ => rfl
theorem b__law_keep : ∀ (kV doc pm : Value) (an : Option Addr) (cdv ct : Value) (us : List Value), us.length = (["columns", "pairs", "rows"] : List Str).length → bindArgs (PySem.W.fnOf "_law_keep" "_law_keep" (defArgs s__law_keep) (defBody s__law_keep) (defScope s__law_keep) .none kV doc pm an cdv ct) ⟨us, []⟩ = pure ((["columns", "pairs", "rows"] : List Str).zip us) := fun _ _ _ _ _ _ us hl => match us, hl with | [_, _, _], _ => rfl
theorem b__law_subsets : ∀ (kV doc pm : Value) (an : Option Addr) (cdv ct : Value) (us : List Value), us.length = (["names"] : List Str).length → bindArgs (PySem.W.fnOf "_law_subsets" "_law_subsets" (defArgs s__law_subsets) (defBody s__law_subsets) (defScope s__law_subsets) .none kV doc pm an cdv ct) ⟨us, []⟩ = pure ((["names"] : List Str).zip us) := fun _ _ _ _ _ _ us hl => match us, hl with | [_], _ => rfl
theorem b__law_told : ∀ (kV doc pm : Value) (an : Option Addr) (cdv ct : Value) (us : List Value), us.length = (["word", "thing", "rows", "by_name"] : List Str).length → bindArgs (PySem.W.fnOf "_law_told" "_law_told" (defArgs s__law_told) (defBody s__law_told) (defScope s__law_told) .none kV doc pm an cdv ct) ⟨us, []⟩ = pure ((["word", "thing", "rows", "by_name"] : List Str).zip us) := fun _ _ _ _ _ _ us hl => match us, hl with | [_, _, _, _], _ => rfl
theorem b__law_due_broken : ∀ (kV doc pm : Value) (an : Option Addr) (cdv ct : Value) (us : List Value), us.length = (["columns", "pairs", "rows"] : List Str).length → bindArgs (PySem.W.fnOf "_law_due_broken" "_law_due_broken" (defArgs s__law_due_broken) (defBody s__law_due_broken) (defScope s__law_due_broken) .none kV doc pm an cdv ct) ⟨us, []⟩ = pure ((["columns", "pairs", "rows"] : List Str).zip us) := fun _ _ _ _ _ _ us hl => match us, hl with | [_, _, _], _ => rfl
theorem b__law_due_kept : ∀ (kV doc pm : Value) (an : Option Addr) (cdv ct : Value) (us : List Value), us.length = (["columns", "rows"] : List Str).length → bindArgs (PySem.W.fnOf "_law_due_kept" "_law_due_kept" (defArgs s__law_due_kept) (defBody s__law_due_kept) (defScope s__law_due_kept) .none kV doc pm an cdv ct) ⟨us, []⟩ = pure ((["columns", "rows"] : List Str).zip us) := fun _ _ _ _ _ _ us hl => match us, hl with | [_, _], _ => rfl
theorem b__law_drawn_rows : ∀ (kV doc pm : Value) (an : Option Addr) (cdv ct : Value) (us : List Value), us.length = (["box", "columns", "pairs"] : List Str).length → bindArgs (PySem.W.fnOf "_law_drawn_rows" "_law_drawn_rows" (defArgs s__law_drawn_rows) (defBody s__law_drawn_rows) (defScope s__law_drawn_rows) .none kV doc pm an cdv ct) ⟨us, []⟩ = pure ((["box", "columns", "pairs"] : List Str).zip us) := fun _ _ _ _ _ _ us hl => match us, hl with | [_, _, _], _ => rfl
theorem b__law_rows_right : ∀ (kV doc pm : Value) (an : Option Addr) (cdv ct : Value) (us : List Value), us.length = (["box", "columns", "pairs", "rules", "by_name"] : List Str).length → bindArgs (PySem.W.fnOf "_law_rows_right" "_law_rows_right" (defArgs s__law_rows_right) (defBody s__law_rows_right) (defScope s__law_rows_right) .none kV doc pm an cdv ct) ⟨us, []⟩ = pure ((["box", "columns", "pairs", "rules", "by_name"] : List Str).zip us) := fun _ _ _ _ _ _ us hl => match us, hl with | [_, _, _, _, _], _ => rfl
theorem b__law_refused : ∀ (kV doc pm : Value) (an : Option Addr) (cdv ct : Value) (us : List Value), us.length = (["box", "columns", "rules", "by_name"] : List Str).length → bindArgs (PySem.W.fnOf "_law_refused" "_law_refused" (defArgs s__law_refused) (defBody s__law_refused) (defScope s__law_refused) .none kV doc pm an cdv ct) ⟨us, []⟩ = pure ((["box", "columns", "rules", "by_name"] : List Str).zip us) := fun _ _ _ _ _ _ us hl => match us, hl with | [_, _, _, _], _ => rfl
theorem b_law : ∀ (kV doc pm : Value) (an : Option Addr) (cdv ct : Value) (us : List Value), us.length = (["script"] : List Str).length → bindArgs (PySem.W.fnOf "law" "law" (defArgs s_law) (defBody s_law) (defScope s_law) .none kV doc pm an cdv ct) ⟨us, []⟩ = pure ((["script"] : List Str).zip us) := fun _ _ _ _ _ _ us hl => match us, hl with | [_], _ => rfl
theorem b_Dependencies_init : ∀ (T : Addr) (kV doc pm : Value) (an : Option Addr) (cdv ct u : Value) (us : List Value), us.length = (["self", "columns", "pairs"] : List Str).length → ∃ k, bindArgs (PySem.W.fnOf "__init__" "Dependencies.__init__" (defArgs s_Dependencies_init) (defBody s_Dependencies_init) (defScope s_Dependencies_init) (.ref T) kV doc pm an cdv ct) ⟨us, []⟩ = seqItems? (.ref T) >>= k ∧ k (some #[u]) = pure ((["self", "columns", "pairs"] : List Str).zip us) := fun _ _ _ _ _ _ _ _ us hl => match us, hl with | [_, _, _], _ => ⟨_, rfl, rfl⟩
theorem b_Dependencies_broken : ∀ (kV doc pm : Value) (an : Option Addr) (cdv ct : Value) (us : List Value), us.length = (["self", "rows"] : List Str).length → bindArgs (PySem.W.fnOf "broken" "Dependencies.broken" (defArgs s_Dependencies_broken) (defBody s_Dependencies_broken) (defScope s_Dependencies_broken) .none kV doc pm an cdv ct) ⟨us, []⟩ = pure ((["self", "rows"] : List Str).zip us) := fun _ _ _ _ _ _ us hl => match us, hl with | [_, _], _ => rfl
theorem b2_Dependencies_init : ∀ (T : Addr) (kV doc pm : Value) (an : Option Addr) (cdv ct u : Value) (us : List Value), us.length = 2 → ∃ k, bindArgs (PySem.W.fnOf "__init__" "Dependencies.__init__" (defArgs s_Dependencies_init) (defBody s_Dependencies_init) (defScope s_Dependencies_init) (.ref T) kV doc pm an cdv ct) ⟨us, []⟩ = seqItems? (.ref T) >>= k ∧ k (some #[u]) = pure ((["self", "columns", "pairs"] : List Str).zip (us ++ [u])) := fun _ _ _ _ _ _ _ _ us hl => match us, hl with | [_, _], _ => ⟨_, rfl, rfl⟩
theorem kb_Dependencies_init : ∀ (T : Addr) (kV doc pm : Value) (an : Option Addr) (cdv ct u v : Value) (ws : List Value), ws.length = (["pairs", "columns"] : List Str).length → ∃ k, bindArgs (PySem.W.fnOf "__init__" "Dependencies.__init__" (defArgs s_Dependencies_init) (defBody s_Dependencies_init) (defScope s_Dependencies_init) (.ref T) kV doc pm an cdv ct) ⟨[v], (["pairs", "columns"] : List Str).zip ws⟩ = seqItems? (.ref T) >>= k ∧ k (some #[u]) = pure ((["self", "columns", "pairs"] : List Str).zip ([v] ++ ws.reverse)) := fun _ _ _ _ _ _ _ _ _ ws hl => match ws, hl with | [_, _], _ => ⟨_, rfl, rfl⟩
theorem kb_Dependencies_broken : ∀ (kV doc pm : Value) (an : Option Addr) (cdv ct : Value) (u : Value) (ws : List Value), ws.length = (["rows"] : List Str).length → bindArgs (PySem.W.fnOf "broken" "Dependencies.broken" (defArgs s_Dependencies_broken) (defBody s_Dependencies_broken) (defScope s_Dependencies_broken) .none kV doc pm an cdv ct) ⟨[u], (["rows"] : List Str).zip ws⟩ = pure ((["self", "rows"] : List Str).zip ([u] ++ ws.reverse)) := fun _ _ _ _ _ _ _ ws hl => match ws, hl with | [_], _ => rfl
theorem kb_all_kept : ∀ (kV doc pm : Value) (an : Option Addr) (cdv ct : Value) (ws : List Value), ws.length = (["rows", "columns"] : List Str).length → bindArgs (PySem.W.fnOf "all_kept" "all_kept" (defArgs s_all_kept) (defBody s_all_kept) (defScope s_all_kept) .none kV doc pm an cdv ct) ⟨[], (["rows", "columns"] : List Str).zip ws⟩ = pure ((["columns", "rows"] : List Str).zip ([] ++ ws.reverse)) := fun _ _ _ _ _ _ ws hl => match ws, hl with | [_, _], _ => rfl
theorem b_InvalidName : ∀ (kV doc pm : Value) (an : Option Addr) (cdv ct : Value) (us : List Value), us.length = (["self", "value"] : List Str).length → bindArgs (PySem.W.fnOf "__init__" "InvalidName.__init__" (defArgs s_InvalidName) (defBody s_InvalidName) (defScope s_InvalidName) .none kV doc pm an cdv ct) ⟨us, []⟩ = pure ((["self", "value"] : List Str).zip us) := fun _ _ _ _ _ _ us hl => match us, hl with | [_, _], _ => rfl
theorem kb_InvalidName : ∀ (kV doc pm : Value) (an : Option Addr) (cdv ct : Value) (u : Value) (ws : List Value), ws.length = (["value"] : List Str).reverse.length → bindArgs (PySem.W.fnOf "__init__" "InvalidName.__init__" (defArgs s_InvalidName) (defBody s_InvalidName) (defScope s_InvalidName) .none kV doc pm an cdv ct) ⟨[u], (["value"] : List Str).reverse.zip ws⟩ = pure (("self" :: ["value"] : List Str).zip ([u] ++ ws.reverse)) := fun _ _ _ _ _ _ _ ws hl => match ws, hl with | [_], _ => rfl
theorem b_InvalidColumns : ∀ (kV doc pm : Value) (an : Option Addr) (cdv ct : Value) (us : List Value), us.length = (["self", "value"] : List Str).length → bindArgs (PySem.W.fnOf "__init__" "InvalidColumns.__init__" (defArgs s_InvalidColumns) (defBody s_InvalidColumns) (defScope s_InvalidColumns) .none kV doc pm an cdv ct) ⟨us, []⟩ = pure ((["self", "value"] : List Str).zip us) := fun _ _ _ _ _ _ us hl => match us, hl with | [_, _], _ => rfl
theorem kb_InvalidColumns : ∀ (kV doc pm : Value) (an : Option Addr) (cdv ct : Value) (u : Value) (ws : List Value), ws.length = (["value"] : List Str).reverse.length → bindArgs (PySem.W.fnOf "__init__" "InvalidColumns.__init__" (defArgs s_InvalidColumns) (defBody s_InvalidColumns) (defScope s_InvalidColumns) .none kV doc pm an cdv ct) ⟨[u], (["value"] : List Str).reverse.zip ws⟩ = pure (("self" :: ["value"] : List Str).zip ([u] ++ ws.reverse)) := fun _ _ _ _ _ _ _ ws hl => match ws, hl with | [_], _ => rfl
theorem b_DuplicateName : ∀ (kV doc pm : Value) (an : Option Addr) (cdv ct : Value) (us : List Value), us.length = (["self", "name"] : List Str).length → bindArgs (PySem.W.fnOf "__init__" "DuplicateName.__init__" (defArgs s_DuplicateName) (defBody s_DuplicateName) (defScope s_DuplicateName) .none kV doc pm an cdv ct) ⟨us, []⟩ = pure ((["self", "name"] : List Str).zip us) := fun _ _ _ _ _ _ us hl => match us, hl with | [_, _], _ => rfl
theorem kb_DuplicateName : ∀ (kV doc pm : Value) (an : Option Addr) (cdv ct : Value) (u : Value) (ws : List Value), ws.length = (["name"] : List Str).reverse.length → bindArgs (PySem.W.fnOf "__init__" "DuplicateName.__init__" (defArgs s_DuplicateName) (defBody s_DuplicateName) (defScope s_DuplicateName) .none kV doc pm an cdv ct) ⟨[u], (["name"] : List Str).reverse.zip ws⟩ = pure (("self" :: ["name"] : List Str).zip ([u] ++ ws.reverse)) := fun _ _ _ _ _ _ _ ws hl => match ws, hl with | [_], _ => rfl
theorem b_InvalidRows : ∀ (kV doc pm : Value) (an : Option Addr) (cdv ct : Value) (us : List Value), us.length = (["self", "value"] : List Str).length → bindArgs (PySem.W.fnOf "__init__" "InvalidRows.__init__" (defArgs s_InvalidRows) (defBody s_InvalidRows) (defScope s_InvalidRows) .none kV doc pm an cdv ct) ⟨us, []⟩ = pure ((["self", "value"] : List Str).zip us) := fun _ _ _ _ _ _ us hl => match us, hl with | [_, _], _ => rfl
theorem kb_InvalidRows : ∀ (kV doc pm : Value) (an : Option Addr) (cdv ct : Value) (u : Value) (ws : List Value), ws.length = (["value"] : List Str).reverse.length → bindArgs (PySem.W.fnOf "__init__" "InvalidRows.__init__" (defArgs s_InvalidRows) (defBody s_InvalidRows) (defScope s_InvalidRows) .none kV doc pm an cdv ct) ⟨[u], (["value"] : List Str).reverse.zip ws⟩ = pure (("self" :: ["value"] : List Str).zip ([u] ++ ws.reverse)) := fun _ _ _ _ _ _ _ ws hl => match ws, hl with | [_], _ => rfl
theorem b_UnknownColumn : ∀ (kV doc pm : Value) (an : Option Addr) (cdv ct : Value) (us : List Value), us.length = (["self", "column"] : List Str).length → bindArgs (PySem.W.fnOf "__init__" "UnknownColumn.__init__" (defArgs s_UnknownColumn) (defBody s_UnknownColumn) (defScope s_UnknownColumn) .none kV doc pm an cdv ct) ⟨us, []⟩ = pure ((["self", "column"] : List Str).zip us) := fun _ _ _ _ _ _ us hl => match us, hl with | [_, _], _ => rfl
theorem kb_UnknownColumn : ∀ (kV doc pm : Value) (an : Option Addr) (cdv ct : Value) (u : Value) (ws : List Value), ws.length = (["column"] : List Str).reverse.length → bindArgs (PySem.W.fnOf "__init__" "UnknownColumn.__init__" (defArgs s_UnknownColumn) (defBody s_UnknownColumn) (defScope s_UnknownColumn) .none kV doc pm an cdv ct) ⟨[u], (["column"] : List Str).reverse.zip ws⟩ = pure (("self" :: ["column"] : List Str).zip ([u] ++ ws.reverse)) := fun _ _ _ _ _ _ _ ws hl => match ws, hl with | [_], _ => rfl
theorem b_InvalidPairs : ∀ (kV doc pm : Value) (an : Option Addr) (cdv ct : Value) (us : List Value), us.length = (["self", "value"] : List Str).length → bindArgs (PySem.W.fnOf "__init__" "InvalidPairs.__init__" (defArgs s_InvalidPairs) (defBody s_InvalidPairs) (defScope s_InvalidPairs) .none kV doc pm an cdv ct) ⟨us, []⟩ = pure ((["self", "value"] : List Str).zip us) := fun _ _ _ _ _ _ us hl => match us, hl with | [_, _], _ => rfl
theorem kb_InvalidPairs : ∀ (kV doc pm : Value) (an : Option Addr) (cdv ct : Value) (u : Value) (ws : List Value), ws.length = (["value"] : List Str).reverse.length → bindArgs (PySem.W.fnOf "__init__" "InvalidPairs.__init__" (defArgs s_InvalidPairs) (defBody s_InvalidPairs) (defScope s_InvalidPairs) .none kV doc pm an cdv ct) ⟨[u], (["value"] : List Str).reverse.zip ws⟩ = pure (("self" :: ["value"] : List Str).zip ([u] ++ ws.reverse)) := fun _ _ _ _ _ _ _ ws hl => match ws, hl with | [_], _ => rfl
theorem b_InvalidPair : ∀ (kV doc pm : Value) (an : Option Addr) (cdv ct : Value) (us : List Value), us.length = (["self", "value"] : List Str).length → bindArgs (PySem.W.fnOf "__init__" "InvalidPair.__init__" (defArgs s_InvalidPair) (defBody s_InvalidPair) (defScope s_InvalidPair) .none kV doc pm an cdv ct) ⟨us, []⟩ = pure ((["self", "value"] : List Str).zip us) := fun _ _ _ _ _ _ us hl => match us, hl with | [_, _], _ => rfl
theorem kb_InvalidPair : ∀ (kV doc pm : Value) (an : Option Addr) (cdv ct : Value) (u : Value) (ws : List Value), ws.length = (["value"] : List Str).reverse.length → bindArgs (PySem.W.fnOf "__init__" "InvalidPair.__init__" (defArgs s_InvalidPair) (defBody s_InvalidPair) (defScope s_InvalidPair) .none kV doc pm an cdv ct) ⟨[u], (["value"] : List Str).reverse.zip ws⟩ = pure (("self" :: ["value"] : List Str).zip ([u] ++ ws.reverse)) := fun _ _ _ _ _ _ _ ws hl => match ws, hl with | [_], _ => rfl
theorem all_mk {K : PySem.W.Frag} {h : Heap} {mg : Str → Option Value} (X : K.In h) (G : h.Ns mainGlobals mg) {C0 C1 C2 C3 C4 C5 C6 C7 C8 C9 I0 I1 I2 I3 I4 I5 I6 m_Dependencies_init m_Dependencies_broken : Addr} (h_is_integer : FE K mg "is_integer" s_is_integer ["value", "low", "high"]) (h_is_name : FE K mg "is_name" s_is_name ["value"]) (h_is_list : FE K mg "is_list" s_is_list ["value"]) (h_is_row : FE K mg "is_row" s_is_row ["value", "width"]) (h_lies_in : FE K mg "lies_in" s_lies_in ["some", "others"]) (h_checked_columns : FE K mg "checked_columns" s_checked_columns ["columns"]) (h_need_column : FE K mg "need_column" s_need_column ["known", "name", "earlier"]) (h_checked_pair : FE K mg "checked_pair" s_checked_pair ["known", "value"]) (h_subsets : FE K mg "subsets" s_subsets ["names"]) (h_agreeing : FE K mg "agreeing" s_agreeing ["columns", "one", "other"]) (h_keep_pair : FE K mg "keep_pair" s_keep_pair ["columns", "pair", "one", "other"]) (h_are_rows : FE K mg "are_rows" s_are_rows ["columns", "value"]) (h_need_rows : FE K mg "need_rows" s_need_rows ["columns", "rows"]) (h_first_unkept : FE K mg "first_unkept" s_first_unkept ["columns", "pair", "rows"]) (h_all_kept : ∃ f fd, FD K mg "all_kept" s_all_kept f fd ["columns", "rows"] ∧ KBn K fd ["columns", "rows"] 0 ["rows", "columns"] (fun us ws => us ++ ws.reverse) (fun vs zs => vs ++ zs.reverse)) (h__law_cell : FE K mg "_law_cell" s__law_cell ["script", "k"]) (h__law_box : FE K mg "_law_box" s__law_box ["great"]) (h__law_take : FE K mg "_law_take" s__law_take ["box", "many"]) (h__law_mixed : FE K mg "_law_mixed" s__law_mixed ["box", "items"]) (h__law_same : FE K mg "_law_same" s__law_same ["given", "due"]) (h__law_names : FE K mg "_law_names" s__law_names ["box", "many"]) (h__law_pairs : FE K mg "_law_pairs" s__law_pairs ["box", "columns", "most"]) (h__law_keep : FE K mg "_law_keep" s__law_keep ["columns", "pairs", "rows"]) (h__law_subsets : FE K mg "_law_subsets" s__law_subsets ["names"]) (h__law_told : FE K mg "_law_told" s__law_told ["word", "thing", "rows", "by_name"]) (h__law_due_broken : FE K mg "_law_due_broken" s__law_due_broken ["columns", "pairs", "rows"]) (h__law_due_kept : FE K mg "_law_due_kept" s__law_due_kept ["columns", "rows"]) (h__law_drawn_rows : FE K mg "_law_drawn_rows" s__law_drawn_rows ["box", "columns", "pairs"]) (h__law_rows_right : FE K mg "_law_rows_right" s__law_rows_right ["box", "columns", "pairs", "rules", "by_name"]) (h__law_refused : FE K mg "_law_refused" s__law_refused ["box", "columns", "rules", "by_name"]) (h_law : FE K mg "law" s_law ["script"]) (h_Dependencies_init : ∃ fd, MD K "__init__" "Dependencies.__init__" s_Dependencies_init m_Dependencies_init fd ["self", "columns", "pairs"] ∧ (∃ U, Binds K fd ["self", "columns", "pairs"] [.ref U] ∧ ∀ H : Hp, SqT K H U []) ∧ KBn K fd ["self", "columns", "pairs"] 1 ["pairs", "columns"] (fun us ws => us ++ ws.reverse) (fun vs zs => vs ++ zs.reverse)) (h_Dependencies_broken : ∃ fd, MD K "broken" "Dependencies.broken" s_Dependencies_broken m_Dependencies_broken fd ["self", "rows"] ∧ KBn K fd ["self", "rows"] 1 ["rows"] (fun us ws => us ++ ws.reverse) (fun vs zs => vs ++ zs.reverse)) (r_Dependencies_broken : Meth K C9 "broken" m_Dependencies_broken) (h_SearchError : BsF K mg "SearchError" C7 veT "ValueError.__init__") (h_MissingError : BsF K mg "MissingError" C8 keT "KeyError.__init__") (h_InvalidName : ∃ fd, ExF K mg "InvalidName" "InvalidName.__init__" s_InvalidName C0 I0 fd ["value"] (.ref C7 :: veT) "ValueError.__new__") (h_InvalidColumns : ∃ fd, ExF K mg "InvalidColumns" "InvalidColumns.__init__" s_InvalidColumns C1 I1 fd ["value"] (.ref C7 :: veT) "ValueError.__new__") (h_DuplicateName : ∃ fd, ExF K mg "DuplicateName" "DuplicateName.__init__" s_DuplicateName C2 I2 fd ["name"] (.ref C7 :: veT) "ValueError.__new__") (h_InvalidRows : ∃ fd, ExF K mg "InvalidRows" "InvalidRows.__init__" s_InvalidRows C3 I3 fd ["value"] (.ref C7 :: veT) "ValueError.__new__") (h_UnknownColumn : ∃ fd, ExF K mg "UnknownColumn" "UnknownColumn.__init__" s_UnknownColumn C4 I4 fd ["column"] (.ref C8 :: keT) "LookupError.__new__") (h_InvalidPairs : ∃ fd, ExF K mg "InvalidPairs" "InvalidPairs.__init__" s_InvalidPairs C5 I5 fd ["value"] (.ref C7 :: veT) "ValueError.__new__") (h_InvalidPair : ∃ fd, ExF K mg "InvalidPair" "InvalidPair.__init__" s_InvalidPair C6 I6 fd ["value"] (.ref C7 :: veT) "ValueError.__new__") (h_Dependencies : OwnC K "Dependencies" C9 m_Dependencies_init ["own_columns", "own_pairs"]) (z_bool : PySem.W.nsIn K mainGlobals "bool" = some none) (z_int : PySem.W.nsIn K mainGlobals "int" = some none) (z_str : PySem.W.nsIn K mainGlobals "str" = some none) (z_list : PySem.W.nsIn K mainGlobals "list" = some none) (z_tuple : PySem.W.nsIn K mainGlobals "tuple" = some none) (z_set : PySem.W.nsIn K mainGlobals "set" = some none) (z_zip : PySem.W.nsIn K mainGlobals "zip" = some none) (z_len : PySem.W.nsIn K mainGlobals "len" = some none) (z_isinstance : PySem.W.nsIn K mainGlobals "isinstance" = some none) (z_all : PySem.W.nsIn K mainGlobals "all" = some none) (z_any : PySem.W.nsIn K mainGlobals "any" = some none) (z_sorted : PySem.W.nsIn K mainGlobals "sorted" = some none) (z_enumerate : PySem.W.nsIn K mainGlobals "enumerate" = some none) (z_max : PySem.W.nsIn K mainGlobals "max" = some none) (z_min : PySem.W.nsIn K mainGlobals "min" = some none) (z_range : PySem.W.nsIn K mainGlobals "range" = some none) (z_sum : PySem.W.nsIn K mainGlobals "sum" = some none) (z_repr : PySem.W.nsIn K mainGlobals "repr" = some none) (z_abs : PySem.W.nsIn K mainGlobals "abs" = some none) (z_ValueError : PySem.W.nsIn K mainGlobals "ValueError" = some none) (z_KeyError : PySem.W.nsIn K mainGlobals "KeyError" = some none) (z_LookupError : PySem.W.nsIn K mainGlobals "LookupError" = some none) {t0 : Tok} (c_LETTERS : PySem.W.nsIn K mainGlobals "LETTERS" = some (some (.str "abcdefghijklmnopqrstuvwxyz" t0))) {t1 : Tok} (c_LONGEST_NAME : PySem.W.nsIn K mainGlobals "LONGEST_NAME" = some (some (.int 8 t1))) {t2 : Tok} (c_MOST_VALUE : PySem.W.nsIn K mainGlobals "MOST_VALUE" = some (some (.int 999 t2))) {t3 : Tok} (c_MOST_COLUMNS : PySem.W.nsIn K mainGlobals "MOST_COLUMNS" = some (some (.int 5 t3))) {t4 : Tok} (c_MOST_ROWS : PySem.W.nsIn K mainGlobals "MOST_ROWS" = some (some (.int 40 t4))) {t5 : Tok} (c_MOST_PAIRS : PySem.W.nsIn K mainGlobals "MOST_PAIRS" = some (some (.int 10 t5))) (c_combinations : PySem.W.nsIn K mainGlobals "combinations" = some (some (.type "itertools.combinations"))) (hn : PySem.W.specialIn K (.builtin "object.__class__") "__get__" = some (some (.builtin "getset_descriptor.__get__"))) (ht : PySem.W.takesIn K (.builtin "object.__class__") = some true) (hnd : [C0, C1, C2, C3, C4, C5, C6, C7, C8, C9].Nodup) : ∃ (a : Nat → Addr) (d : Nat → FuncData) (tk : Nat → Tok) (c ci : Nat → Addr) (di : Nat → FuncData), All K mg a d tk c ci di := by
  obtain ⟨f0, d0, g0⟩ := h_is_integer
  obtain ⟨f1, d1, g1⟩ := h_is_name
  obtain ⟨f2, d2, g2⟩ := h_is_list
  obtain ⟨f3, d3, g3⟩ := h_is_row
  obtain ⟨f4, d4, g4⟩ := h_lies_in
  obtain ⟨f5, d5, g5⟩ := h_checked_columns
  obtain ⟨f6, d6, g6⟩ := h_need_column
  obtain ⟨f7, d7, g7⟩ := h_checked_pair
  obtain ⟨f8, d8, g8⟩ := h_subsets
  obtain ⟨f9, d9, g9⟩ := h_agreeing
  obtain ⟨f10, d10, g10⟩ := h_keep_pair
  obtain ⟨f11, d11, g11⟩ := h_are_rows
  obtain ⟨f12, d12, g12⟩ := h_need_rows
  obtain ⟨f13, d13, g13⟩ := h_first_unkept
  obtain ⟨f14, d14, g14, K14⟩ := h_all_kept
  obtain ⟨f15, d15, g15⟩ := h__law_cell
  obtain ⟨f16, d16, g16⟩ := h__law_box
  obtain ⟨f17, d17, g17⟩ := h__law_take
  obtain ⟨f18, d18, g18⟩ := h__law_mixed
  obtain ⟨f19, d19, g19⟩ := h__law_same
  obtain ⟨f20, d20, g20⟩ := h__law_names
  obtain ⟨f21, d21, g21⟩ := h__law_pairs
  obtain ⟨f22, d22, g22⟩ := h__law_keep
  obtain ⟨f23, d23, g23⟩ := h__law_subsets
  obtain ⟨f24, d24, g24⟩ := h__law_told
  obtain ⟨f25, d25, g25⟩ := h__law_due_broken
  obtain ⟨f26, d26, g26⟩ := h__law_due_kept
  obtain ⟨f27, d27, g27⟩ := h__law_drawn_rows
  obtain ⟨f28, d28, g28⟩ := h__law_rows_right
  obtain ⟨f29, d29, g29⟩ := h__law_refused
  obtain ⟨f30, d30, g30⟩ := h_law
  obtain ⟨d31, g31, D31, K31⟩ := h_Dependencies_init
  obtain ⟨d32, g32, K32⟩ := h_Dependencies_broken
  obtain ⟨e0, x0⟩ := h_InvalidName
  obtain ⟨e1, x1⟩ := h_InvalidColumns
  obtain ⟨e2, x2⟩ := h_DuplicateName
  obtain ⟨e3, x3⟩ := h_InvalidRows
  obtain ⟨e4, x4⟩ := h_UnknownColumn
  obtain ⟨e5, x5⟩ := h_InvalidPairs
  obtain ⟨e6, x6⟩ := h_InvalidPair
  refine ⟨fun i => match i with | 0 => f0 | 1 => f1 | 2 => f2 | 3 => f3 | 4 => f4 | 5 => f5 | 6 => f6 | 7 => f7 | 8 => f8 | 9 => f9 | 10 => f10 | 11 => f11 | 12 => f12 | 13 => f13 | 14 => f14 | 15 => f15 | 16 => f16 | 17 => f17 | 18 => f18 | 19 => f19 | 20 => f20 | 21 => f21 | 22 => f22 | 23 => f23 | 24 => f24 | 25 => f25 | 26 => f26 | 27 => f27 | 28 => f28 | 29 => f29 | 30 => f30 | 31 => m_Dependencies_init | 32 => m_Dependencies_broken | _ => f0, fun i => match i with | 0 => d0 | 1 => d1 | 2 => d2 | 3 => d3 | 4 => d4 | 5 => d5 | 6 => d6 | 7 => d7 | 8 => d8 | 9 => d9 | 10 => d10 | 11 => d11 | 12 => d12 | 13 => d13 | 14 => d14 | 15 => d15 | 16 => d16 | 17 => d17 | 18 => d18 | 19 => d19 | 20 => d20 | 21 => d21 | 22 => d22 | 23 => d23 | 24 => d24 | 25 => d25 | 26 => d26 | 27 => d27 | 28 => d28 | 29 => d29 | 30 => d30 | 31 => d31 | 32 => d32 | _ => d0, fun i => match i with | 0 => t0 | 1 => t1 | 2 => t2 | 3 => t3 | 4 => t4 | 5 => t5 | _ => t0, fun i => ([C0, C1, C2, C3, C4, C5, C6, C7, C8, C9] : List Addr).getD i 0, fun i => match i with | 0 => I0 | 1 => I1 | 2 => I2 | 3 => I3 | 4 => I4 | 5 => I5 | 6 => I6 | _ => I0, fun i => match i with | 0 => e0 | 1 => e1 | 2 => e2 | 3 => e3 | 4 => e4 | 5 => e5 | 6 => e6 | _ => e0, ?_⟩
  exact {
    n_bool := PySem.W.mg_none_of X G z_bool
    n_int := PySem.W.mg_none_of X G z_int
    n_str := PySem.W.mg_none_of X G z_str
    n_list := PySem.W.mg_none_of X G z_list
    n_tuple := PySem.W.mg_none_of X G z_tuple
    n_set := PySem.W.mg_none_of X G z_set
    n_zip := PySem.W.mg_none_of X G z_zip
    n_len := PySem.W.mg_none_of X G z_len
    n_isinstance := PySem.W.mg_none_of X G z_isinstance
    n_all := PySem.W.mg_none_of X G z_all
    n_any := PySem.W.mg_none_of X G z_any
    n_sorted := PySem.W.mg_none_of X G z_sorted
    n_enumerate := PySem.W.mg_none_of X G z_enumerate
    n_max := PySem.W.mg_none_of X G z_max
    n_min := PySem.W.mg_none_of X G z_min
    n_range := PySem.W.mg_none_of X G z_range
    n_sum := PySem.W.mg_none_of X G z_sum
    n_repr := PySem.W.mg_none_of X G z_repr
    n_abs := PySem.W.mg_none_of X G z_abs
    n_ValueError := PySem.W.mg_none_of X G z_ValueError
    n_KeyError := PySem.W.mg_none_of X G z_KeyError
    n_LookupError := PySem.W.mg_none_of X G z_LookupError
    c_LETTERS := PySem.W.mg_of X G c_LETTERS
    c_LONGEST_NAME := PySem.W.mg_of X G c_LONGEST_NAME
    c_MOST_VALUE := PySem.W.mg_of X G c_MOST_VALUE
    c_MOST_COLUMNS := PySem.W.mg_of X G c_MOST_COLUMNS
    c_MOST_ROWS := PySem.W.mg_of X G c_MOST_ROWS
    c_MOST_PAIRS := PySem.W.mg_of X G c_MOST_PAIRS
    F_is_integer := g0
    F_is_name := g1
    F_is_list := g2
    F_is_row := g3
    F_lies_in := g4
    F_checked_columns := g5
    F_need_column := g6
    F_checked_pair := g7
    F_subsets := g8
    F_agreeing := g9
    F_keep_pair := g10
    F_are_rows := g11
    F_need_rows := g12
    F_first_unkept := g13
    F_all_kept := g14
    F__law_cell := g15
    F__law_box := g16
    F__law_take := g17
    F__law_mixed := g18
    F__law_same := g19
    F__law_names := g20
    F__law_pairs := g21
    F__law_keep := g22
    F__law_subsets := g23
    F__law_told := g24
    F__law_due_broken := g25
    F__law_due_kept := g26
    F__law_drawn_rows := g27
    F__law_rows_right := g28
    F__law_refused := g29
    F_law := g30
    F_Dependencies_init := g31
    F_Dependencies_broken := g32
    c_combinations := PySem.W.mg_of X G c_combinations
    K_Dependencies_broken := K32
    K_all_kept := K14
    B_SearchError := h_SearchError
    B_MissingError := h_MissingError
    X_InvalidName := x0
    X_InvalidColumns := x1
    X_DuplicateName := x2
    X_InvalidRows := x3
    X_UnknownColumn := x4
    X_InvalidPairs := x5
    X_InvalidPair := x6
    inj := fun i j hi hj e => nd_inj hnd i j (Nat.lt_of_lt_of_le hi (show 9 ≤ 10 by decide)) (Nat.lt_of_lt_of_le hj (show 9 ≤ 10 by decide)) e
    hn := hn
    ht := ht
    m_Dependencies := PySem.W.mg_of X G h_Dependencies.n
    C_Dependencies := ⟨h_Dependencies.pg, h_Dependencies.hd, h_Dependencies.po, h_Dependencies.sa⟩
    M_Dependencies := ⟨h_Dependencies.mks, h_Dependencies.i, h_Dependencies.fi, h_Dependencies.kc⟩
    R_Dependencies_broken := r_Dependencies_broken
    A_Dependencies_own_columns := h_Dependencies.no.1
    A_Dependencies_own_pairs := h_Dependencies.no.2.1
    H_Dependencies := h_Dependencies.hc
    O_Dependencies := h_Dependencies.ob
    S_Dependencies_bool := h_Dependencies.sb
    S_Dependencies_int := h_Dependencies.si
    S_Dependencies_str := h_Dependencies.ss
    S_Dependencies_list := h_Dependencies.sl
    S_Dependencies_tuple := h_Dependencies.st
  }
theorem walk {l : PySem.W.OpenLaw} {q : Program} {loose : List Str} {XP : (Str → Option Value) → Heap → Prop} {YP : World → Heap → Prop} {d : DefRec} {K : Params → PySem.W.Frag} (hn : l.most = some 63) (hdf : d.params.defaults = []) (hd : d.name = "law")
    (hY : ∀ (w : World) (h : Heap), YP w h → (K w.params).In h)
    (F : ∀ (w : World) (mg : Str → Option Value) (h : Heap), (K w.params).In h → h.Ns mainGlobals mg → ∃ (a : Nat → Addr) (d : Nat → FuncData) (tk : Nat → Tok) (c ci : Nat → Addr) (di : Nat → FuncData), All (K w.params) mg a d tk c ci di) :
    PySem.W.WalkO q loose XP YP l.row.toRowW d [] (fun f vs => PySem.call f vs) := by
  refine walk_ofG (n := 63) (k := 14) (x := "script") (CX := fun _ => CX0) (sp := fun w => sp_law (K w.params)) hn (by decide) hdf ⟨rfl, by decide, by decide⟩ hY (fun w mg fa h KX G hmg => ?_) (fun _ _ a ns hl _ hS => ⟨a, ns, rfl, hS, hl, fun _ => rfl⟩) fun _ _ _ _ _ z => z
  obtain ⟨a, d', tk, c, ci, di, T⟩ := F w mg h KX G
  rw [hd] at hmg
  have e := hmg.symm.trans T.F_law.m
  cases e
  refine ⟨d' 30, fun s u => ?_, fun base _ _ => ok_law T⟩
  obtain ⟨oc, od, kV, doc, pm, an, cdv, ct, osl, h1, _, _⟩ := T.F_law.fn.ex
  rw [h1]
  exact .of_eq rfl
end Mv
set_option maxHeartbeats 200000
open PySem PySem.W PyProof.Rows in
set_option maxRecDepth 100000 in
set_option maxHeartbeats 0 in
theorem PySem.Challenge.cw_orderwide_k04_rows_that_keep_dependencie_holds : PySem.Challenge.rw_orderwide_k04_rows_that_keep_dependencie.Holds := by
  w_on; o_law; k_head; (case hw => w_witness2)
  k_fill
  refine Mv.walk (l := PySem.Challenge.rw_orderwide_k04_rows_that_keep_dependencie) rfl rfl rfl (fun w h Y => PySem.W.kIn_of Y) ?F
  case F =>
    intro w mg h KX G
    refine' Mv.all_mk KX G ?h_is_integer ?h_is_name ?h_is_list ?h_is_row ?h_lies_in ?h_checked_columns ?h_need_column ?h_checked_pair ?h_subsets ?h_agreeing ?h_keep_pair ?h_are_rows ?h_need_rows ?h_first_unkept ?h_all_kept ?h__law_cell ?h__law_box ?h__law_take ?h__law_mixed ?h__law_same ?h__law_names ?h__law_pairs ?h__law_keep ?h__law_subsets ?h__law_told ?h__law_due_broken ?h__law_due_kept ?h__law_drawn_rows ?h__law_rows_right ?h__law_refused ?h_law ?h_Dependencies_init ?h_Dependencies_broken ?r_Dependencies_broken ?h_SearchError ?h_MissingError ?h_InvalidName ?h_InvalidColumns ?h_DuplicateName ?h_InvalidRows ?h_UnknownColumn ?h_InvalidPairs ?h_InvalidPair ?h_Dependencies ?z_bool ?z_int ?z_str ?z_list ?z_tuple ?z_set ?z_zip ?z_len ?z_isinstance ?z_all ?z_any ?z_sorted ?z_enumerate ?z_max ?z_min ?z_range ?z_sum ?z_repr ?z_abs ?z_ValueError ?z_KeyError ?z_LookupError ?c_LETTERS ?c_LONGEST_NAME ?c_MOST_VALUE ?c_MOST_COLUMNS ?c_MOST_ROWS ?c_MOST_PAIRS ?c_combinations ?hn ?ht ?hnd
    case h_is_integer =>
      refine' Mv.fe_mk KX G ?a ?l ?c ?k ?b
      (case a => k_is)
      (case l => k_is)
      (case c => k_is)
      (case k => k_is)
      (case b => exact Mv.b_is_integer)
    case h_is_name =>
      refine' Mv.fe_mk KX G ?a ?l ?c ?k ?b
      (case a => k_is)
      (case l => k_is)
      (case c => k_is)
      (case k => k_is)
      (case b => exact Mv.b_is_name)
    case h_is_list =>
      refine' Mv.fe_mk KX G ?a ?l ?c ?k ?b
      (case a => k_is)
      (case l => k_is)
      (case c => k_is)
      (case k => k_is)
      (case b => exact Mv.b_is_list)
    case h_is_row =>
      refine' Mv.fe_mk KX G ?a ?l ?c ?k ?b
      (case a => k_is)
      (case l => k_is)
      (case c => k_is)
      (case k => k_is)
      (case b => exact Mv.b_is_row)
    case h_lies_in =>
      refine' Mv.fe_mk KX G ?a ?l ?c ?k ?b
      (case a => k_is)
      (case l => k_is)
      (case c => k_is)
      (case k => k_is)
      (case b => exact Mv.b_lies_in)
    case h_checked_columns =>
      refine' Mv.fe_mk KX G ?a ?l ?c ?k ?b
      (case a => k_is)
      (case l => k_is)
      (case c => k_is)
      (case k => k_is)
      (case b => exact Mv.b_checked_columns)
    case h_need_column =>
      refine' Mv.fe_mk KX G ?a ?l ?c ?k ?b
      (case a => k_is)
      (case l => k_is)
      (case c => k_is)
      (case k => k_is)
      (case b => exact Mv.b_need_column)
    case h_checked_pair =>
      refine' Mv.fe_mk KX G ?a ?l ?c ?k ?b
      (case a => k_is)
      (case l => k_is)
      (case c => k_is)
      (case k => k_is)
      (case b => exact Mv.b_checked_pair)
    case h_subsets =>
      refine' Mv.fe_mk KX G ?a ?l ?c ?k ?b
      (case a => k_is)
      (case l => k_is)
      (case c => k_is)
      (case k => k_is)
      (case b => exact Mv.b_subsets)
    case h_agreeing =>
      refine' Mv.fe_mk KX G ?a ?l ?c ?k ?b
      (case a => k_is)
      (case l => k_is)
      (case c => k_is)
      (case k => k_is)
      (case b => exact Mv.b_agreeing)
    case h_keep_pair =>
      refine' Mv.fe_mk KX G ?a ?l ?c ?k ?b
      (case a => k_is)
      (case l => k_is)
      (case c => k_is)
      (case k => k_is)
      (case b => exact Mv.b_keep_pair)
    case h_are_rows =>
      refine' Mv.fe_mk KX G ?a ?l ?c ?k ?b
      (case a => k_is)
      (case l => k_is)
      (case c => k_is)
      (case k => k_is)
      (case b => exact Mv.b_are_rows)
    case h_need_rows =>
      refine' Mv.fe_mk KX G ?a ?l ?c ?k ?b
      (case a => k_is)
      (case l => k_is)
      (case c => k_is)
      (case k => k_is)
      (case b => exact Mv.b_need_rows)
    case h_first_unkept =>
      refine' Mv.fe_mk KX G ?a ?l ?c ?k ?b
      (case a => k_is)
      (case l => k_is)
      (case c => k_is)
      (case k => k_is)
      (case b => exact Mv.b_first_unkept)
    case h_all_kept =>
      refine' Mv.feK_mk KX G ?a ?l ?c ?k ?b ?q_kb
      (case a => k_is)
      (case l => k_is)
      (case c => k_is)
      (case k => k_is)
      (case b => exact Mv.b_all_kept)
      (case q_kb => exact Mv.kb_all_kept)
    case h__law_cell =>
      refine' Mv.fe_mk KX G ?a ?l ?c ?k ?b
      (case a => k_is)
      (case l => k_is)
      (case c => k_is)
      (case k => k_is)
      (case b => exact Mv.b__law_cell)
    case h__law_box =>
      refine' Mv.fe_mk KX G ?a ?l ?c ?k ?b
      (case a => k_is)
      (case l => k_is)
      (case c => k_is)
      (case k => k_is)
      (case b => exact Mv.b__law_box)
    case h__law_take =>
      refine' Mv.fe_mk KX G ?a ?l ?c ?k ?b
      (case a => k_is)
      (case l => k_is)
      (case c => k_is)
      (case k => k_is)
      (case b => exact Mv.b__law_take)
    case h__law_mixed =>
      refine' Mv.fe_mk KX G ?a ?l ?c ?k ?b
      (case a => k_is)
      (case l => k_is)
      (case c => k_is)
      (case k => k_is)
      (case b => exact Mv.b__law_mixed)
    case h__law_same =>
      refine' Mv.fe_mk KX G ?a ?l ?c ?k ?b
      (case a => k_is)
      (case l => k_is)
      (case c => k_is)
      (case k => k_is)
      (case b => exact Mv.b__law_same)
    case h__law_names =>
      refine' Mv.fe_mk KX G ?a ?l ?c ?k ?b
      (case a => k_is)
      (case l => k_is)
      (case c => k_is)
      (case k => k_is)
      (case b => exact Mv.b__law_names)
    case h__law_pairs =>
      refine' Mv.fe_mk KX G ?a ?l ?c ?k ?b
      (case a => k_is)
      (case l => k_is)
      (case c => k_is)
      (case k => k_is)
      (case b => exact Mv.b__law_pairs)
    case h__law_keep =>
      refine' Mv.fe_mk KX G ?a ?l ?c ?k ?b
      (case a => k_is)
      (case l => k_is)
      (case c => k_is)
      (case k => k_is)
      (case b => exact Mv.b__law_keep)
    case h__law_subsets =>
      refine' Mv.fe_mk KX G ?a ?l ?c ?k ?b
      (case a => k_is)
      (case l => k_is)
      (case c => k_is)
      (case k => k_is)
      (case b => exact Mv.b__law_subsets)
    case h__law_told =>
      refine' Mv.fe_mk KX G ?a ?l ?c ?k ?b
      (case a => k_is)
      (case l => k_is)
      (case c => k_is)
      (case k => k_is)
      (case b => exact Mv.b__law_told)
    case h__law_due_broken =>
      refine' Mv.fe_mk KX G ?a ?l ?c ?k ?b
      (case a => k_is)
      (case l => k_is)
      (case c => k_is)
      (case k => k_is)
      (case b => exact Mv.b__law_due_broken)
    case h__law_due_kept =>
      refine' Mv.fe_mk KX G ?a ?l ?c ?k ?b
      (case a => k_is)
      (case l => k_is)
      (case c => k_is)
      (case k => k_is)
      (case b => exact Mv.b__law_due_kept)
    case h__law_drawn_rows =>
      refine' Mv.fe_mk KX G ?a ?l ?c ?k ?b
      (case a => k_is)
      (case l => k_is)
      (case c => k_is)
      (case k => k_is)
      (case b => exact Mv.b__law_drawn_rows)
    case h__law_rows_right =>
      refine' Mv.fe_mk KX G ?a ?l ?c ?k ?b
      (case a => k_is)
      (case l => k_is)
      (case c => k_is)
      (case k => k_is)
      (case b => exact Mv.b__law_rows_right)
    case h__law_refused =>
      refine' Mv.fe_mk KX G ?a ?l ?c ?k ?b
      (case a => k_is)
      (case l => k_is)
      (case c => k_is)
      (case k => k_is)
      (case b => exact Mv.b__law_refused)
    case h_law =>
      refine' Mv.fe_mk KX G ?a ?l ?c ?k ?b
      (case a => k_is)
      (case l => k_is)
      (case c => k_is)
      (case k => k_is)
      (case b => exact Mv.b_law)
    case h_Dependencies =>
      refine' { n := ?q_n, pg := ?q_pg, hd := ?q_hd, po := ?q_po, sa := ?q_sa, mks := ?q_mks, i := ?q_i, fi := ?q_fi, kc := ?q_kc, j := ?q_j, jt := ?q_jt, hc := ?q_hc, ob := ?q_ob, sb := ?q_sb, si := ?q_si, ss := ?q_ss, sl := ?q_sl, st := ?q_st, no := ?q_no }
      (case q_n => k_is)
      (case q_pg => k_is)
      (case q_hd => k_is)
      (case q_po => k_is)
      (case q_sa => k_is)
      (case q_mks => k_is)
      (case q_i => k_is)
      (case q_fi => k_is)
      (case q_kc => k_is)
      (case q_j => k_is)
      (case q_jt => k_is)
      (case q_hc => k_is)
      (case q_ob => k_is)
      (case q_sb => k_is)
      (case q_si => k_is)
      (case q_ss => k_is)
      (case q_sl => k_is)
      (case q_st => k_is)
      (case q_no => refine' ⟨?n0, ?n1, trivial⟩; (case n0 => k_is); (case n1 => k_is))
    case r_Dependencies_broken =>
      refine' ⟨?q_x, ?q_y, ?q_z⟩
      (case q_x => k_is)
      (case q_y => k_is)
      (case q_z => k_is)
    case h_Dependencies_init =>
      refine' Mv.mdI_mk ?q_l ?q_c ?q_t ?q_u ?q_b ?q_b2 ?q_kb
      (case q_l => k_is)
      (case q_c => k_is)
      (case q_t => k_is)
      (case q_u => k_is)
      (case q_b => exact Mv.b_Dependencies_init)
      (case q_b2 => exact Mv.b2_Dependencies_init)
      (case q_kb => exact Mv.kb_Dependencies_init)
    case h_Dependencies_broken =>
      refine' Mv.mdK_mk ?q_l ?q_c ?q_b ?q_kb
      (case q_l => k_is)
      (case q_c => k_is)
      (case q_b => exact Mv.b_Dependencies_broken)
      (case q_kb => exact Mv.kb_Dependencies_broken)
    case h_SearchError =>
      refine' Mv.bsf_mk KX G ?w_n ?w_l ?w_r ?w_g ?w_f
      (case w_n => k_is)
      (case w_l => k_is)
      (case w_r => k_is)
      (case w_g => k_is)
      (case w_f => k_is)
    case h_MissingError =>
      refine' Mv.bsf_mk KX G ?w_n ?w_l ?w_r ?w_g ?w_f
      (case w_n => k_is)
      (case w_l => k_is)
      (case w_r => k_is)
      (case w_g => k_is)
      (case w_f => k_is)
    case h_InvalidName =>
      refine' Mv.exf_mk KX G ?q_n ?q_lC ?q_sa ?q_ga ?q_gg ?q_iC ?q_tI ?q_kC ?q_ha ?q_no ?q_l ?q_c ?q_k ?q_b ?q_kb
      (case q_n => k_is)
      (case q_lC => k_is)
      (case q_sa => k_is)
      (case q_ga => k_is)
      (case q_gg => k_is)
      (case q_iC => k_is)
      (case q_tI => k_is)
      (case q_kC => k_is)
      (case q_ha => k_is)
      (case q_no => refine' ⟨?n0, trivial⟩; (case n0 => k_is))
      (case q_l => k_is)
      (case q_c => k_is)
      (case q_k => k_is)
      (case q_b => exact Mv.b_InvalidName)
      (case q_kb => exact Mv.kb_InvalidName)
    case h_InvalidColumns =>
      refine' Mv.exf_mk KX G ?q_n ?q_lC ?q_sa ?q_ga ?q_gg ?q_iC ?q_tI ?q_kC ?q_ha ?q_no ?q_l ?q_c ?q_k ?q_b ?q_kb
      (case q_n => k_is)
      (case q_lC => k_is)
      (case q_sa => k_is)
      (case q_ga => k_is)
      (case q_gg => k_is)
      (case q_iC => k_is)
      (case q_tI => k_is)
      (case q_kC => k_is)
      (case q_ha => k_is)
      (case q_no => refine' ⟨?n0, trivial⟩; (case n0 => k_is))
      (case q_l => k_is)
      (case q_c => k_is)
      (case q_k => k_is)
      (case q_b => exact Mv.b_InvalidColumns)
      (case q_kb => exact Mv.kb_InvalidColumns)
    case h_DuplicateName =>
      refine' Mv.exf_mk KX G ?q_n ?q_lC ?q_sa ?q_ga ?q_gg ?q_iC ?q_tI ?q_kC ?q_ha ?q_no ?q_l ?q_c ?q_k ?q_b ?q_kb
      (case q_n => k_is)
      (case q_lC => k_is)
      (case q_sa => k_is)
      (case q_ga => k_is)
      (case q_gg => k_is)
      (case q_iC => k_is)
      (case q_tI => k_is)
      (case q_kC => k_is)
      (case q_ha => k_is)
      (case q_no => refine' ⟨?n0, trivial⟩; (case n0 => k_is))
      (case q_l => k_is)
      (case q_c => k_is)
      (case q_k => k_is)
      (case q_b => exact Mv.b_DuplicateName)
      (case q_kb => exact Mv.kb_DuplicateName)
    case h_InvalidRows =>
      refine' Mv.exf_mk KX G ?q_n ?q_lC ?q_sa ?q_ga ?q_gg ?q_iC ?q_tI ?q_kC ?q_ha ?q_no ?q_l ?q_c ?q_k ?q_b ?q_kb
      (case q_n => k_is)
      (case q_lC => k_is)
      (case q_sa => k_is)
      (case q_ga => k_is)
      (case q_gg => k_is)
      (case q_iC => k_is)
      (case q_tI => k_is)
      (case q_kC => k_is)
      (case q_ha => k_is)
      (case q_no => refine' ⟨?n0, trivial⟩; (case n0 => k_is))
      (case q_l => k_is)
      (case q_c => k_is)
      (case q_k => k_is)
      (case q_b => exact Mv.b_InvalidRows)
      (case q_kb => exact Mv.kb_InvalidRows)
    case h_UnknownColumn =>
      refine' Mv.exf_mk KX G ?q_n ?q_lC ?q_sa ?q_ga ?q_gg ?q_iC ?q_tI ?q_kC ?q_ha ?q_no ?q_l ?q_c ?q_k ?q_b ?q_kb
      (case q_n => k_is)
      (case q_lC => k_is)
      (case q_sa => k_is)
      (case q_ga => k_is)
      (case q_gg => k_is)
      (case q_iC => k_is)
      (case q_tI => k_is)
      (case q_kC => k_is)
      (case q_ha => k_is)
      (case q_no => refine' ⟨?n0, trivial⟩; (case n0 => k_is))
      (case q_l => k_is)
      (case q_c => k_is)
      (case q_k => k_is)
      (case q_b => exact Mv.b_UnknownColumn)
      (case q_kb => exact Mv.kb_UnknownColumn)
    case h_InvalidPairs =>
      refine' Mv.exf_mk KX G ?q_n ?q_lC ?q_sa ?q_ga ?q_gg ?q_iC ?q_tI ?q_kC ?q_ha ?q_no ?q_l ?q_c ?q_k ?q_b ?q_kb
      (case q_n => k_is)
      (case q_lC => k_is)
      (case q_sa => k_is)
      (case q_ga => k_is)
      (case q_gg => k_is)
      (case q_iC => k_is)
      (case q_tI => k_is)
      (case q_kC => k_is)
      (case q_ha => k_is)
      (case q_no => refine' ⟨?n0, trivial⟩; (case n0 => k_is))
      (case q_l => k_is)
      (case q_c => k_is)
      (case q_k => k_is)
      (case q_b => exact Mv.b_InvalidPairs)
      (case q_kb => exact Mv.kb_InvalidPairs)
    case h_InvalidPair =>
      refine' Mv.exf_mk KX G ?q_n ?q_lC ?q_sa ?q_ga ?q_gg ?q_iC ?q_tI ?q_kC ?q_ha ?q_no ?q_l ?q_c ?q_k ?q_b ?q_kb
      (case q_n => k_is)
      (case q_lC => k_is)
      (case q_sa => k_is)
      (case q_ga => k_is)
      (case q_gg => k_is)
      (case q_iC => k_is)
      (case q_tI => k_is)
      (case q_kC => k_is)
      (case q_ha => k_is)
      (case q_no => refine' ⟨?n0, trivial⟩; (case n0 => k_is))
      (case q_l => k_is)
      (case q_c => k_is)
      (case q_k => k_is)
      (case q_b => exact Mv.b_InvalidPair)
      (case q_kb => exact Mv.kb_InvalidPair)
    (case z_bool => k_is)
    (case z_int => k_is)
    (case z_str => k_is)
    (case z_list => k_is)
    (case z_tuple => k_is)
    (case z_set => k_is)
    (case z_zip => k_is)
    (case z_len => k_is)
    (case z_isinstance => k_is)
    (case z_all => k_is)
    (case z_any => k_is)
    (case z_sorted => k_is)
    (case z_enumerate => k_is)
    (case z_max => k_is)
    (case z_min => k_is)
    (case z_range => k_is)
    (case z_sum => k_is)
    (case z_repr => k_is)
    (case z_abs => k_is)
    (case z_ValueError => k_is)
    (case z_KeyError => k_is)
    (case z_LookupError => k_is)
    (case c_LETTERS => k_is)
    (case c_LONGEST_NAME => k_is)
    (case c_MOST_VALUE => k_is)
    (case c_MOST_COLUMNS => k_is)
    (case c_MOST_ROWS => k_is)
    (case c_MOST_PAIRS => k_is)
    (case c_combinations => k_is)
    (case hn => k_is)
    (case ht => k_is)
    (case hnd => decide +kernel)
#print axioms PySem.Challenge.cw_orderwide_k04_rows_that_keep_dependencie_holds
