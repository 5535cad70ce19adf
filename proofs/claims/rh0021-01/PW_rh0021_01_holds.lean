import PyProof.Rows.All
import PyProof.ExcBaseAll.Exception
import PyProof.ExcClass3
import PyProof.InstStoreFacts
import PyProof.ObjNew
import Wide.All
import OpenK.AllK
import Wide.FinOn
import PySem.Challenge.RW_rh0021_01
set_option Elab.async false
section
open PySem PySem.W PyProof.Rows
set_option maxRecDepth 100000
set_option maxHeartbeats 8000000
namespace Mine
-- the number 1884 as it is: it makes the kit prove the head in one run, which keeps the compiled file small
local instance (priority := 5000) rawSteps : OfNat Nat 1884 := ⟨1884⟩
open_top hd for PySem.Challenge.rw_rh0021_01
end Mine
end
open Mine PySem PySem.W PyProof.Rows
open Sem (wp)
set_option compiler.extract_closed false

local macro_rules | `(tactic| k_all) => `(tactic| k_extra "zz1")
local macro_rules | `(tactic| walk_at "SrcEmpty") => `(tactic| k_extra "zz4")
local macro_rules | `(tactic| walk_at "eval ListComp") => `(tactic| k_extra "zz2")
local macro_rules | `(tactic| k_all) => `(tactic| k_extra "zz6")
local macro_rules | `(tactic| walk_at "eval Name") => `(tactic| k_extra "zz5")
local macro_rules | `(tactic| walk_at $s:str) => match (#["eval ListComp", "call builtin:sorted", "SrcEmpty", "eval Dict nil nil", "exec For Name Tuple cons nil", "eval Name", "eval Dict", "exec Raise some none", "SumMade", "SrcTwo", "exec For", "exec For Name Call cons nil", "assign Tuple", "binaryOp Add str str", "getMethod type", "setItem ref int", "subscriptTail", "binaryOp Pow int int", "SumMadeR", "call builtin:min", "eval DictComp", "exec Assign cons DictComp", "compareOp Eq", "compareOp Eq ref ref", "TestIs", "pyIter ref", "pyIter", "SrcC", "SrcRA", "SrcP", "SrcR", "exec Assign cons Dict", "GrownAll", "compareOp NotEq", "compareOp NotEq ref ref", "SrcF"] : Array String).idxOf? s.getString with | some i => `(tactic| k_extra $(Lean.Syntax.mkStrLit (#["my comp", "zz3", "my src", "my dict", "my for", "zz7", "my display", "my raise", "my made", "my two", "my for", "my for", "my unpack", "my add", "my meth", "my set", "my sub", "my pow", "my made", "my min", "my dcomp", "my adcomp", "my eq", "my eq", "my test", "my iter", "my iter", "my src", "my src", "my src", "my src", "my adict", "my grown", "my ne", "my ne", "my src"] : Array String)[i]!)) | none => Lean.Macro.throwUnsupported
-- D48
section
theorem Mine.zz_D48 : True := by
  k_with_none
  trivial
namespace Mine
theorem absQE {α : Type} {M : Model} {A : Around} {x : Sem α} {Q : α → Shared → Prop} {E : Value → Shared → Prop} {s : Shared} (h : ∀ Q' E', (∀ v s, Q v s → Q' v s) → wpAny M A x Q' E' s) : wpAny M A x Q E s := h Q E fun _ _ h => h
end Mine
end

-- C1
section
theorem Mine.zz_C1 : True := by
  k_with_none
  trivial
set_option maxRecDepth 100000
set_option maxHeartbeats 8000000
namespace Mine
noncomputable abbrev PG : Program := PySem.Challenge.rw_rh0021_01.prog
/-- what a call's state is -/
noncomputable abbrev Call (w : World) (f : Addr) (D U : Nat) (news : List (Addr × Obj)) (vs : List Value) (post : (Value → List (Addr × Obj) → Prop) → Prop) : Prop :=
  ∀ (p : Program) (loose : List Str) (mean : ExcName → Option Value) (mg mb : Str → Option Value) (dp un : Nat) (gd : Option (List Code)) (cn : Str) (cs : Scope) (a : Addr) (ccd : Value) (cl : List (Str × Addr)) (outer : List Env) (A₀ : Around) (base h₀ : Heap) (L : Addr) (m : Str → Option Value) (s : Shared)
    (Q E : Value → Shared → Prop),
    Below A₀ base outer h₀ → Fr h₀ L s.heap m → (Mine.hd.heap_39 w.params).In h₀ → News h₀ L s.heap news → Top p loose mean mg mb h₀ → cs.kind = .function → dp + D < recursionLimit → un + U < cLine →
    post (fun v news' => ∀ (h' : Heap) (tk' : Nat), Fr h₀ L h' m → News h₀ L h' news' → Q v { s with heap := h', toks := tk' }) →
    wpAny (model PG w) (ktrTop dp un gd cn cs L a ccd cl outer) (call (.ref f) vs) Q E s
theorem Call.use {w : World} {f : Addr} {D U : Nat} {news : List (Addr × Obj)} {vs : List Value} {post : (Value → List (Addr × Obj) → Prop) → Prop} (C : Call w f D U news vs post)
    {p : Program} {loose : List Str} {mean : ExcName → Option Value} {mg mb : Str → Option Value} {dp un : Nat} {gd : Option (List Code)} {cn : Str} {cs : Scope} {a : Addr} {ccd : Value} {cl : List (Str × Addr)} {outer : List Env} {A₀ : Around} {base h₀ : Heap} {L : Addr} {m : Str → Option Value} {s : Shared}
    {Q E : Value → Shared → Prop}
    (B : Below A₀ base outer h₀) (F : Fr h₀ L s.heap m) (X : (Mine.hd.heap_39 w.params).In h₀) (N : News h₀ L s.heap news) (T : Top p loose mean mg mb h₀) (hk : cs.kind = .function) (hd : dp + D < recursionLimit) (hu : un + U < cLine)
    (ret : post (fun v news' => ∀ (h' : Heap) (tk' : Nat), Fr h₀ L h' m → News h₀ L h' news' → Q v { s with heap := h', toks := tk' })) :
    wpAny (model PG w) (ktrTop dp un gd cn cs L a ccd cl outer) (call (.ref f) vs) Q E s := C _ _ _ _ _ _ _ _ _ _ _ _ _ _ _ _ _ _ _ _ _ _ B F X N T hk hd hu ret



theorem fmod_one_ne (x : Int) : ((if x < 0 then -x else x).fmod (if (1:Int) < 0 then -1 else 1) != 0) = false := by
  have h : (if (1:Int) < 0 then (-1:Int) else 1) = 1 := by decide
  rw [h]
  have : ∀ y : Int, y.fmod 1 = 0 := fun y => by simp [Int.fmod_eq_emod_of_nonneg]
  rw [this]; rfl

theorem gcd_spec (w : World) (news) (x : Int) (t t' : Tok) : Call w 41 1 20 news [.int x t, .int 1 t'] (fun R => ∀ t, R (.int 1 t) news) := by
  intro p loose mean mg mb dp un gd cn cs a ccd cl outer A₀ base h₀ L m s Q E B F X N T hk hd hu hret
  refine wpAny_call ?_
  k_dflt ktr_enter
  k_with_none
  k_with "WhlIf" => (refine WhlIf.no (fmod_one_ne _) ?_)
  k_steps
  all_goals exact hret _ _ _ (by k_asm) (cb_drop (by assumption) (by kcj_all))

noncomputable abbrev ratO (x : Int) (t t' : Tok) : Obj := { cls := .type "tuple", data := .seq #[.int x t, .int 1 t'] }

theorem rat_spec (w : World) (news) (x : Int) (t t' : Tok) : Call w 57 2 40 news [.int x t, .int 1 t']
    (fun R => ∀ D t t', (∀ p ∈ news, p.1 < D) → R (.ref D) ((D, ratO x t t') :: news)) := by
  intro p loose mean mg mb dp un gd cn cs a ccd cl outer A₀ base h₀ L m s Q E B F X N T hk hd hu hret
  refine wpAny_call ?_
  k_dflt ktr_enter
  k_with_none
  k_with "call ref" => ((refine' Call.use (gcd_spec w _ _ _ _) ?k1 ?k2 ?k3 ?k4 ?k5 ?kK ?kd ?ku ?_; (case k1 => k_asm); (case k2 => k_asm); (case k3 => k_asm); (case k4 => k_asm); (case k5 => k_asm); (case kK => first | exact rfl | assumption); (case kd => ktr_room); (case ku => ktr_units); (try dsimp only); (intros); (try dsimp only); (try k_fold)))
  k_steps
  all_goals (simp only [Int.fdiv_one] at *; exact hret _ _ _ (by assumption) _ _ (by k_asm) (by k_asm))

noncomputable def Held (K : Frag) (news : List (Addr × Obj)) (a : Addr) (o : Obj) : Prop := K.lookup a = some o ∨ (a, o) ∈ news
theorem Held.get {K : Frag} {news : List (Addr × Obj)} {a : Addr} {o : Obj} {h₀ h : Heap} {L : Addr} {m : Str → Option Value} (H : Held K news a o) (X : K.In h₀) (F : Fr h₀ L h m) (N : News h₀ L h news) : h.get? a = some o :=
  H.elim (fun e => F.keep _ _ (X _ _ e)) fun e => (N _ e).1
theorem Held.mono {K : Frag} {news news' : List (Addr × Obj)} {a : Addr} {o : Obj} (H : Held K news a o) (hs : ∀ p ∈ news, p ∈ news') : Held K news' a o := H.imp id (hs _)
noncomputable abbrev tupO (l : List Value) (n : Nat) : Obj := { cls := .type "tuple", data := .seq l.toArray n }
noncomputable def RatAt (w : World) (news : List (Addr × Obj)) (a : Addr) (x : Int) : Prop := ∃ t t' n, Held (Mine.hd.heap_39 w.params) news a (tupO [.int x t, .int 1 t'] n)
theorem RatAt.mono {w : World} {news news' : List (Addr × Obj)} {a : Addr} {x : Int} (H : RatAt w news a x) (hs : ∀ p ∈ news, p ∈ news') : RatAt w news' a x := let ⟨t, t', n, h⟩ := H; ⟨t, t', n, h.mono hs⟩

theorem item_held {prog : Program} {w : World} {A : Around} {E : Value → Shared → Prop} {s : Shared} {K : Frag} {news news' : List (Addr × Obj)} {a : Addr} {l : List Value} {n : Nat} {h₀ : Heap} {L : Addr} {m : Str → Option Value}
    {value slice : PySem.Expr} {k : Int} {u : Tok} {j : Nat} {v : Value} {Q : Value → Shared → Prop}
    (H : Held K news a (tupO l n)) (X : K.In h₀) (F : Fr h₀ L s.heap m) (N : News h₀ L s.heap news') (hs : ∀ p ∈ news, p ∈ news') (hlo : -(2 ^ 63) ≤ k) (hhi : k < 2 ^ 63) (hj : seqIndex? k l.length = some j) (hx : l[j]? = some v) (h : Q v s)
    (hs' : subscripted slice false (.ref a) (.int k u) = operate [.ref a, .int k u] (getItem (.ref a) (.int k u)) := by with_unfolding_all rfl) :
    wpAny (model prog w) A (subscriptTail value slice (.ref a) (.int k u)) Q E s :=
  item_tupleT (l := l) ⟨_, (H.mono hs).get X F N, rfl, n, rfl⟩ hlo hhi hj hx h hs'

theorem radd_spec (w : World) (news) (a b : Addr) (x y : Int) (ha : RatAt w news a x) (hb : RatAt w news b y) : Call w 64 3 60 news [.ref a, .ref b]
    (fun R => ∀ D t t', (∀ p ∈ news, p.1 < D) → R (.ref D) ((D, ratO (x + y) t t') :: news)) := by
  intro p loose mean mg mb dp un gd cn cs a ccd cl outer A₀ base h₀ L m s Q E B F X N T hk hd hu hret
  obtain ⟨t1, t2, n1, ha⟩ := ha
  obtain ⟨t3, t4, n2, hb⟩ := hb
  refine wpAny_call ?_
  k_dflt ktr_enter
  k_with_none
  k_with "call ref" => (simp only [Int.mul_one, Int.one_mul]; ((refine' Call.use (rat_spec w _ _ _ _) ?k1 ?k2 ?k3 ?k4 ?k5 ?kK ?kd ?ku ?_; (case k1 => k_asm); (case k2 => k_asm); (case k3 => k_asm); (case k4 => k_asm); (case k5 => k_asm); (case kK => first | exact rfl | assumption); (case kd => ktr_room); (case ku => ktr_units); (try dsimp only); (intros); (try dsimp only); (try k_fold))))
  k_with "subscriptTail" => ((k_here; (with_reducible show wpAny _ _ (subscriptTail _ _ (Value.ref _) (Value.int _ _)) _ _ _); with_unfolding_all refine' item_held ?k1 ?k2 ?k3 ?k4 ?k5 ?k6 ?k7 ?k8 ?k9 ?_ ?k10; (case k1 => assumption); (case k2 => k_asm); (case k3 => k_asm); (case k4 => k_asm); (case k5 => kcj_all); (case k6 => decide); (case k7 => decide); (case k8 => exact rfl); (case k9 => exact rfl); (case k10 => with_unfolding_all rfl); k_whole))
  k_with "binaryOp Mult int int" => (refine mul_int ?_ (.of_right (by decide)))
  k_steps
  all_goals exact hret _ _ _ (by assumption) _ _ (by k_asm) (by k_asm)

theorem rmul_spec (w : World) (news) (a b : Addr) (x y : Int) (ha : RatAt w news a x) (hb : RatAt w news b y) (hm : IntMulOk x y) : Call w 71 3 60 news [.ref a, .ref b]
    (fun R => ∀ D t t', (∀ p ∈ news, p.1 < D) → R (.ref D) ((D, ratO (x * y) t t') :: news)) := by
  intro p loose mean mg mb dp un gd cn cs a ccd cl outer A₀ base h₀ L m s Q E B F X N T hk hd hu hret
  obtain ⟨t1, t2, n1, ha⟩ := ha
  obtain ⟨t3, t4, n2, hb⟩ := hb
  refine wpAny_call ?_
  k_dflt ktr_enter
  k_with_none
  k_with "call ref" => (simp only [Int.mul_one, Int.one_mul]; ((refine' Call.use (rat_spec w _ _ _ _) ?k1 ?k2 ?k3 ?k4 ?k5 ?kK ?kd ?ku ?_; (case k1 => k_asm); (case k2 => k_asm); (case k3 => k_asm); (case k4 => k_asm); (case k5 => k_asm); (case kK => first | exact rfl | assumption); (case kd => ktr_room); (case ku => ktr_units); (try dsimp only); (intros); (try dsimp only); (try k_fold))))
  k_with "subscriptTail" => ((k_here; (with_reducible show wpAny _ _ (subscriptTail _ _ (Value.ref _) (Value.int _ _)) _ _ _); with_unfolding_all refine' item_held ?k1 ?k2 ?k3 ?k4 ?k5 ?k6 ?k7 ?k8 ?k9 ?_ ?k10; (case k1 => assumption); (case k2 => k_asm); (case k3 => k_asm); (case k4 => k_asm); (case k5 => kcj_all); (case k6 => decide); (case k7 => decide); (case k8 => exact rfl); (case k9 => exact rfl); (case k10 => with_unfolding_all rfl); k_whole))
  k_with "binaryOp Mult int int" => (refine mul_int ?_ (by first | exact hm | exact (.of_right (by decide))))
  k_steps
  all_goals exact hret _ _ _ (by assumption) _ _ (by k_asm) (by k_asm)
end Mine
end

-- C2
section
theorem Mine.zz_C2 : True := by
  k_with_none
  trivial
set_option maxRecDepth 100000
set_option maxHeartbeats 4000000
namespace Mine

/-- the key ((), (x, 1), k) -/
noncomputable def IsGK (w : World) (h : Heap) (k : Int × Int) (a : Addr) : Prop :=
  ∃ p r t n, h.get? a = some (tupO [.ref p, .ref r, .int k.2 t] n) ∧ IsTupleKey (intKind PG w) h [] p ∧ IsTupleKey (intKind PG w) h [k.1, 1] r
noncomputable def gkHash (w : World) (k : Int × Int) : Int :=
  reduceHash (Builtin.Tuple.tupleHashOf [tupleKeyHash (intKind PG w) [], tupleKeyHash (intKind PG w) [k.1, 1], hashInt k.2])

section
variable {w : World} {A : Around} {E : Value → Shared → Prop} {s : Shared}
theorem IsGK.typeIs {k : Int × Int} {a : Addr} (x : IsGK w s.heap k a) : s.TypeIs (.ref a) "tuple" := let ⟨_, _, _, _, ho, _⟩ := x; ⟨_, ho, rfl⟩

theorem gk_hash {k : Int × Int} {a : Addr} {Q : Int → Shared → Prop} (hu : A.units + 1 < cLine) (hk : IsGK w s.heap k a) (h : Q (gkHash w k) { s with toks := s.toks + 6 }) :
    wpAny (model PG w) A (pyHash (.ref a)) Q E s := by
  have hT := hk.typeIs
  obtain ⟨p, r, t, n, ho, hp, hr⟩ := hk
  unfold pyHash
  first | unfold pyHashByItsType | skip
  first | refine wpAny_bind (wpAny_cRoomFor_or (.inr (by omega)) ?_) | skip
  refine wpAny_bind (wpAny_specialOf hT F.slot_tuple_hash.lookup ?_)
  show wpAny _ _ (if (some (Value.builtin "tuple.__hash__") == some Value.none) = true then _ else _) Q E s
  rw [if_neg (by rw [beq_builtin_none]; exact Bool.false_ne_true)]
  refine wpAny_bind (wpAny_specialOf hT F.slot_tuple_hash.lookup ?_)
  show wpAny _ _ (callSpecialIfBoundUnlessNone? (.ref a) "__hash__" _ >>= _) Q E s
  refine wpAny_bind (wpAny_callSpecialIfBoundUnlessNone?_slot hT F.slot_tuple_hash (wpAny_call_entry F.slot_tuple_hash hT F.entry_tuple_hash ?_ (F.args_tuple_hash_1 _)))
  show wpAny _ _ (Builtin.Tuple.tupleItemsOf (.ref a) >>= _) _ _ s
  refine wpAny_bind (wpAny_tupleItemsOf ho rfl ?_)
  refine wpAny_bind ?_
  rw [← Array.forIn_toList]
  simp only [List.forIn_cons, List.forIn_nil]
  refine wpAny_bind (wpAny_bind (wpAny_pyHash_tuple (knd := intKind PG w) hu hp (wpAny_pure ?_)))
  refine wpAny_bind (wpAny_bind (wpAny_pyHash_tuple (knd := intKind PG w) hu hr (wpAny_pure ?_)))
  refine wpAny_bind (wpAny_bind (wpAny_pyHash_int (wpAny_pure ?_)))
  dsimp only
  refine wpAny_pure ?_
  have e : (((#[].push (tupleKeyHash (intKind PG w) [])).push (tupleKeyHash (intKind PG w) [k.1, 1])).push (hashInt k.2)).toList = [tupleKeyHash (intKind PG w) [], tupleKeyHash (intKind PG w) [k.1, 1], hashInt k.2] := rfl
  show wpAny _ _ (retInt (Builtin.Tuple.tupleHashOf [tupleKeyHash (intKind PG w) [], tupleKeyHash (intKind PG w) [k.1, 1], hashInt k.2])) _ _ _
  unfold gkHash reduceHash at h
  generalize Builtin.Tuple.tupleHashOf [tupleKeyHash (intKind PG w) [], tupleKeyHash (intKind PG w) [k.1, 1], hashInt k.2] = H at h ⊢
  refine wpAny_ret_mkInt ?_
  show wpAny _ _ (if (decide (-(2 : Int) ^ 63 ≤ H) && decide (H < 2 ^ 63)) = true then _ else _) Q E _
  by_cases hr' : (decide (-(2 : Int) ^ 63 ≤ H) && decide (H < 2 ^ 63)) = true
  · rw [if_pos hr'] at h ⊢
    exact wpAny_pure h
  · rw [if_neg hr'] at h ⊢
    exact wpAny_bind (wpAny_rule (wpAny_pure h))

theorem IsTupleKey.objs {h : Heap} {ks : List Int} {a : Addr} (x : IsTupleKey (intKind PG w) h ks a) : ∃ items n o, h.get? a = some o ∧ o.data = .seq items n ∧ items.size = ks.length := by
  obtain ⟨o, items, n, ho, _, hd, hi⟩ := x
  exact ⟨items, n, o, ho, hd, by have := hi.length; simp only [Array.length_toList] at this; exact this.symm⟩

theorem gk_eq_tree {x y : Int × Int} {a b : Addr} {P : Fin → Shared → Prop} (hu : A.units < cLine) (hx : IsGK w s.heap x a) (hy : IsGK w s.heap y b) (h : P (.done (.ret (.bool (decide (x = y))))) s) :
    wpAny (model PG w) A (Builtin.«tuple.__eq__» ⟨[.ref a, .ref b], []⟩) P E s := by
  have hTb := hy.typeIs
  obtain ⟨p, r, t, n, ho, hp, hr⟩ := hx
  obtain ⟨p', r', t', n', ho', hp', hr'⟩ := hy
  show wpAny _ _ (isInstance (.ref b) (.type "tuple") >>= _) _ _ s
  refine wpAny_bind (wpAny_isInstance hTb isSubtype_tuple_tuple ?_)
  simp only [Bool.not_true, Bool.false_eq_true, if_false]
  refine wpAny_bind (wpAny_tupleItemsOf ho rfl ?_)
  refine wpAny_bind (wpAny_tupleItemsOf ho' rfl ?_)
  refine wpAny_bind ?_
  simp only [List.toList_toArray, List.zip_cons_cons, List.zip_nil_left, List.forIn_cons, List.forIn_nil]
  refine wpAny_bind (wpAny_bind (wpAny_eqBool_tuple (knd := intKind PG w) (by omega) hp hp' ?_))
  rw [decide_eq_true rfl]
  simp only [Bool.not_true, Bool.false_eq_true, if_false]
  refine wpAny_pure ?_
  dsimp only
  refine wpAny_bind (wpAny_bind (wpAny_eqBool_tuple (knd := intKind PG w) (by omega) hr hr' ?_))
  by_cases e1 : x.1 = y.1
  · rw [decide_eq_true (by rw [e1])]
    simp only [Bool.not_true, Bool.false_eq_true, if_false]
    refine wpAny_pure ?_
    dsimp only
    refine wpAny_bind (wpAny_bind (wpAny_eqBool_int ?_))
    by_cases e2 : x.2 = y.2
    · rw [show (x.2 == y.2) = true from beq_iff_eq.mpr e2]
      simp only [Bool.not_true, Bool.false_eq_true, if_false]
      refine wpAny_pure (wpAny_pure ?_)
      dsimp only
      have e3 : x = y := Prod.ext e1 e2
      rw [decide_eq_true e3] at h
      exact wpAny_pure h
    · rw [show (x.2 == y.2) = false from beq_eq_false_iff_ne.mpr e2]
      have e3 : ¬ x = y := fun q => e2 (by rw [q])
      rw [decide_eq_false e3] at h
      simp only [Bool.not_false, if_true]
      exact wpAny_bind (wpAny_pure (wpAny_pure (wpAny_pure (wpAny_pure h))))
  · rw [decide_eq_false (fun q => e1 (by injection q))]
    have e3 : ¬ x = y := fun q => e1 (by rw [q])
    rw [decide_eq_false e3] at h
    simp only [Bool.not_false, if_true]
    exact wpAny_bind (wpAny_pure (wpAny_pure (wpAny_pure (wpAny_pure h))))

theorem IsGK.inj {h : Heap} {a : Addr} {x y : Int × Int} (hx : IsGK w h x a) (hy : IsGK w h y a) : x = y := by
  obtain ⟨p, r, t, n, ho, hp, hr⟩ := hx
  obtain ⟨p', r', t', n', ho', hp', hr'⟩ := hy
  rw [ho] at ho'
  have e := Option.some.inj ho'
  injection e with _ _ e
  injection e with e _
  have e := congrArg Array.toList e
  simp only [List.cons.injEq, Value.ref.injEq, Value.int.injEq, and_true] at e
  obtain ⟨rfl, rfl, e2, _⟩ := e
  have := IsTupleKey.inj hr hr'
  injection this with e1 _
  exact Prod.ext e1 e2

theorem gk_eqBool {x y : Int × Int} {a b : Addr} {Q : Bool → Shared → Prop} (hu : A.units + 1 < cLine) (hx : IsGK w s.heap x a) (hy : IsGK w s.heap y b) (h : Q (decide (x = y)) s) :
    wpAny (model PG w) A (eqBool (.ref a) (.ref b)) Q E s := by
  unfold eqBool
  try with_reducible refine wpAny_holding ?_
  show wpAny _ _ (if (Value.ref a == Value.ref b) = true then _ else _) Q E s
  by_cases hab : (Value.ref a == Value.ref b) = true
  · rw [if_pos hab]
    have e : a = b := by have := eq_of_beq hab; injection this
    subst e
    obtain rfl := hx.inj hy
    exact wpAny_bind (wpAny_rule (wpAny_pure (by simpa using h)))
  · rw [if_neg hab]
    exact wpAny_bind (wpAny_richCompare_same_room (op := .Eq) hx.typeIs hy.typeIs F.slot_tuple_eq
      (wpAny_call_entry F.slot_tuple_eq hx.typeIs F.entry_tuple_eq (gk_eq_tree (by exact hu) hx hy ⟨_, rfl, (fun e => nomatch e), wpAny_truthy_bool h⟩) (F.args_tuple_eq_2 _ _)) (by omega))

theorem quiet_ints {n : Nat} {ks : List Int} {a : Addr} {Q : Bool → Shared → Prop} (hk : IsTupleKey (intKind PG w) s.heap ks a) (h : Q true s) : wpAny (model PG w) A (eqIsQuiet (n + 1) (.ref a)) Q E s := by
  have hT := hk.typeIs
  obtain ⟨o, items, _, ho, _, hd, hi⟩ := hk
  unfold eqIsQuiet
  refine wpAny_bind (wpAny_specialOf hT F.slot_tuple_eq.lookup ?_)
  show wpAny _ _ (isInstance (.ref a) (.type "tuple") >>= _) _ _ s
  refine wpAny_bind (wpAny_isInstance hT isSubtype_tuple_tuple ?_)
  simp only [Bool.not_true, Bool.false_eq_true, if_false]
  refine wpAny_bind (wpAny_seqItems ho hd ?_)
  refine wpAny_bind ?_
  show wpAny _ _ (forIn items _ _) _ _ s
  rw [← Array.forIn_toList]
  refine wpAny_forIn_list _ (fun rest r s' => r.1 = none ∧ s' = s ∧ ∀ v ∈ rest, carriedByValue v = true) _ ?_ ?_ _ _ ⟨rfl, rfl, hi.byValue⟩
  · rintro v rest r s' ⟨hr, rfl, hall⟩
    rw [eqIsQuiet_byValue _ (hall v List.mem_cons_self)]
    refine wpAny_bind (wpAny_pure ?_)
    simp only [Bool.not_true, Bool.false_eq_true, if_false]
    exact wpAny_pure ⟨rfl, rfl, fun u hu' => hall u (List.mem_cons_of_mem _ hu')⟩
  · rintro ⟨r1, r2⟩ s' ⟨hr, rfl, _⟩
    simp only at hr
    subst hr
    exact wpAny_pure h

theorem gk_quiet {k : Int × Int} {a : Addr} {Q : Bool → Shared → Prop} (hk : IsGK w s.heap k a) (h : Q true s) : wpAny (model PG w) A (eqIsQuiet 8 (.ref a)) Q E s := by
  have hT := hk.typeIs
  obtain ⟨p, r, t, n, ho, hp, hr⟩ := hk
  unfold eqIsQuiet
  refine wpAny_bind (wpAny_specialOf hT F.slot_tuple_eq.lookup ?_)
  show wpAny _ _ (isInstance (.ref a) (.type "tuple") >>= _) _ _ s
  refine wpAny_bind (wpAny_isInstance hT isSubtype_tuple_tuple ?_)
  simp only [Bool.not_true, Bool.false_eq_true, if_false]
  refine wpAny_bind (wpAny_seqItems ho rfl ?_)
  refine wpAny_bind ?_
  show wpAny _ _ (forIn (#[Value.ref p, .ref r, .int k.2 t]) _ _) _ _ s
  rw [← Array.forIn_toList]
  simp only [List.forIn_cons, List.forIn_nil]
  refine wpAny_bind (wpAny_bind (quiet_ints hp ?_))
  simp only [Bool.not_true, Bool.false_eq_true, if_false]
  refine wpAny_pure ?_
  dsimp only
  refine wpAny_bind (wpAny_bind (quiet_ints hr ?_))
  simp only [Bool.not_true, Bool.false_eq_true, if_false]
  refine wpAny_pure ?_
  dsimp only
  rw [eqIsQuiet_byValue _ rfl]
  refine wpAny_bind (wpAny_bind (wpAny_pure ?_))
  simp only [Bool.not_true, Bool.false_eq_true, if_false]
  exact wpAny_pure (wpAny_pure (wpAny_pure h))
end
theorem IsGK.keeps {w : World} {h h' : Heap} {k : Int × Int} {a d : Addr} {o : Obj} {es ep} (x : IsGK w h k a) (ho : h.get? d = some o) (hd : o.data = .dict es ep) (hs : Heap.SameBut d h h') : IsGK w h' k a := by
  obtain ⟨p, r, t, n, hoa, hp, hr⟩ := x
  refine ⟨p, r, t, n, (hs.2 a ?_).trans hoa, hp.keeps ho hd hs, hr.keeps ho hd hs⟩
  rintro rfl
  rw [hoa] at ho
  have e := Option.some.inj ho
  subst e
  cases hd

noncomputable def gk (w : World) : HeapKind PG w (Int × Int) where
  is := IsGK w
  hash := gkHash w
  draws := fun _ => 6
  room := fun A => A.units + 1 < cLine
  inj := fun hx hy => hx.inj hy
  keeps := fun x ho hd hs => x.keeps ho hd hs
  pyHash := fun hu hk h => gk_hash hu hk h
  eqBool := fun hu hx hy h => gk_eqBool hu hx hy h
  quiet := fun hk h => gk_quiet hk h
end Mine
end

-- C3
section
theorem Mine.zz_C3 : True := by
  k_with_none
  trivial
set_option maxRecDepth 100000
set_option maxHeartbeats 4000000
namespace Mine
noncomputable abbrev GK := Int × Int

/- plain sums -/
noncomputable abbrev PSum := List (GK × Int)
noncomputable def getL (l : PSum) (k : GK) : Option Int := (l.find? fun e => decide (e.1 = k)).map (·.2)
noncomputable def putL (l : PSum) (k : GK) (c : Int) : PSum := if (getL l k).isSome then l.map fun e => if e.1 = k then (e.1, c) else e else l ++ [(k, c)]
noncomputable def delL (l : PSum) (k : GK) : PSum := l.filter fun e => !decide (e.1 = k)
noncomputable def insL (l : PSum) (k : GK) (c : Int) : PSum := if (getL l k).getD 0 + c = 0 then delL l k else putL l k ((getL l k).getD 0 + c)

structure Ye where
  k : GK
  a : Addr
  r : Addr
  c : Int
noncomputable def Ye.x (y : Ye) : GK × Addr × Value := (y.k, y.a, .ref y.r)
noncomputable def Ye.l (y : Ye) : GK × Int := (y.k, y.c)

noncomputable def TK (w : World) (news news' : List (Addr × Obj)) : Prop := ∀ a l n, Held (Mine.hd.heap_39 w.params) news a (tupO l n) → Held (Mine.hd.heap_39 w.params) news' a (tupO l n)
theorem TK.refl {w : World} {news : List (Addr × Obj)} : TK w news news := fun _ _ _ h => h
theorem TK.trans {w : World} {n1 n2 n3 : List (Addr × Obj)} (h : TK w n1 n2) (h' : TK w n2 n3) : TK w n1 n3 := fun _ _ _ x => h' _ _ _ (h _ _ _ x)
theorem TK.of {w : World} {news news' : List (Addr × Obj)} (hs : ∀ p ∈ news, p ∈ news') : TK w news news' := fun _ _ _ h => h.mono hs
theorem RatAt.tk {w : World} {news news' : List (Addr × Obj)} {a : Addr} {x : Int} (H : RatAt w news a x) (h : TK w news news') : RatAt w news' a x := let ⟨t, t', n, q⟩ := H; ⟨t, t', n, h _ _ _ q⟩
noncomputable def KindAt (w : World) (news : List (Addr × Obj)) (a : Addr) (k : GK) : Prop :=
  ∃ p r t n np, Held (Mine.hd.heap_39 w.params) news a (tupO [.ref p, .ref r, .int k.2 t] n) ∧ Held (Mine.hd.heap_39 w.params) news p (tupO [] np) ∧ RatAt w news r k.1
theorem KindAt.tk {w : World} {news news' : List (Addr × Obj)} {a : Addr} {k : GK} (H : KindAt w news a k) (h : TK w news news') : KindAt w news' a k :=
  let ⟨p, r, t, n, np, q, q', q''⟩ := H; ⟨p, r, t, n, np, h _ _ _ q, h _ _ _ q', q''.tk h⟩
theorem KindAt.isGK {w : World} {news : List (Addr × Obj)} {a : Addr} {k : GK} {h₀ h : Heap} {L : Addr} {m : Str → Option Value} (H : KindAt w news a k) (X : (Mine.hd.heap_39 w.params).In h₀) (F : Fr h₀ L h m) (N : News h₀ L h news) : IsGK w h k a := by
  obtain ⟨p, r, t, n, np, q, q', t1, t2, nr, q''⟩ := H
  refine ⟨p, r, t, n, q.get X F N, ⟨_, _, np, q'.get X F N, rfl, rfl, .nil⟩, ⟨_, _, nr, q''.get X F N, rfl, rfl, .cons ?_ (.cons ?_ .nil)⟩⟩
  · simp [intKind, Value.isInt]
  · simp [intKind, Value.isInt]

noncomputable abbrev dictO (es : List DictEntry) (ep : Nat) : Obj := { cls := .type "dict", data := .dict es.toArray ep }
noncomputable def SumOf (w : World) (news : List (Addr × Obj)) (es : List DictEntry) (l : PSum) : Prop :=
  ∃ ys : List Ye, es = (ys.map Ye.x).map (entryOfKey (gk w)) ∧ (∀ y ∈ ys, KindAt w news y.a y.k ∧ RatAt w news y.r y.c) ∧ l = ys.map Ye.l ∧ (ys.map Ye.k).Nodup
noncomputable def SumAt (w : World) (news : List (Addr × Obj)) (d : Addr) (l : PSum) : Prop := (d == sysModules) = false ∧ ∃ es ep, (d, dictO es ep) ∈ news ∧ SumOf w news es l
theorem SumOf.tk {w : World} {news news' : List (Addr × Obj)} {es : List DictEntry} {l : PSum} (H : SumOf w news es l) (h : TK w news news') : SumOf w news' es l :=
  let ⟨ys, e1, e2, e3, e4⟩ := H; ⟨ys, e1, fun y hy => ⟨(e2 y hy).1.tk h, (e2 y hy).2.tk h⟩, e3, e4⟩
theorem SumAt.mono {w : World} {news news' : List (Addr × Obj)} {d : Addr} {l : PSum} (H : SumAt w news d l) (h : ∀ p ∈ news, p ∈ news') : SumAt w news' d l :=
  let ⟨lo, es, ep, q, r⟩ := H; ⟨lo, es, ep, h _ q, r.tk (TK.of h)⟩
/-- one object was changed -/
noncomputable def Stp (w : World) (d : Addr) (news news' : List (Addr × Obj)) : Prop := TK w news news' ∧ ∀ p ∈ news, p.1 ≠ d → p ∈ news'
theorem Stp.refl {w : World} {d : Addr} {news : List (Addr × Obj)} : Stp w d news news := ⟨TK.refl, fun _ h _ => h⟩
theorem Stp.of {w : World} {d : Addr} {news news' : List (Addr × Obj)} (hs : ∀ p ∈ news, p ∈ news') : Stp w d news news' := ⟨TK.of hs, fun p h _ => hs p h⟩
theorem Stp.trans {w : World} {d : Addr} {n1 n2 n3 : List (Addr × Obj)} (h : Stp w d n1 n2) (h' : Stp w d n2 n3) : Stp w d n1 n3 := ⟨h.1.trans h'.1, fun p hp hd => h'.2 _ (h.2 _ hp hd) hd⟩
theorem SumAt.stp {w : World} {news news' : List (Addr × Obj)} {d d' : Addr} {l : PSum} (H : SumAt w news d l) (h : Stp w d' news news') (hne : d ≠ d') : SumAt w news' d l :=
  let ⟨lo, es, ep, q, r⟩ := H; ⟨lo, es, ep, h.2 _ q hne, r.tk h.1⟩

theorem SumAt.keys {w : World} {news : List (Addr × Obj)} {d : Addr} {l : PSum} (H : SumAt w news d l) : (l.map (·.1)).Nodup := by
  obtain ⟨lo, es, ep, q, ys, e1, e2, e3, e4⟩ := H
  subst e3
  rw [List.map_map]
  exact e4
theorem SumOf.dict {w : World} {news : List (Addr × Obj)} {d : Addr} {es : List DictEntry} {ep : Nat} {l : PSum} {h₀ h : Heap} {L : Addr} {m : Str → Option Value} (H : SumOf w news es l) (hd : (d, dictO es ep) ∈ news)
    (X : (Mine.hd.heap_39 w.params).In h₀) (F : Fr h₀ L h m) (N : News h₀ L h news) :
    ∃ ys : List Ye, h.DictOfH (gk w) d (ys.map Ye.x) ∧ (∀ y ∈ ys, KindAt w news y.a y.k ∧ RatAt w news y.r y.c) ∧ l = ys.map Ye.l ∧ (ys.map Ye.k).Nodup := by
  obtain ⟨ys, e1, e2, e3, e4⟩ := H
  refine ⟨ys, ⟨_, es.toArray, ep, (N _ hd).1, ⟨rfl, rfl, rfl⟩, rfl, by rw [List.toList_toArray]; exact e1, fun x hx => ?_, by rw [List.map_map]; exact e4⟩, e2, e3, e4⟩
  obtain ⟨y, hy, rfl⟩ := List.mem_map.mp hx
  exact (e2 y hy).1.isGK X F N

theorem at_x (ys : List Ye) (k : GK) : (atKey (ys.map Ye.x) k).map (·.2) = (ys.find? fun y => decide (y.k = k)).map fun y => Value.ref y.r := by
  induction ys with
  | nil => rfl
  | cons y ys ih =>
    by_cases e : y.k = k
    · simp [atKey, Ye.x, e]
    · simp only [atKey, List.map_cons, List.find?_cons, Ye.x, e, decide_false] at ih ⊢
      exact ih
theorem get_l (ys : List Ye) (k : GK) : getL (ys.map Ye.l) k = (ys.find? fun y => decide (y.k = k)).map (·.c) := by
  induction ys with
  | nil => rfl
  | cons y ys ih =>
    by_cases e : y.k = k
    · simp [getL, Ye.l, e]
    · simp only [getL, List.map_cons, List.find?_cons, Ye.l, e, decide_false] at ih ⊢
      exact ih
noncomputable def putY (ys : List Ye) (k : GK) (a r : Addr) (c : Int) : List Ye := if (ys.find? fun y => decide (y.k = k)).isSome then ys.map fun y => if y.k = k then ⟨y.k, y.a, r, c⟩ else y else ys ++ [⟨k, a, r, c⟩]
theorem some_x (ys : List Ye) (k : GK) : (atKey (ys.map Ye.x) k).isSome = (ys.find? fun y => decide (y.k = k)).isSome := by
  have := congrArg Option.isSome (at_x ys k)
  simpa using this
theorem stored_x (ys : List Ye) (k : GK) (a r : Addr) (c : Int) : storedH (ys.map Ye.x) k a (.ref r) = (putY ys k a r c).map Ye.x := by
  unfold storedH putY
  rw [some_x]
  split
  · rw [List.map_map, List.map_map]
    refine List.map_congr_left fun y _ => ?_
    by_cases e : y.k = k <;> simp [Ye.x, putAt, e]
  · simp [Ye.x]
theorem put_l (ys : List Ye) (k : GK) (a r : Addr) (c : Int) : putL (ys.map Ye.l) k c = (putY ys k a r c).map Ye.l := by
  unfold putL putY
  rw [get_l, Option.isSome_map]
  split
  · rw [List.map_map, List.map_map]
    refine List.map_congr_left fun y _ => ?_
    by_cases e : y.k = k <;> simp [Ye.l, e]
  · simp [Ye.l]
theorem mem_putY {ys : List Ye} {k : GK} {a r : Addr} {c : Int} {y : Ye} (h : y ∈ putY ys k a r c) : y ∈ ys ∨ (∃ z ∈ ys, z.k = k ∧ y = ⟨k, z.a, r, c⟩) ∨ y = ⟨k, a, r, c⟩ := by
  unfold putY at h
  split at h
  · obtain ⟨z, hz, rfl⟩ := List.mem_map.mp h
    by_cases e : z.k = k
    · rw [if_pos e]; exact .inr (.inl ⟨z, hz, e, by rw [e]⟩)
    · rw [if_neg e]; exact .inl hz
  · rcases List.mem_append.mp h with h | h
    · exact .inl h
    · exact .inr (.inr (List.mem_singleton.mp h))
theorem nodup_putY {ys : List Ye} {k : GK} {a r : Addr} {c : Int} (hn : (ys.map Ye.k).Nodup) : ((putY ys k a r c).map Ye.k).Nodup := by
  unfold putY
  split
  · rw [List.map_map]
    have : (Ye.k ∘ fun y : Ye => if y.k = k then ⟨y.k, y.a, r, c⟩ else y) = Ye.k := by
      funext y
      by_cases e : y.k = k <;> simp [e]
    rw [this]; exact hn
  · rename_i h
    rw [List.map_append, List.nodup_append]
    refine ⟨hn, by simp, fun x hx y hy => ?_⟩
    simp only [List.map_cons, List.map_nil, List.mem_singleton] at hy
    subst hy
    obtain ⟨z, hz, rfl⟩ := List.mem_map.mp hx
    rintro rfl
    apply h
    rw [List.find?_isSome]
    exact ⟨z, hz, by simp⟩
end Mine
end

-- C4
section
theorem Mine.zz_C4 : True := by
  k_with_none
  trivial
set_option maxRecDepth 100000
set_option maxHeartbeats 4000000
namespace Mine
section
variable {w : World} {A : Around} {E : Value → Shared → Prop} {s : Shared} {h₀ : Heap} {L d a r : Addr} {m : Str → Option Value} {news : List (Addr × Obj)} {l : PSum} {k : GK} {c : Int}

theorem news_not_tup {h : Heap} {es : List DictEntry} {ep : Nat} (N : News h₀ L h news) (hd : (d, dictO es ep) ∈ news) {b : Addr} {l : List Value} {n : Nat} (hb : (b, tupO l n) ∈ news) : b ≠ d := by
  rintro rfl
  have := (N _ hb).1.symm.trans (N _ hd).1
  injection this with this
  injection this with this
  injection this with this
  exact absurd this (by decide)

theorem stp_replace {h : Heap} {es : List DictEntry} {ep : Nat} {o' : Obj} (N : News h₀ L h news) (hd : (d, dictO es ep) ∈ news) : Stp w d news (news.map fun p => if p.1 = d then (d, o') else p) := by
  have keep : ∀ p ∈ news, p.1 ≠ d → p ∈ news.map fun p => if p.1 = d then (d, o') else p := fun p hp hpd => List.mem_map.mpr ⟨p, hp, by simp [hpd]⟩
  exact ⟨fun b l n H => H.imp id fun e => keep _ e (news_not_tup N hd e), keep⟩

theorem getMethod_sum {name : Str} {id : String} {pl : Sem Bool} {Q : Value × List Value → Shared → Prop} (slot : Slot "dict" name id) (hty : typeOf (.builtin id) = pure (.type "method_descriptor"))
    (N : News h₀ L s.heap news) (S : SumAt w news d l) (h : Q (.builtin id, [.ref d]) s) : wpAny (model PG w) A (getMethod (.ref d) name pl) Q E s := by
  obtain ⟨lo, es, ep, hd, _⟩ := S
  exact getMethod_builtin ⟨_, (N _ hd).1, rfl⟩ PySem.F.plainAttrs_dict slot hty (fun b e => by injection e with e; subst e; exact ⟨_, (N _ hd).1, rfl⟩) h

theorem get_sum {b : Addr} {c₀ : Int} {Q : Value → Shared → Prop} (hu : A.units + 2 < cLine) (X : (Mine.hd.heap_39 w.params).In h₀) (F : Fr h₀ L s.heap m) (N : News h₀ L s.heap news) (S : SumAt w news d l) (K : KindAt w news a k) (R : RatAt w news b c₀)
    (h : ∀ r tk, RatAt w news r ((getL l k).getD c₀) → Q (.ref r) { s with toks := tk }) : wpAny (model PG w) A (call (.builtin "dict.get") [.ref d, .ref a, .ref b]) Q E s := by
  obtain ⟨lo, es, ep, hd, S⟩ := S
  obtain ⟨ys, D, hy, rfl, hn⟩ := S.dict hd X F N
  refine call_meetsIn PySem.F.slot_dict_get D.typeIs PySem.F.entry_dict_get (PySem.F.args_dict_get_3 _ _ _) (meetsH_dict_get_default (gk w) d a lo (.ref b)) ⟨by show A.units + 1 + 1 < cLine; omega, k, _, K.isGK X F N, D, ?_⟩
  rw [at_x]
  rw [get_l] at h
  cases hf : ys.find? fun y => decide (y.k = k) with
  | none => rw [hf] at h; exact h b _ R
  | some y => rw [hf] at h; exact h y.r _ (hy y (List.mem_of_find?_eq_some hf)).2

theorem sumOf_put {ys : List Ye} (hy : ∀ y ∈ ys, KindAt w news y.a y.k ∧ RatAt w news y.r y.c) (hn : (ys.map Ye.k).Nodup) (K : KindAt w news a k) (R : RatAt w news r c) {es : List DictEntry} (he : es = (storedH (ys.map Ye.x) k a (.ref r)).map (entryOfKey (gk w))) :
    SumOf w news es (putL (ys.map Ye.l) k c) := by
  refine ⟨putY ys k a r c, by rw [he, stored_x], fun y h => ?_, put_l .., nodup_putY hn⟩
  rcases mem_putY h with h | ⟨z, hz, e, rfl⟩ | rfl
  · exact hy y h
  · exact ⟨e ▸ (hy z hz).1, R⟩
  · exact ⟨K, R⟩

theorem exact_dict {o : Obj} {es : Array DictEntry} {ep : Nat} (hc : o.ExactDict) (hd : o.data = .dict es ep) : o = dictO es.toList ep := by
  obtain ⟨c, dd, dt, sl⟩ := o
  obtain ⟨h1, h2, h3⟩ := hc
  cases h1; cases h2; cases h3; cases hd
  rfl

theorem set_end {hp : Heap} {Q : Heap → Prop} {es : List DictEntry} {ep : Nat} {ys : List Ye} (F : Fr h₀ L hp m) (N : News h₀ L hp news) (lo : (d == sysModules) = false) (hd : (d, dictO es ep) ∈ news)
    (hy : ∀ y ∈ ys, KindAt w news y.a y.k ∧ RatAt w news y.r y.c) (hn : (ys.map Ye.k).Nodup) (K : KindAt w news a k) (R : RatAt w news r c)
    (h : ∀ h' news', Fr h₀ L h' m → News h₀ L h' news' → SumAt w news' d (putL (ys.map Ye.l) k c) → Stp w d news news' → Q h')
    (h' : Heap) (hm' : h'.DictOfH (gk w) d (storedH (ys.map Ye.x) k a (.ref r))) (hs : Heap.SameBut d hp h') : Q h' := by
  obtain ⟨o', es', ep', ho', hc', hd', he', _, _⟩ := hm'
  have e := exact_dict hc' hd'
  subst e
  have st : Stp w d news (news.map fun p => if p.1 = d then (d, dictO es'.toList ep') else p) := stp_replace N hd
  refine h h' _ (F.change hs (N _ hd).2.1 (N.fresh hd)) (N.replace hs ho') ⟨lo, es'.toList, ep', List.mem_map.mpr ⟨_, hd, by simp⟩, (sumOf_put hy hn K R he').tk st.1⟩ st

theorem setItem_sum {Q : Unit → Shared → Prop} (hu : A.units + 2 < cLine) (X : (Mine.hd.heap_39 w.params).In h₀) (F : Fr h₀ L s.heap m) (N : News h₀ L s.heap news) (S : SumAt w news d l) (K : KindAt w news a k) (R : RatAt w news r c) (hz : l.length ≤ 100000)
    (h : ∀ h' tk news', Fr h₀ L h' m → News h₀ L h' news' → SumAt w news' d (putL l k c) → Stp w d news news' → Q () { s with heap := h', toks := tk }) : wpAny (model PG w) A (setItem (.ref d) (.ref a) (.ref r)) Q E s := by
  obtain ⟨lo, es, ep, hd, S⟩ := S
  obtain ⟨ys, D, hy, rfl, hn⟩ := S.dict hd X F N
  refine wpAny_setItem_heap (knd := gk w) (hsz := by simp only [List.length_map] at hz ⊢; rw [sizeLine_eq]; omega) (by show A.units + 1 + 1 < cLine; omega) (K.isGK X F N) D ?_
  exact set_end (Q := fun h' => Q () { s with heap := h', toks := s.toks + 6 }) F N lo hd hy hn K R fun h' news' F' N' S' st => h h' _ news' F' N' S' st

theorem dictSet_sum {Q : Unit → Shared → Prop} (hu : A.units + 2 < cLine) (X : (Mine.hd.heap_39 w.params).In h₀) (F : Fr h₀ L s.heap m) (N : News h₀ L s.heap news) (S : SumAt w news d l) (K : KindAt w news a k) (R : RatAt w news r c) (hz : l.length ≤ 100000)
    (h : ∀ h' tk news', Fr h₀ L h' m → News h₀ L h' news' → SumAt w news' d (putL l k c) → Stp w d news news' → Q () { s with heap := h', toks := tk }) : wpAny (model PG w) A (dictSet d (.ref a) (.ref r)) Q E s := by
  obtain ⟨lo, es, ep, hd, S⟩ := S
  obtain ⟨ys, D, hy, rfl, hn⟩ := S.dict hd X F N
  refine wpAny_dictSet_heap (knd := gk w) (hsz := by simp only [List.length_map] at hz ⊢; rw [sizeLine_eq]; omega) (by show A.units + 1 < cLine; omega) (K.isGK X F N) D ?_
  exact set_end (Q := fun h' => Q () { s with heap := h', toks := s.toks + 6 }) F N lo hd hy hn K R fun h' news' F' N' S' st => h h' _ news' F' N' S' st

theorem isGK_rat {h : Heap} {x : Int} (R : RatAt w news a x) (X : (Mine.hd.heap_39 w.params).In h₀) (F : Fr h₀ L h m) (N : News h₀ L h news) : IsTupleKey (intKind PG w) h [x, 1] a := by
  obtain ⟨t1, t2, nr, q⟩ := R
  exact ⟨_, _, nr, q.get X F N, rfl, rfl, .cons (by simp [intKind, Value.isInt]) (.cons (by simp [intKind, Value.isInt]) .nil)⟩

/-- two ratios compared -/
theorem rat_eq {b : Addr} {x y : Int} {Q : Value → Shared → Prop} (hu : A.units + 2 < cLine) (X : (Mine.hd.heap_39 w.params).In h₀) (F : Fr h₀ L s.heap m) (N : News h₀ L s.heap news) (Ra : RatAt w news a x) (Rb : RatAt w news b y)
    (h : Q (.bool (decide (x = y))) s) : wpAny (model PG w) A (compareOp .Eq (.ref a) (.ref b)) Q E s := by
  have hx := isGK_rat Ra X F N
  have hy := isGK_rat Rb X F N
  refine cmp_ofEq ?_
  refine wpAny_richCompare_same_room (op := .Eq) hx.typeIs hy.typeIs PySem.F.slot_tuple_eq
      (wpAny_call_entry PySem.F.slot_tuple_eq hx.typeIs PySem.F.entry_tuple_eq (tuple_eq_tree hx hy ⟨_, rfl, (fun e => nomatch e), ?_⟩) (PySem.F.args_tuple_eq_2 _ _)) (by omega)
  by_cases e : x = y
  · rw [decide_eq_true (by rw [e])]; rw [decide_eq_true e] at h; exact h
  · rw [decide_eq_false (fun q => e (by injection q))]; rw [decide_eq_false e] at h; exact h

theorem find_idx {ys : List Ye} {k : GK} (hn : (ys.map Ye.k).Nodup) {j : Nat} {y : Ye} (hj : ys[j]? = some y) (hk : y.k = k) : ys.eraseIdx j = ys.filter (fun z => !decide (z.k = k)) := by
  induction ys generalizing j with
  | nil => simp at hj
  | cons z ys ih =>
    rw [List.map_cons, List.nodup_cons] at hn
    cases j with
    | zero =>
      simp only [List.getElem?_cons_zero, Option.some.injEq] at hj
      subst hj
      rw [List.eraseIdx_cons_zero, List.filter_cons, hk]
      simp only [decide_true, Bool.not_true, Bool.false_eq_true, if_false]
      symm
      rw [List.filter_eq_self]
      intro u hu
      have : u.k ≠ k := fun e => hn.1 (hk.trans e.symm ▸ List.mem_map_of_mem hu)
      simp [this]
    | succ j =>
      simp only [List.getElem?_cons_succ] at hj
      have hm : k ∈ ys.map Ye.k := hk ▸ List.mem_map_of_mem (List.mem_of_getElem? hj)
      have hne : ¬ z.k = k := fun e => hn.1 (e ▸ hm)
      rw [List.eraseIdx_cons_succ, List.filter_cons, decide_eq_false hne]
      simp only [Bool.not_false, if_true]
      rw [ih hn.2 hj]

theorem map_eraseIdx {α β : Type} (f : α → β) (l : List α) (i : Nat) : (l.eraseIdx i).map f = (l.map f).eraseIdx i := by
  induction l generalizing i with
  | nil => rfl
  | cons x l ih =>
    cases i with
    | zero => rfl
    | succ i => simp [ih]

theorem meets_pop (w : World) (d a : Addr) (dflt : Value) : MeetsIn PG w (Builtin.«dict.pop» ⟨[.ref d, .ref a, dflt], []⟩) (fun A R s => (gk w).room A.in1 ∧ ∃ k xs j p, IsGK w s.heap k a ∧ s.heap.DictOfH (gk w) d xs ∧ xs[j]? = some (k, p) ∧ xs.length ≤ sizeLine ∧
      ∀ h', h'.DictOfH (gk w) d (xs.eraseIdx j) → Heap.SameBut d s.heap h' → R (.ok (.ret p.2)) { s with heap := h', toks := s.toks + 6 }) :=
  .of_wp fun A R s ⟨hu, k, xs, j, p, hkey, D, hj, hz, h⟩ => by
  have hT := D.typeIs
  unfold Builtin.«dict.pop»
  refine wpAny_bind ?_
  unfold Builtin.Dict.keyAndDefault
  refine wpAny_bind (wpAny_notOrdered_dict hT ?_)
  show wpAny _ _ (pure (d, Value.ref a, some dflt)) _ _ s
  refine wpAny_pure ?_
  obtain ⟨o, es, ep, ho, hcx, hdt, he, his, hnd⟩ := D
  have hne : es.isEmpty = false := by
    cases xs with
    | nil => simp at hj
    | cons y ys =>
      obtain ⟨l'⟩ := es
      simp only at he
      subst he
      rfl
  simp only [keyPart, Option.isSome_none, Bool.false_eq_true, if_false]
  refine wpAny_bind (wpAny_dictEntries ho hdt (wpAny_bind (wpAny_pure ?_)))
  simp only [hne, Bool.false_eq_true, if_false]
  refine wpAny_bind ?_
  unfold Builtin.Dict.takeOut
  try with_reducible refine wpAny_holding ?_
  refine wpAny_bind (gk_hash hu hkey (wpAny_bind (wpAny_dictFind_heap (knd := gk w) (s := { s with toks := s.toks + 6 }) hu hkey ho hdt he his hnd ?_ ?_)))
  · intro hno
    exact absurd hj (hno j p)
  · intro i q hi
    have e : i = j := idxH_unique hnd hi hj
    subst e
    obtain rfl : q = p := by rw [hj] at hi; injection hi with hi; injection hi with _ hi; exact hi.symm
    have hei := entry_at (knd := gk w) he i
    rw [hj] at hei
    refine wpAny_bind (wpAny_dictEntries (s := { s with toks := s.toks + 6 }) ho hdt ?_)
    rw [hei]
    have hsz : es.size = xs.length := size_of_entries (knd := gk w) he
    refine wpAny_bind (wpAny_updateDictKeys (hz := by omega) (s := { s with toks := s.toks + 6 }) ho hdt (wpAny_pure ?_) (by rw [Array.eraseIdxIfInBounds_eq]; split <;> simp <;> omega))
    refine wpAny_bind (wpAny_letGo ?_)
    refine wpAny_pure ⟨_, rfl, h _ ⟨_, _, ep + 1, Heap.get?_update_self _ ho (Obj.isFreed_of_dict (Obj.data_mapDictKeys hdt _)), hcx.mapDictKeys _, Obj.data_mapDictKeys hdt _, ?_, ?_, ?_⟩ (Heap.SameBut.update ..)⟩
    · obtain ⟨l'⟩ := es
      simp only at he
      subst he
      simp [map_eraseIdx]
    · intro x hx
      exact (his x (List.mem_of_mem_eraseIdx hx)).keeps ho hdt (Heap.SameBut.update ..)
    · exact hnd.sublist ((List.eraseIdx_sublist ..).map _)

theorem pop_sum {dflt : Value} {c : Int} {Q : Value → Shared → Prop} (hu : A.units + 2 < cLine) (X : (Mine.hd.heap_39 w.params).In h₀) (F : Fr h₀ L s.heap m) (N : News h₀ L s.heap news) (S : SumAt w news d l) (K : KindAt w news a k) (hc : getL l k = some c) (hz : l.length ≤ 100000)
    (h : ∀ v h' tk news', Fr h₀ L h' m → News h₀ L h' news' → SumAt w news' d (delL l k) → Stp w d news news' → Q v { s with heap := h', toks := tk }) : wpAny (model PG w) A (call (.builtin "dict.pop") [.ref d, .ref a, dflt]) Q E s := by
  obtain ⟨lo, es, ep, hd, S⟩ := S
  obtain ⟨ys, D, hy, rfl, hn⟩ := S.dict hd X F N
  rw [get_l] at hc
  cases hf : ys.find? fun y => decide (y.k = k) with
  | none => rw [hf] at hc; cases hc
  | some y =>
    obtain ⟨j, hj⟩ := List.mem_iff_getElem?.mp (List.mem_of_find?_eq_some hf)
    have hk : y.k = k := by simpa using List.find?_some hf
    refine call_meetsIn PySem.F.slot_dict_pop D.typeIs PySem.F.entry_dict_pop (PySem.F.args_dict_pop_3 _ _ _) (meets_pop w d a dflt) ⟨by show A.units + 1 + 1 < cLine; omega, k, _, j, (y.a, .ref y.r), K.isGK X F N, D, by rw [List.getElem?_map, hj, Option.map_some, Ye.x, hk], by simp only [List.length_map] at hz ⊢; rw [sizeLine_eq]; omega, fun h' hm' hs => ?_⟩
    rw [← map_eraseIdx, find_idx hn hj hk] at hm'
    obtain ⟨o', es', ep', ho', hc', hd', he', _, _⟩ := hm'
    have e := exact_dict hc' hd'
    subst e
    have st : Stp w d news (news.map fun p => if p.1 = d then (d, dictO es'.toList ep') else p) := stp_replace N hd
    refine h _ h' _ _ (F.change hs (N _ hd).2.1 (N.fresh hd)) (N.replace hs ho') ⟨lo, es'.toList, ep', List.mem_map.mpr ⟨_, hd, by simp⟩, ?_⟩ st
    refine SumOf.tk ⟨ys.filter (fun z => !decide (z.k = k)), he', fun y hyf => hy y (List.mem_filter.mp hyf).1, ?_, hn.sublist ((List.filter_sublist ..).map _)⟩ st.1
    unfold delL
    rw [List.filter_map]
    rfl
end
end Mine
end

-- C5
section
theorem Mine.zz_C5 : True := by
  k_with_none
  trivial
set_option maxRecDepth 100000
set_option maxHeartbeats 8000000
namespace Mine

theorem ratAt_R0 (w : World) (news) : RatAt w news 49 0 := ⟨_, _, 0, .inl rfl⟩
theorem ratAt_R1 (w : World) (news) : RatAt w news 50 1 := ⟨_, _, 0, .inl rfl⟩

theorem some_of_sum {l : PSum} {k : GK} {c : Int} (hc : c ≠ 0) (h : (getL l k).getD 0 + c = 0) : ∃ c', getL l k = some c' := by
  cases e : getL l k with
  | none => rw [e] at h; simp only [Option.getD_none] at h; omega
  | some c' => exact ⟨c', rfl⟩
theorem ins_zero {l : PSum} {k : GK} {c : Int} (h : (getL l k).getD 0 + c = 0) : insL l k c = delL l k := by
  unfold insL; rw [if_pos h]
theorem ins_put {l : PSum} {k : GK} {c : Int} (h : ¬ (getL l k).getD 0 + c = 0) : insL l k c = putL l k ((getL l k).getD 0 + c) := by
  unfold insL; rw [if_neg h]
theorem allIn1 {p : Addr × Obj} {news : List (Addr × Obj)} : ∀ q ∈ news, q ∈ p :: news := fun _ h => .tail _ h

theorem ginsert_spec (w : World) (news) (d a r : Addr) (l : PSum) (k : GK) (c : Int) (S : SumAt w news d l) (K : KindAt w news a k) (R : RatAt w news r c) (hc : c ≠ 0) (hz : l.length ≤ 100000) : Call w 94 4 90 news [.ref d, .ref a, .ref r]
    (fun R => ∀ news', SumAt w news' d (insL l k c) → Stp w d news news' → R .none news') := by
  intro p loose mean mg mb dp un gd cn cs a ccd cl outer A₀ base h₀ L m s Q E B F X N T hk hd hu hret
  refine wpAny_call ?_
  k_dflt ktr_enter
  k_with_none
  k_with "getMethod ref" => (first | refine getMethod_sum PySem.F.slot_dict_get PySem.F.type_dict_get (by assumption) S ?_ | refine getMethod_sum PySem.F.slot_dict_pop PySem.F.type_dict_pop (by assumption) (S.mono allIn1) ?_)
  k_with "call builtin:dict.get" => ((refine get_sum (by ktr_units) (by k_asm) (by k_asm) (by k_asm) S K (ratAt_R0 _ _) ?_); intros; rename_i Rg)
  k_with "call ref" => ((refine' Call.use (radd_spec w _ _ _ _ _ Rg R) ?k1 ?k2 ?k3 ?k4 ?k5 ?kK ?kd ?ku ?_; (case k1 => k_asm); (case k2 => k_asm); (case k3 => k_asm); (case k4 => k_asm); (case k5 => k_asm); (case kK => first | exact rfl | assumption); (case kd => ktr_room); (case ku => ktr_units); (try dsimp only); (intros); (try dsimp only); (try k_fold)))
  k_with "compareOp Eq ref" => (refine rat_eq (by ktr_units) (by k_asm) (by k_asm) (by k_asm) ⟨_, _, _, .inr (.head _)⟩ (ratAt_R0 _ _) ?_)
  k_with "call builtin:dict.pop" => ((obtain ⟨c', hc'⟩ := some_of_sum hc (by assumption)); (refine pop_sum (by ktr_units) (by k_asm) (by k_asm) (by k_asm) (S.mono allIn1) (K.tk (TK.of allIn1)) hc' hz ?_); intros)
  k_with "setItem ref ref" => ((refine setItem_sum (by ktr_units) (by k_asm) (by k_asm) (by k_asm) (S.mono allIn1) (K.tk (TK.of allIn1)) ⟨_, _, _, .inr (.head _)⟩ hz ?_); intros)
  k_steps
  all_goals first
    | exact hret _ (by rw [ins_zero (by assumption)]; assumption) (Stp.trans (Stp.of allIn1) (by assumption)) _ _ (by k_asm) (by k_asm)
    | exact hret _ (by rw [ins_put (by assumption)]; assumption) (Stp.trans (Stp.of allIn1) (by assumption)) _ _ (by k_asm) (by k_asm)
end Mine
end

-- D1
section
theorem Mine.zz_D1 : True := by
  k_with_none
  trivial
set_option maxRecDepth 100000
set_option maxHeartbeats 4000000
namespace Mine
section
variable {prog : Program} {w : World} {A : Around} {E : Value → Shared → Prop} {s : Shared}

theorem keys_miss {a : Addr} {xs : Array Value} {k : Nat} {Q : Option Value → Shared → Prop} (hx : s.heap.get? a = some { cls := .type "list", data := .seq xs k }) (hA : A.handled = none)
    (h : ∀ h' tk, (∀ b o, s.heap.get? b = some o → h'.get? b = some o) → Q none { s with heap := h', toks := tk }) : wpAny (model prog w) A (getAttr? (.ref a) "keys") Q E s := by
  have hmiss : typeLookup (.type "list") "keys" = pure none := by rw [typeLookup_type, builtinLookup_eq_fast]; kernel_rfl
  obtain ⟨hp, g, d, tk, os⟩ := s
  have hT : ∀ tk', (⟨hp, g, d, tk', os⟩ : Shared).TypeIs (.ref a) "list" := fun _ => ⟨_, hx, rfl⟩
  have f1 := sub_AttributeError
  have f3 := F.slot_list_getattribute.lookup
  have f4 := F.slot_list_getattribute.bind (.ref a)
  have f5 := am_list_getattr_none
  unfold getAttr? getAttrBy? getAttrBy
  repeat (any_goals (first | assumption | exact hT _ | ((with_reducible show wpAny _ _ (call (Value.builtin "list.__getattribute__") _ _) _ _ _); refine call_meets F.slot_list_getattribute (hT _) am_entry_list_getattribute (F.args_list_getattribute_2 _ _) (meets_getattribute_miss_list a xs k #[] "keys" _ hmiss (by decide) (by size_fits)) ⟨hx, hA, fun h' tk' e hx' => ?_⟩) | wp_step))
  obtain ⟨t', u', he⟩ := hx'.there
  show wpAny _ _ (getattributeRaised _ _ _ _ _ _ _) _ _ _
  unfold getattributeRaised
  repeat (any_goals (first | assumption | wp_step))
  exact h _ _ hx'.keeps

theorem upd_loop_end {d D it : Addr} {c : Nat} {R : Result → Shared → Prop} (hA : A.handled = none) (hit : s.heap.IsListIter it D 0) (hl : s.heap.IsList D #[])
    (h : ∀ h', Heap.ExtBut it s.heap h' → R (.ok (.ret .none)) { s with heap := h' }) : codeAny (model prog w) A (.builtin "dict.update.loop" ⟨[.ref d, .ref it, rawInt c, .none], []⟩) R s := by
  have entry : entryFor table "dict.update.loop" = some Builtin.«dict.update.loop» := entryFor_of_fast (by kernel_rfl)
  refine codeAny_builtin entry ?_
  unfold Builtin.«dict.update.loop»
  show wpAny _ _ (pyNext (.ref it) >>= _) _ _ _
  refine wpAny_bind (wpAny_pyNext_list_end hA hit hl rfl fun h' hs => ?_)
  dsimp only
  show wpAny _ _ (Builtin.Dict.addKeywords d [] >>= _) _ _ _
  exact wpAny_bind (wpAny_pure (wpAny_pure (h h' hs)))

theorem dict_empty {D : Addr} {c : Nat} {Q : Value → Shared → Prop} (hx : s.heap.get? D = some { cls := .type "list", data := .seq #[] c }) (hA : A.handled = none)
    (h : ∀ h' tk, (∀ b o, s.heap.get? b = some o → h'.get? b = some o) → h'.get? s.heap.objs.size = some { cls := .type "dict", data := .dict #[] } → Q (.ref s.heap.objs.size) { s with heap := h', toks := tk }) :
    wpAny (model prog w) A (call (.type "dict") [.ref D]) Q E s := by
  refine callType_codes (Q₁ := fun obj s₁ => obj = .ref s.heap.objs.size ∧ s₁ = { s with heap := s.heap.push { cls := .type "dict", data := .dict #[] } }) F.kt_called_dict (F.kt_typeCall_dict_1 _) F.entry_dict_init (kt_code_dict_new _ ⟨rfl, rfl⟩) ?_
  rintro obj s₁ ⟨rfl, rfl⟩
  have hnew : (s.heap.push { cls := .type "dict", data := .dict #[] }).get? s.heap.objs.size = some { cls := .type "dict", data := .dict #[] } := Heap.get?_push_size _ rfl
  have hT : ({ s with heap := s.heap.push { cls := .type "dict", data := .dict #[] } } : Shared).TypeIs (.ref s.heap.objs.size) "dict" := ⟨_, hnew, rfl⟩
  have hx' : (s.heap.push { cls := .type "dict", data := .dict #[] }).get? D = some { cls := .type "list", data := .seq #[] c } := Heap.get?_push_of_some _ hx
  refine ⟨hT, F.args_dict_init_2 _ _, ?_⟩
  unfold Builtin.«dict.__init__»
  refine wpAny_bind ?_
  unfold Builtin.Dict.selfAndRest
  refine wpAny_bind (wpAny_notOrdered_dict hT ?_)
  show wpAny _ _ (pure (s.heap.objs.size, [Value.ref D])) _ _ _
  refine wpAny_pure ?_
  show wpAny _ _ (Builtin.Dict.updateFrom "dict.__init__" s.heap.objs.size (.ref D) [] .none) _ _ _
  unfold Builtin.Dict.updateFrom
  refine wpAny_bind (wpAny_typeOf (T := "list") ⟨_, hx', rfl⟩ ?_)
  rw [if_pos (by decide)]
  refine wpAny_bind (keys_miss hx' hA fun h₂ tk₂ k₂ => ?_)
  simp only [Option.isNone_none, if_true]
  refine wpAny_bind (wpAny_rule ?_)
  have hl : h₂.IsList D #[] := ⟨_, k₂ _ _ hx', rfl, c, rfl⟩
  refine wpAny_bind (wpAny_pyIter_list hl ?_)
  have keep : ∀ {h' : Heap}, Heap.ExtBut h₂.objs.size (h₂.push { cls := .type "list_iterator", data := .fields #[.ref D, .int 0 0] }) h' → ∀ b o, h₂.get? b = some o → h'.get? b = some o :=
    fun hs b o e => hs b o (Nat.ne_of_lt (Heap.lt_size e)) (Heap.get?_push_of_some _ e)
  refine wpAny_pure ⟨Code.quiet_builtin _ (by decide +kernel), upd_loop_end (c := 0) hA ⟨_, Heap.get?_push_size _ rfl, rfl, rfl⟩ ⟨_, Heap.get?_push_of_some _ (k₂ _ _ hx'), rfl, c, rfl⟩ fun h' hs => ⟨rfl, h h' _ (fun b o e => keep hs b o (k₂ _ _ (Heap.get?_push_of_some _ e))) (keep hs _ _ (k₂ _ _ hnew))⟩⟩
end
end Mine
end

-- D2
section
theorem Mine.zz_D2 : True := by
  k_with_none
  trivial
set_option maxRecDepth 100000
set_option maxHeartbeats 4000000
namespace Mine
theorem grow {h₀ h h' : Heap} {L : Addr} {m : Str → Option Value} {news : List (Addr × Obj)} (F : Fr h₀ L h m) (N : News h₀ L h news) (k : ∀ b o, h.get? b = some o → h'.get? b = some o) : Fr h₀ L h' m ∧ News h₀ L h' news := by
  obtain ⟨oL, a1, a2, hL, a3⟩ := F.ns
  exact ⟨⟨⟨oL, a1, a2, k _ _ hL, a3⟩, fun b o e => k _ _ (F.keep b o e), F.above⟩, N.grown k⟩
theorem grow_new {h₀ h h' : Heap} {L : Addr} {m : Str → Option Value} {news : List (Addr × Obj)} {o : Obj} (F : Fr h₀ L h m) (N : News h₀ L h news) (k : ∀ b o, h.get? b = some o → h'.get? b = some o) (ho : h'.get? h.objs.size = some o) :
    News h₀ L h' ((h.objs.size, o) :: news) := by
  intro p hp
  rcases List.mem_cons.mp hp with rfl | hp
  · obtain ⟨oL, a1, a2, hL, a3⟩ := F.ns
    refine ⟨ho, Nat.ne_of_gt (Heap.lt_size hL), ?_⟩
    cases hq : h₀.get? h.objs.size with
    | none => rfl
    | some o' => exact absurd (Heap.lt_size (F.keep _ _ hq)) (Nat.lt_irrefl _)
  · exact (grow F N k).2 p hp
theorem ext_new {h h' : Heap} {o : Obj} (hs : Heap.ExtBut h.objs.size (h.push o) h') : ∀ b x, h.get? b = some x → h'.get? b = some x :=
  fun b x e => hs b x (Nat.ne_of_lt (Heap.lt_size e)) (Heap.get?_push_of_some _ e)

section
variable {prog : Program} {w : World} {A : Around} {E : Value → Shared → Prop} {s : Shared} {K : Frag} {h₀ : Heap} {L : Addr} {m : Str → Option Value} {news news' : List (Addr × Obj)}
theorem list_held {a : Addr} {l : List Value} {n : Nat} {Q : Value → Shared → Prop}
    (H : Held K news a (tupO l n)) (X : K.In h₀) (F : Fr h₀ L s.heap m) (N : News h₀ L s.heap news') (hs : ∀ p ∈ news, p ∈ news') (hz : l.length ≤ sizeLine)
    (h : ∀ D c h', Fr h₀ L h' m → News h₀ L h' ((D, listOf l.toArray c) :: news') → (∀ q ∈ news', q.1 < D) → Q (.ref D) { s with heap := h' }) : wpAny (model prog w) A (call (.type "list") [.ref a]) Q E s :=
  list_copyKT F N (items := l.toArray) ⟨_, (H.mono hs).get X F N, rfl, n, rfl⟩ h (by simpa using hz)

theorem dict_emptyN {D : Addr} {c : Nat} {Q : Value → Shared → Prop} (F : Fr h₀ L s.heap m) (N : News h₀ L s.heap news) (hD : (D, listOf #[] c) ∈ news) (hA : A.handled = none) (hb : h₀.NoLimit)
    (h : ∀ d h' tk, Fr h₀ L h' m → News h₀ L h' ((d, dictO [] 0) :: news) → (∀ q ∈ news, q.1 < d) → (d == sysModules) = false → Q (.ref d) { s with heap := h', toks := tk }) : wpAny (model prog w) A (call (.type "dict") [.ref D]) Q E s :=
  dict_empty (N _ hD).1 hA fun h' tk k hd => h _ h' tk (grow F N k).1 (grow_new F N k hd) (fun q hq => Heap.lt_size (N q hq).1) (F.notModules (modules_low hb))

theorem empty_tab {h : Heap} {d : Addr} (N : News h₀ L h news) (hd : (d, dictO [] 0) ∈ news) (lo : (d == sysModules) = false) : TabAt (intKind prog w) PyData.int h d [] :=
  ⟨lo, [], ⟨_, #[], 0, (N _ hd).1, ⟨rfl, rfl, rfl⟩, rfl, (fun e he => by simp at he), .nil, List.nodup_nil⟩, .nil⟩

theorem iter_empty {q : Addr} {n : Nat} {target : PySem.Expr} {body : List Stmt} {env : Env} {Q : Flow → Shared → Prop} (H : Held K news q (tupO [] n)) (X : K.In h₀) (F : Fr h₀ L s.heap m) (N : News h₀ L s.heap news') (hs : ∀ p ∈ news, p ∈ news') (hA : A.handled = none)
    (h : ∀ h', Fr h₀ L h' m → News h₀ L h' news' → Q .next { s with heap := h' }) :
    wpAny (model prog w) A (pyIter (.ref q)) (fun it s₂ => codeAny (model prog w) A (.forLoop target it body [] env) (fun r s' => match r with | .ok f => Q f s' | .error e => cameBackBy (model prog w) A env E e s') s₂) E s := by
  have hq := (H.mono hs).get X F N
  have hT : s.heap.IsTuple q #[] := ⟨_, hq, rfl, n, rfl⟩
  refine wpAny_pyIter_tuple hT ?_
  refine codeAny_forLoop_any (fun _ s' => s' = { s with heap := s.heap.push { cls := .type "tuple_iterator", data := .fields #[.ref q, .int 0 0] } }) ?_ 0 rfl
  rintro _ _ rfl
  refine wpAny_pyNext_tuple_end hA (i := 0) (t := q) (items := #[]) ⟨_, Heap.get?_push_size _ rfl, rfl, rfl⟩ ⟨_, Heap.get?_push_of_some _ hq, rfl, n, rfl⟩ rfl fun h' hs => ?_
  have k := ext_new hs
  exact wpAny_pure (h h' (grow F N k).1 (grow F N k).2)

theorem compLoop_none {elt target iter : PySem.Expr} {ifs : List PySem.Expr} {scope : Scope} {pos : Pos} {it acc : Value} {env : Env} {R : Result → Shared → Prop}
    (h : wpAny (model prog w) A (pyNext it) (fun r s₁ => r = none ∧ R (.ok .next) s₁) (fun _ _ => False) s) :
    codeAny (model prog w) A (.compLoop (.ListComp elt [⟨target, iter, ifs, 0⟩] scope pos) 0 it acc env) R s := by
  refine codeAny_loop rfl (fun _ s' => s' = s) ?_ 0 rfl
  rintro _ _ rfl
  show wpAny _ A ((compTurn (.ListComp elt [⟨target, iter, ifs, 0⟩] scope pos) 0 it acc env).onRaise (fun x => do noteFrame x env; theTreesLotGoes x)) _ _ _
  refine wpAny_noted ?_
  rw [compTurn_list]
  refine wpAny_bind (wpAny_standAt (wpAny_bind (wpAny_mono h (fun r s₁ h₁ => ?_) fun _ _ h' => h'.elim)))
  obtain ⟨rfl, h₁⟩ := h₁
  exact wpAny_pure h₁

theorem seq_iter {q : Addr} {Q : Value → Shared → Prop} (hA : A.handled = none) (hq : s.heap.IsList q #[] ∨ s.heap.IsTuple q #[])
    (h : ∀ I h₁, (∀ b o, s.heap.get? b = some o → h₁.get? b = some o) → (∀ (s₂ : Shared) (Q₂ : Value → Shared → Prop) (E₂ : Value → Shared → Prop), (∀ b o, h₁.get? b = some o → s₂.heap.get? b = some o) → Q₂ (.ref I) s₂ → wpAny (model prog w) A (pyIter (.ref I)) Q₂ E₂ s₂) →
      (∀ (s₂ : Shared) (Q₂ : Option Value → Shared → Prop) (E₂ : Value → Shared → Prop), (∀ b o, h₁.get? b = some o → s₂.heap.get? b = some o) → (∀ h₂, (∀ b o, b ≠ I → s₂.heap.get? b = some o → h₂.get? b = some o) → Q₂ none { s₂ with heap := h₂ }) → wpAny (model prog w) A (pyNext (.ref I)) Q₂ E₂ s₂) →
      I = s.heap.objs.size → h₁.objs.size = s.heap.objs.size + 1 → Q (.ref I) { s with heap := h₁ }) : wpAny (model prog w) A (pyIter (.ref q)) Q E s := by
  rcases hq with hq | hq
  · refine wpAny_pyIter_list hq (h _ _ (fun b o e => Heap.get?_push_of_some _ e) ?_ ?_ rfl (Heap.size_push ..))
    · intro s₂ Q₂ E₂ k hQ
      exact wpAny_pyIter_listiter (l := q) (i := 0) ⟨_, k _ _ (Heap.get?_push_size _ rfl), rfl, rfl⟩ hQ
    · intro s₂ Q₂ E₂ k hQ
      refine wpAny_pyNext_list_end hA (i := 0) (l := q) (items := #[]) ⟨_, k _ _ (Heap.get?_push_size _ rfl), rfl, rfl⟩ ?_ rfl fun h' hs => hQ h' fun b o hb e => hs b o hb e
      obtain ⟨o, ho, r⟩ := hq
      exact ⟨o, k _ _ (Heap.get?_push_of_some _ ho), r⟩
  · refine wpAny_pyIter_tuple hq (h _ _ (fun b o e => Heap.get?_push_of_some _ e) ?_ ?_ rfl (Heap.size_push ..))
    · intro s₂ Q₂ E₂ k hQ
      exact wpAny_pyIter_tupleiter (t := q) (i := 0) ⟨_, k _ _ (Heap.get?_push_size _ rfl), rfl, rfl⟩ hQ
    · intro s₂ Q₂ E₂ k hQ
      refine wpAny_pyNext_tuple_end hA (i := 0) (t := q) (items := #[]) ⟨_, k _ _ (Heap.get?_push_size _ rfl), rfl, rfl⟩ ?_ rfl fun h' hs => hQ h' fun b o hb e => hs b o hb e
      obtain ⟨o, ho, r⟩ := hq
      exact ⟨o, k _ _ (Heap.get?_push_of_some _ ho), r⟩

noncomputable def SrcEmpty (Q : Value → Shared → Prop) (x : Value) (s₁ : Shared) : Prop := ∃ q, x = .ref q ∧ (s₁.heap.IsList q #[] ∨ s₁.heap.IsTuple q #[]) ∧
      ∀ h' D, (∀ b o, s₁.heap.get? b = some o → h'.get? b = some o) → s₁.heap.objs.size ≤ D → h'.get? D = some { cls := .type "list", data := .seq #[] } → Q (.ref D) { s₁ with heap := h' }
theorem ListComp_empty {elt target iter : PySem.Expr} {ifs : List PySem.Expr} {scope : Scope} {pos : Pos} {cl : List (Str × Addr)} {env : Env} {Q : Value → Shared → Prop} (hA : A.handled = none)
    (hfold : ∀ x, foldedSetIterable iter env x = pure x) (hclos : closureFor scope env = pure cl) (hkind : scope.kind = .function) (hcell : ∀ x ∈ scope.names, x.2 ≠ .cell) (hnames : ∀ x ∈ scope.names, x.2 = .local → scope.names.lookup x.1 = some .local)
    (h : wpAny (model prog w) A (eval iter env) (SrcEmpty Q) E s) :
    wpAny (model prog w) A (eval (.ListComp elt [⟨target, iter, ifs, 0⟩] scope pos) env) Q E s := by
  rw [eval_ListComp]
  refine wpAny_comprehension_free (g := ⟨target, iter, ifs, 0⟩) (gs := []) rfl hfold hclos hkind hnames ?_
  refine wpAny_mono h (fun x s₁ h₁ => ?_) fun _ _ y => y
  obtain ⟨q, rfl, hq, hQ⟩ := h₁
  refine seq_iter hA hq fun I h₁ k₁ hself hnext hI hsz => ?_
  refine wpAny_newObj_type ?_
  refine wpAny_newFunctionEnv hcell (by intro y hy; cases hy) (fun h₃ hns hs => ?_) hkind
  dsimp only at hns hs ⊢
  have e1 : (h₁.push { cls := .type "list", data := .seq ([] : List Value).toArray }).objs.size = h₁.objs.size + 1 := Heap.size_push ..
  have k3 : ∀ b o, (h₁.push { cls := .type "list", data := .seq ([] : List Value).toArray }).get? b = some o → h₃.get? b = some o := fun b o e =>
    (hs.2 b (Nat.ne_of_lt (Heap.lt_size e))).trans (Heap.get?_push_of_some _ e)
  have k13 : ∀ b o, h₁.get? b = some o → h₃.get? b = some o := fun b o e => k3 b o (Heap.get?_push_of_some _ e)
  have hC : (h₁.push { cls := .type "list", data := .seq ([] : List Value).toArray }).objs.size ≠ I := by rw [e1, hsz, hI]; omega
  have fin : ∀ h₂, (∀ b o, b ≠ I → h₃.get? b = some o → h₂.get? b = some o) → ∀ h', Heap.SameBut (h₁.push { cls := .type "list", data := .seq ([] : List Value).toArray }).objs.size h₂ h' → Q (.ref h₁.objs.size) { s₁ with heap := h' } := by
    intro h₂ k₂ h' hs'
    refine hQ h' _ (fun b o e => ?_) (by rw [hsz]; omega) ?_
    · have hb : b < s₁.heap.objs.size := Heap.lt_size e
      have hb1 : b ≠ (h₁.push { cls := .type "list", data := .seq ([] : List Value).toArray }).objs.size := by rw [e1, hsz]; intro q; rw [q] at hb; exact absurd hb (Nat.not_lt.mpr (Nat.le_succ_of_le (Nat.le_succ _)))
      have hb2 : b ≠ I := by rw [hI]; exact Nat.ne_of_lt hb
      exact (hs'.2 b hb1).trans (k₂ b o hb2 (k13 b o (k₁ b o e)))
    · have hb1 : h₁.objs.size ≠ (h₁.push { cls := .type "list", data := .seq ([] : List Value).toArray }).objs.size := by rw [e1]; omega
      have hb2 : h₁.objs.size ≠ I := by rw [hI, hsz]; omega
      exact (hs'.2 _ hb1).trans (k₂ _ _ hb2 (k3 _ _ (Heap.get?_push_size _ rfl)))
  refine codeAny_compStart_list (compLoop_none (hnext _ _ _ k13 fun h₂ k₂ => ⟨rfl, ?_⟩)) (hself _ _ _ k13 (compLoop_none (hnext _ _ _ k13 fun h₂ k₂ => ⟨rfl, ?_⟩)))
  · exact ⟨_, hns.at' (fun o e => k₂ _ o hC e), fin h₂ k₂⟩
  · exact ⟨_, hns.at' (fun o e => k₂ _ o hC e), fin h₂ k₂⟩

theorem comp_end {q : Addr} {c : Nat} {Q : Value → Shared → Prop} (F : Fr h₀ L s.heap m) (N : News h₀ L s.heap news) (hq : (q, listOf #[] c) ∈ news)
    (h : ∀ h' D, Fr h₀ L h' m → News h₀ L h' ((D, listOf #[] 0) :: news) → (∀ p ∈ news, p.1 < D) → Q (.ref D) { s with heap := h' }) :
    SrcEmpty Q (.ref q) s := by
  refine ⟨q, rfl, .inl ⟨_, (N _ hq).1, rfl, c, rfl⟩, fun h' D k hD e => ?_⟩
  have lt : ∀ b o, s.heap.get? b = some o → b < D := fun b o e => Nat.lt_of_lt_of_le (Heap.lt_size e) hD
  refine h h' D (grow F N k).1 (fun p hp => ?_) fun p hp => lt _ _ (N p hp).1
  rcases List.mem_cons.mp hp with rfl | hp
  · obtain ⟨oL, a1, a2, hL, a3⟩ := F.ns
    refine ⟨e, Nat.ne_of_gt (lt _ _ hL), ?_⟩
    cases hq : h₀.get? D with
    | none => rfl
    | some o' => exact absurd (lt _ _ (F.keep _ _ hq)) (Nat.lt_irrefl _)
  · exact (grow F N k).2 p hp
theorem ints_nil {v : List Value} {n : List Int} (h : IntsAre v n) (e : n.length = 0) : v = [] := by
  have := IntsAre.length h
  apply List.eq_nil_of_length_eq_zero
  omega
end
end Mine
end

-- C6
section
theorem Mine.zz_C6 : True := by
  k_with_none
  k_with "zz1" => first | (refine' all_ne ?zz1_x9 ?zz1_y9; (case zz1_x9 => assumption); (case zz1_y9 => ((try dsimp only); omega))) | (refine' all_ne' ?zz1_x9 ?zz1_y9; (case zz1_x9 => assumption); (case zz1_y9 => ((try dsimp only); omega)))
  k_with "zz2" => ((try k_fold); k_dflt (refine' ListComp_empty ?zz2_k1 ?zz2_k2 ?zz2_k3 ?zz2_k4 ?zz2_k5 ?zz2_k6 ?_; (case zz2_k1 => exact rfl); (case zz2_k2 => exact fun _ => rfl); (case zz2_k3 => exact rfl); (case zz2_k4 => exact rfl); (case zz2_k5 => decide); (case zz2_k6 => decide)))
  k_with "zz3" => (k_dflt (refine' kdu_sortedD (knd := PySem.intKind _ _) (enc := PyData.int) (fun _ _ => kdl_flat_int) rfl ?zz3_k1 ?zz3_k2 ?zz3_k3 ?zz3_k4 ?_; (case zz3_k1 => k_asm); (case zz3_k2 => k_asm); (case zz3_k3 => exact empty_tab (by assumption) (by k_mem) (by assumption)); (case zz3_k4 => k_units)); intro D' h' tk'; kdl_open)
  k_with "zz4" => ((try (have e9 := ints_nil (by assumption) (by assumption); subst e9)); k_dflt (refine' comp_end ?zz4_k1 ?zz4_k2 ?zz4_k3 ?_; (case zz4_k1 => k_asm); (case zz4_k2 => k_asm); (case zz4_k3 => k_mem)); intro h' D' F' N' l1; (try k_lt l1); (try k_sweep); (try dsimp only))
  trivial
set_option maxRecDepth 100000
set_option maxHeartbeats 8000000
namespace Mine


theorem all_ne {d e : Nat} {l : List (Addr × Obj)} (h : ∀ p ∈ l, p.1 < e) (he : e ≤ d) : ∀ p ∈ l, p.1 ≠ d := fun p hp => Nat.ne_of_lt (Nat.lt_of_lt_of_le (h p hp) he)
theorem all_ne' {d e : Nat} {l : List (Addr × Obj)} (h : AllLt e l) (he : e ≤ d) : ∀ p ∈ l, p.1 ≠ d := by
  induction l with
  | nil => intro p hp; cases hp
  | cons q l ih =>
    intro p hp
    rcases List.mem_cons.mp hp with rfl | hp
    · exact Nat.ne_of_lt (Nat.lt_of_lt_of_le h.1 he)
    · exact ih h.2 p hp

local macro_rules | `(tactic| walk_at "eval Call") => `(tactic| refine Call_ ?_)
theorem poly_sum_spec (w : World) (news) (p q : Addr) (n n' : Nat) (hp : Held (Mine.hd.heap_39 w.params) news p (tupO [] n)) (hq : Held (Mine.hd.heap_39 w.params) news q (tupO [] n')) : Call w 99 1 60 news [.ref p, .ref q]
    (fun R => ∀ D n, (∀ p ∈ news, p.1 < D) → R (.ref D) ((D, tupO [] n) :: news)) := by
  intro p loose mean mg mb dp un gd cn cs a ccd cl outer A₀ base h₀ L m s Q E B F X N T hk hd hu hret
  refine wpAny_call ?_
  k_dflt ((refine' code_defC ?k1 ?k2 ?k3 ?k4 ?k5 ?kA ?kF ?kK ?k6 ?k7 ?k8 ?k9 ?kB ?kD ?_ ?c2 ?c3 ?c4; (case kA => exact rfl); (case kF => exact rfl); (case kK => first | exact rfl | assumption); (case k1 => k_asm); (case k2 => k_asm); (case k3 => k_asm); (case k4 => k_asm); (case k5 => k_asm); (case k6 => k_is); (case k7 => k_is); (case k8 => ktr_room); (case k9 => exact BindsTo.of_eq rfl); (case kB => exact rfl); (case kD => decide +kernel); (case c2 => exact rfl); (case c3 => exact rfl); (case c4 => exact rfl); k_whole; intro g' L' h' tk' cells' FG' F' N' Y' B' X' T' l1; (try k_lt l1); k_cells Y'; (try simp only [List.cons_append, List.nil_append] at N'); (try dsimp only); (try k_fold)))
  k_with_none
  k_with "zz1" => first | (refine' all_ne ?zz1_x9 ?zz1_y9; (case zz1_x9 => assumption); (case zz1_y9 => ((try dsimp only); omega))) | (refine' all_ne' ?zz1_x9 ?zz1_y9; (case zz1_x9 => assumption); (case zz1_y9 => ((try dsimp only); omega)))
  k_with "zz2" => ((try k_fold); k_dflt (refine' ListComp_empty ?zz2_k1 ?zz2_k2 ?zz2_k3 ?zz2_k4 ?zz2_k5 ?zz2_k6 ?_; (case zz2_k1 => exact rfl); (case zz2_k2 => exact fun _ => rfl); (case zz2_k3 => exact rfl); (case zz2_k4 => exact rfl); (case zz2_k5 => decide); (case zz2_k6 => decide)))
  k_with "zz3" => (k_dflt (refine' kdu_sortedD (knd := PySem.intKind _ _) (enc := PyData.int) (fun _ _ => kdl_flat_int) rfl ?zz3_k1 ?zz3_k2 ?zz3_k3 ?zz3_k4 ?_; (case zz3_k1 => k_asm); (case zz3_k2 => k_asm); (case zz3_k3 => exact empty_tab (by assumption) (by k_mem) (by assumption)); (case zz3_k4 => k_units)); intro D' h' tk'; kdl_open)
  k_with "zz4" => ((try (have e9 := ints_nil (by assumption) (by assumption); subst e9)); k_dflt (refine' comp_end ?zz4_k1 ?zz4_k2 ?zz4_k3 ?_; (case zz4_k1 => k_asm); (case zz4_k2 => k_asm); (case zz4_k3 => k_mem)); intro h' D' F' N' l1; (try k_lt l1); (try k_sweep); (try dsimp only))
  k_with "call type:list" => ((refine' list_held hp (by k_asm) (by k_asm) (by k_asm) (by kcj_all) (by decide) ?_); intro D' c' h' F' N' l1; (try k_lt l1); (try k_sweep))
  k_with "call type:dict" => ((refine' dict_emptyN (by k_asm) (by k_asm) (by k_mem) rfl (TopRead.nolimit (by k_asm)) ?_); intro D' h' tk' F' N' l1 lo'; (try k_lt l1); (try k_sweep))
  k_with "exec For" => (refine wpAny_For ?_ (by intro _; rfl))
  k_with "pyIter ref" => ((refine' iter_empty hq ?k1 ?k2 ?k3 ?k4 ?k5 ?_; (case k1 => k_asm); (case k2 => k_asm); (case k3 => k_asm); (case k4 => kcj_all); (case k5 => exact rfl)); intro h' F' N')
  k_steps
  refine' hret _ 0 ?hlt _ _ ?f ?n
  case f => k_asm
  case n => exact cb_drop (by assumption) (by kcj_all)
  case hlt =>
    refine ktn_ltOf ?_
    repeat (rename _ ∧ _ => h9; obtain ⟨h8, h9⟩ := h9)
    assumption
end Mine
end

-- C7
section
theorem Mine.zz_C7 : True := by
  k_with_none
  trivial
set_option maxRecDepth 100000
set_option maxHeartbeats 8000000
namespace Mine

theorem kind_product_spec (w : World) (news) (a b : Addr) (k k' : GK) (ha : KindAt w news a k) (hb : KindAt w news b k') : Call w 106 5 100 news [.ref a, .ref b]
    (fun R => ∀ D news', (∀ p ∈ news, p ∈ news') → (∀ p ∈ news, p.1 < D) → KindAt w news' D (k.1 + k'.1, k.2 + k'.2) → R (.ref D) news') := by
  intro p loose mean mg mb dp un gd cn cs a ccd cl outer A₀ base h₀ L m s Q E B F X N T hk hd hu hret
  obtain ⟨p1, r1, t1, n1, np1, hk1, hp1, hr1⟩ := ha
  obtain ⟨p2, r2, t2, n2, np2, hk2, hp2, hr2⟩ := hb
  refine wpAny_call ?_
  k_dflt ktr_enter
  k_with_none
  k_with "subscriptTail" => ((k_here; (with_reducible show wpAny _ _ (subscriptTail _ _ (Value.ref _) (Value.int _ _)) _ _ _); with_unfolding_all refine' item_held ?k1 ?k2 ?k3 ?k4 ?k5 ?k6 ?k7 ?k8 ?k9 ?_ ?k10; (case k1 => assumption); (case k2 => k_asm); (case k3 => k_asm); (case k4 => k_asm); (case k5 => kcj_all); (case k6 => decide); (case k7 => decide); (case k8 => exact rfl); (case k9 => exact rfl); (case k10 => with_unfolding_all rfl); k_whole))
  k_with "call ref" => first | ((refine' Call.use (poly_sum_spec w _ _ _ _ _ hp1 hp2) ?k1 ?k2 ?k3 ?k4 ?k5 ?kK ?kd ?ku ?_; (case k1 => k_asm); (case k2 => k_asm); (case k3 => k_asm); (case k4 => k_asm); (case k5 => k_asm); (case kK => first | exact rfl | assumption); (case kd => ktr_room); (case ku => ktr_units); (try dsimp only); (intros); (try dsimp only); (try k_fold))) | ((refine' Call.use (radd_spec w _ _ _ _ _ (hr1.mono allIn1) (hr2.mono allIn1)) ?k1 ?k2 ?k3 ?k4 ?k5 ?kK ?kd ?ku ?_; (case k1 => k_asm); (case k2 => k_asm); (case k3 => k_asm); (case k4 => k_asm); (case k5 => k_asm); (case kK => first | exact rfl | assumption); (case kd => ktr_room); (case ku => ktr_units); (try dsimp only); (intros); (try dsimp only); (try k_fold)))
  k_steps
  refine' hret _ _ ?sub ?lt ?kind _ _ ?f ?n
  case n => k_asm
  case f => k_asm
  case kind => exact ⟨_, _, _, _, _, .inr (.head _), .inr (.tail _ (.tail _ (.head _))), ⟨_, _, _, .inr (.tail _ (.head _))⟩⟩
  case sub => kcj_all
  case lt =>
    refine ktn_ltOf ?_
    repeat (rename _ ∧ _ => h9; obtain ⟨h8, h9⟩ := h9)
    assumption
end Mine
end

-- D3
section
theorem Mine.zz_D3 : True := by
  k_with_none
  trivial
set_option maxRecDepth 100000
set_option maxHeartbeats 4000000
namespace Mine
section
variable {prog : Program} {w : World} {A : Around} {E : Value → Shared → Prop} {s : Shared} {es : List DictEntry} {ep : Nat} {d it : Addr}
noncomputable abbrev kiO (d : Addr) (i n ep : Nat) : Obj := { cls := .type "dict_keyiterator", data := .fields #[.ref d, .int i 0, .int n 0, .int ep 0] }

theorem raw_iter {Q : Value → Shared → Prop} (lo : (d == sysModules) = false) (ho : s.heap.get? d = some (dictO es ep)) (hQ : Q (.ref s.heap.objs.size) { s with heap := s.heap.push (kiO d 0 es.length ep) }) :
    wpAny (model prog w) A (pyIter (.ref d)) Q E s := by
  have hT : s.TypeIs (.ref d) "dict" := ⟨_, ho, rfl⟩
  refine wpAny_pyIter_slot hT PySem.F.slot_dict_iter (wpAny_call_entry PySem.F.slot_dict_iter hT PySem.F.entry_dict_iter ?_ (PySem.F.args_dict_iter_1 _))
  unfold Builtin.«dict.__iter__» Builtin.Dict.dictSlotNone Builtin.Dict.showsAll
  refine wpAny_bind (wpAny_bind (wpAny_notOrdered_dict hT ?_))
  show wpAny _ _ (pure (Value.ref d)) _ _ s
  refine wpAny_pure ?_
  show wpAny _ _ ((if (d == sysModules) = true then _ else _) >>= _) _ _ s
  rw [if_neg (by rw [lo]; exact Bool.false_ne_true)]
  refine wpAny_bind (wpAny_pure (wpAny_bind (wpAny_dictEntries ho rfl (wpAny_bind (wpAny_dictEpoch ho rfl ?_)))))
  exact wpAny_bind (wpAny_newObj_type (wpAny_pure ⟨_, rfl, "dict_keyiterator", _, ⟨_, Heap.get?_push_size _ rfl, rfl⟩, PySem.F.slot_dict_keyiterator_next.lookup, hQ⟩))

/-- the iterator's look, up to the entry that it points at -/
theorem raw_next {i : Nat} {Q : Option Value → Shared → Prop} (hA : A.handled = none) (hit : s.heap.get? it = some (kiO d i es.length ep)) (hod : s.heap.get? d = some (dictO es ep))
    (item : ∀ e, es[i]? = some e → ∀ h', h'.get? it = some (kiO d (i + 1) es.length ep) → Heap.SameBut it s.heap h' → Q (some e.key) { s with heap := h' })
    (stop : es[i]? = none → ∀ h', Heap.ExtBut it s.heap h' → Q none { s with heap := h' }) : wpAny (model prog w) A (pyNext (.ref it)) Q E s := by
  have hT : s.TypeIs (.ref it) "dict_keyiterator" := ⟨_, hit, rfl⟩
  have hown : Builtin.Dict_items.ownsTuple "dict_keyiterator" = false := by decide
  have hsz : es.toArray.size = es.length := List.size_toArray
  unfold pyNext
  refine wpAny_bind (wpAny_attempt (wpAny_callSpecial?_slot (name := Str.ofString "__next__") hT PySem.F.slot_dict_keyiterator_next
    (wpAny_call_entry PySem.F.slot_dict_keyiterator_next hT PySem.F.entry_dict_keyiterator_next ?_ (PySem.F.args_dict_keyiterator_next_1 _))))
  refine wpAny_bind (wpAny_pure (wpAny_bind (wpAny_bind ?_)))
  first | refine wpAny_bind (wpAny_typeNameOfWhole_keyiter hT (wpAny_pure ?_)) | refine wpAny_bind (wpAny_typeNameOf_keyiter hT (wpAny_pure ?_))
  refine wpAny_bind (wpAny_fieldsOf hit rfl ?_)
  simp only [hown, Bool.false_eq_true, if_false]
  show wpAny _ _ (if (Value.ref d == Value.none) = true then _ else _) _ _ s
  rw [if_neg (show ¬ ((Value.ref d == Value.none) = true) from Bool.false_ne_true)]
  refine wpAny_bind (wpAny_pure (wpAny_bind (wpAny_dictEntries hod rfl ?_)))
  rw [if_neg (by rw [hsz]; simp)]
  refine wpAny_bind (wpAny_pure (wpAny_bind (wpAny_dictEpoch hod rfl ?_)))
  rw [if_neg (by simp)]
  refine wpAny_pure ?_
  simp only [show ¬ ((i : Int) < 0) from by omega, if_false, Int.toNat_natCast]
  have hget : es.toArray[i]? = es[i]? := List.getElem?_toArray
  rw [hget]
  cases he : es[i]? with
  | some e =>
    refine wpAny_bind ?_
    first | refine wpAny_bind (wpAny_typeNameOfWhole_keyiter hT (wpAny_pure ?_)) | refine wpAny_bind (wpAny_typeNameOf_keyiter hT (wpAny_pure ?_))
    refine wpAny_bind (wpAny_isOneOf_keyiter hT ?_)
    show wpAny _ _ (setField (.ref it) 1 (rawInt ((i : Int) + 1)) >>= _) _ _ s
    refine wpAny_bind (wpAny_setField hit rfl (by simp) ?_)
    have hit' : (s.heap.update it (Obj.mapFields (·.setIfInBounds 1 (rawInt ((i : Int) + 1))))).get? it = some (kiO d (i + 1) es.length ep) := Heap.get?_update_self _ hit rfl
    have hT' : ({ s with heap := s.heap.update it (Obj.mapFields (·.setIfInBounds 1 (rawInt ((i : Int) + 1)))) } : Shared).TypeIs (.ref it) "dict_keyiterator" := ⟨_, hit', rfl⟩
    refine wpAny_bind (wpAny_holding (wpAny_bind (wpAny_isOneOf_keyiter hT' ?_)))
    show wpAny _ _ (pure e.key) _ _ _
    exact wpAny_pure (wpAny_pure ⟨_, rfl, wpAny_pure (item e he _ hit' (Heap.SameBut.update ..))⟩)
  | none =>
    refine wpAny_bind ?_
    first | refine wpAny_bind (wpAny_typeNameOfWhole_keyiter hT (wpAny_pure ?_)) | refine wpAny_bind (wpAny_typeNameOf_keyiter hT (wpAny_pure ?_))
    show wpAny _ _ (setField (.ref it) 0 .none >>= _) _ _ s
    refine wpAny_bind (wpAny_setField hit rfl (by simp) ?_)
    show wpAny _ _ (newExc (.type "StopIteration") [] >>= _) _ _ _
    refine wpAny_bind ?_
    simp only [newExc, newTuple]
    refine wpAny_bind (wpAny_newObj_type ?_ (by size_fits))
    refine wpAny_bind (m := firstArgMember _ _) (wpAny_of_eq (a := Value.none) (by first | rfl | (simp only [firstArgMember]; rfl)) ?_)
    refine wpAny_newObj_type ?_ (by size_fits)
    simp only [raiseNew]
    refine wpAny_bind (wpAny_handled ?_)
    rw [show A.in1.handled = none from hA]
    refine wpAny_bind (wpAny_pure (wpAny_throw ?_))
    refine wpAny_bind (wpAny_isInstance (T := "StopIteration") (b := true) ⟨_, Heap.get?_push_size _ rfl, rfl⟩ isSubtype_stop ?_)
    exact wpAny_pure (stop he _ (((Heap.SameBut.update ..).extBut.push _).push _))
end
end Mine
end

-- D4
section
theorem Mine.zz_D4 : True := by
  k_with_none
  trivial
set_option maxRecDepth 100000
set_option maxHeartbeats 4000000
namespace Mine
section
variable {w : World} {A : Around} {E : Value → Shared → Prop} {s : Shared} {h₀ : Heap} {L d : Addr} {m : Str → Option Value} {news : List (Addr × Obj)} {l : PSum}

theorem ledger_ne {h : Heap} {a b : Addr} {o o' : Obj} (N : News h₀ L h news) (ha : (a, o) ∈ news) (hb : (b, o') ∈ news) (hc : o.cls ≠ o'.cls) : a ≠ b := by
  rintro rfl
  have := (N _ ha).1.symm.trans (N _ hb).1
  exact hc (congrArg Obj.cls (Option.some.inj this))

theorem stp_map {h : Heap} {I : Addr} {o o' : Obj} (N : News h₀ L h news) (hI : (I, o) ∈ news) (hc : o.cls ≠ .type "tuple") : Stp w I news (news.map fun p => if p.1 = I then (I, o') else p) := by
  have keep : ∀ p ∈ news, p.1 ≠ I → p ∈ news.map fun p => if p.1 = I then (I, o') else p := fun p hp hpd => List.mem_map.mpr ⟨p, hp, by simp [hpd]⟩
  exact ⟨fun b l n H => H.imp id fun e => keep _ e (ledger_ne N e hI (Ne.symm hc)), keep⟩
theorem stp_filter {h : Heap} {I : Addr} {o : Obj} (N : News h₀ L h news) (hI : (I, o) ∈ news) (hc : o.cls ≠ .type "tuple") : Stp w I news (news.filter fun p => decide (p.1 ≠ I)) := by
  have keep : ∀ p ∈ news, p.1 ≠ I → p ∈ news.filter fun p => decide (p.1 ≠ I) := fun p hp hpd => List.mem_filter.mpr ⟨hp, by simpa using hpd⟩
  exact ⟨fun b l n H => H.imp id fun e => keep _ e (ledger_ne N e hI (Ne.symm hc)), keep⟩

noncomputable def TurnEnd (w : World) (s : Shared) (h₀ : Heap) (L D₀ : Addr) (n₁ : List (Addr × Obj)) (P : (Str → Option Value) → List (Addr × Obj) → Prop) (f : Flow) (s₃ : Shared) : Prop :=
  f = .next ∧ ∃ h' tk' m₂ n₂, s₃ = { s with heap := h', toks := tk' } ∧ Fr h₀ L h' m₂ ∧ News h₀ L h' n₂ ∧ Stp w D₀ n₁ n₂ ∧ P m₂ n₂
theorem TurnEnd.intro {w : World} {s : Shared} {h₀ : Heap} {L D₀ : Addr} {n₁ n₂ : List (Addr × Obj)} {P : (Str → Option Value) → List (Addr × Obj) → Prop} {h' : Heap} {tk' : Nat} {m₂ : Str → Option Value}
    (F : Fr h₀ L h' m₂) (N : News h₀ L h' n₂) (st : Stp w D₀ n₁ n₂) (p : P m₂ n₂) : TurnEnd w s h₀ L D₀ n₁ P .next { s with heap := h', toks := tk' } := ⟨rfl, h', tk', m₂, n₂, rfl, F, N, st, p⟩
noncomputable def ForSum (w : World) (A : Around) (x : Str) (body : List Stmt) (env : Env) (Q : Flow → Shared → Prop) (s : Shared) (h₀ : Heap) (L d D₀ : Addr) (m : Str → Option Value) (news : List (Addr × Obj)) (l : PSum) (I : Addr) (P : Nat → (Str → Option Value) → List (Addr × Obj) → Prop) : Prop :=
  (∀ i m₁ n₁ n₂, P i m₁ n₁ → Stp w I n₁ n₂ → P i m₁ n₂) ∧ P 0 m news ∧
  (∀ i e a m₁ n₁ h tk, l[i]? = some e → P i m₁ n₁ → SumAt w n₁ d l → KindAt w n₁ a e.1 → (∃ o, (I, o) ∈ n₁) → Fr h₀ L h (fun y => if y = x then some (.ref a) else m₁ y) → News h₀ L h n₁ →
    wpAny (model PG w) A (execs body env) (TurnEnd w s h₀ L D₀ n₁ (P (i + 1))) (fun _ _ => False) { s with heap := h, toks := tk }) ∧
  (∀ m₁ n₁ h tk, P l.length m₁ n₁ → Fr h₀ L h m₁ → News h₀ L h n₁ → Q .next { s with heap := h, toks := tk })

theorem for_sum {D₀ : Addr} {x : Str} {px : Pos} {body : List Stmt} {env : Env} {Q : Flow → Shared → Prop} (hA : A.handled = none) (hkx : env.kindOf x = some .local)
    (hpe : (env.scope.kind == .class || (env.scope.kind == .module && env.locals != env.globals)) = false) (hL : env.locals = L)
    (F : Fr h₀ L s.heap m) (N : News h₀ L s.heap news) (S : SumAt w news d l) (hD : d ≠ D₀)
    (h : ∀ I, (∀ p ∈ news, p.1 < I) → I ≠ D₀ → ∃ P, ForSum w A x body env Q s h₀ L d D₀ m news l I P) (hD0 : ∃ o, (D₀, o) ∈ news) :
    wpAny (model PG w) A (pyIter (.ref d)) (fun it s₂ => codeAny (model PG w) A (.forLoop (.Name x px) it body [] env) (fun r s' => match r with | .ok f => Q f s' | .error e => cameBackBy (model PG w) A env E e s') s₂) E s := by
  obtain ⟨lo, es, ep, hd, ys, hes, hy, rfl, hn⟩ := S
  have hlen : es.length = (ys.map Ye.l).length := by rw [hes]; simp
  refine raw_iter lo (N _ hd).1 ?_
  have fresh : ∀ p ∈ news, p.1 < s.heap.objs.size := fun p hp => Heap.lt_size (N p hp).1
  obtain ⟨o0, hD0⟩ := hD0
  obtain ⟨P, stable, P0, turn, done⟩ := h s.heap.objs.size fresh (Nat.ne_of_gt (fresh _ hD0))
  have N0 := News.push F N (kiO d 0 es.length ep) rfl
  have F0 : Fr h₀ L (s.heap.push (kiO d 0 es.length ep)) m := F.push _
  generalize hI : s.heap.objs.size = I at fresh stable P0 turn N0 ⊢
  have hdI : d ≠ I := Nat.ne_of_lt (fresh _ hd)
  have hDI : I ≠ D₀ := Nat.ne_of_gt (fresh _ hD0)
  refine codeAny_forLoop (fun n s' => ∃ i m₁ n₁ hp tk, i ≤ es.length ∧ n = es.length - i ∧ s' = { s with heap := hp, toks := tk } ∧ Fr h₀ L hp m₁ ∧ News h₀ L hp n₁ ∧ (I, kiO d i es.length ep) ∈ n₁ ∧ (d, dictO es ep) ∈ n₁ ∧ SumOf w n₁ es (ys.map Ye.l) ∧ P i m₁ n₁)
    ?_ es.length ⟨0, m, _, _, s.toks, Nat.zero_le _, rfl, rfl, F0, N0, .head _, .tail _ hd, SumOf.tk ⟨ys, hes, hy, rfl, hn⟩ (TK.of allIn1), stable 0 m _ _ P0 (Stp.of allIn1)⟩
  rintro n _ ⟨i, m₁, n₁, hp, tk, hi, rfl, rfl, F₁, N₁, hIn, hdn, Sn, P1⟩
  refine raw_next hA (N₁ _ hIn).1 (N₁ _ hdn).1 (fun e he h' hit hs => ?_) (fun he h' hs => ?_)
  · -- an item
    obtain ⟨ys', hes', hy', e3, hn'⟩ := Sn
    have hm1 := hes'
    have : ∃ y, ys'[i]? = some y ∧ e = entryOfKey (gk w) y.x := by
      rw [hes', List.map_map, List.getElem?_map] at he
      obtain ⟨y, hy1, hy2⟩ := Option.map_eq_some_iff.mp he
      exact ⟨y, hy1, hy2.symm⟩
    obtain ⟨y, hyi, rfl⟩ := this
    have hli : (ys.map Ye.l)[i]? = some y.l := by rw [e3, List.getElem?_map, hyi]; rfl
    have N₂ : News h₀ L h' (n₁.map fun p => if p.1 = I then (I, kiO d (i + 1) es.length ep) else p) := N₁.replace hs hit
    have st : Stp w I n₁ (n₁.map fun p => if p.1 = I then (I, kiO d (i + 1) es.length ep) else p) := stp_map N₁ hIn (fun q => by injection q with q; exact absurd q (by decide))
    have F₂ : Fr h₀ L h' m₁ := F₁.change hs (N₁ _ hIn).2.1 (N₁ _ hIn).2.2
    have hI2 : (I, kiO d (i + 1) es.length ep) ∈ (n₁.map fun p => if p.1 = I then (I, kiO d (i + 1) es.length ep) else p) := List.mem_map.mpr ⟨_, hIn, by simp⟩
    have hd2 := st.2 _ hdn hdI
    have S2 : SumOf w (n₁.map fun p => if p.1 = I then (I, kiO d (i + 1) es.length ep) else p) es (ys.map Ye.l) := SumOf.tk ⟨ys', hes', hy', e3, hn'⟩ st.1
    have hlt : i < es.length := by
      rcases Nat.lt_or_ge i es.length with q | q
      · exact q
      · rw [List.getElem?_eq_none q] at he; cases he
    show wpAny _ _ (assign (.Name x px) env (.ref y.a)) _ _ _
    refine wpAny_assign_Name (wpAny_storeName_local hkx (hL ▸ F₂.ns) (fun h3 hns hs3 => ?_) hpe)
    rw [hL] at hns hs3
    have F₃ : Fr h₀ L h3 (fun z => if z = x then some (.ref y.a) else m₁ z) := F₂.set hns hs3
    have N₃ := N₂.set hs3
    refine wpAny_mono (turn i y.l y.a m₁ _ h3 _ hli (stable _ _ _ _ P1 st) ⟨lo, es, ep, hd2, S2⟩ ((hy' y (List.mem_of_getElem? hyi)).1.tk st.1) ⟨_, hI2⟩ F₃ N₃) (fun f s₃ h₃ => ?_) fun _ _ q => q.elim
    obtain ⟨rfl, h4, tk4, m₂, n₂, rfl, F4, N4, st4, P4⟩ := h₃
    exact ⟨es.length - (i + 1), by omega, i + 1, m₂, n₂, h4, tk4, hlt, rfl, rfl, F4, N4, st4.2 _ hI2 hDI, st4.2 _ hd2 hD, S2.tk st4.1, P4⟩
  · have hge : i = (ys.map Ye.l).length := by
      rw [← hlen]
      rcases Nat.lt_or_ge i es.length with q | q
      · rw [List.getElem?_eq_getElem q] at he; cases he
      · omega
    have N₂ : News h₀ L h' (n₁.filter fun p => decide (p.1 ≠ I)) := fun p hp => by
      obtain ⟨hp1, hp2⟩ := List.mem_filter.mp hp
      have hp2 : p.1 ≠ I := by simpa using hp2
      exact ⟨hs _ _ hp2 (N₁ p hp1).1, (N₁ p hp1).2⟩
    have F₂ : Fr h₀ L h' m₁ := by
      obtain ⟨oL, a1, a2, hoL, a3⟩ := F₁.ns
      refine ⟨⟨oL, a1, a2, hs _ _ (N₁ _ hIn).2.1.symm hoL, a3⟩, fun b o eb => hs _ _ ?_ (F₁.keep b o eb), F₁.above⟩
      rintro rfl
      rw [(N₁ _ hIn).2.2] at eb; cases eb
    exact wpAny_pure (done m₁ _ h' _ (hge ▸ stable _ _ _ _ P1 (stp_filter N₁ hIn (fun q => by injection q with q; exact absurd q (by decide)))) F₂ N₂)
end
end Mine
end

-- C8
section
theorem Mine.zz_C8 : True := by
  k_with_none
  trivial
set_option maxRecDepth 100000
set_option maxHeartbeats 8000000
namespace Mine
section
variable {w : World} {A : Around} {E : Value → Shared → Prop} {s : Shared} {h₀ : Heap} {L d a r : Addr} {m : Str → Option Value} {news : List (Addr × Obj)} {l : PSum} {k : GK} {c : Int}
theorem SumOf.length {es : List DictEntry} (S : SumOf w news es l) : es.length = l.length := by
  obtain ⟨ys, rfl, _, rfl, _⟩ := S
  simp
theorem len_sum {Q : Value → Shared → Prop} (N : News h₀ L s.heap news) (S : SumAt w news d l) (hz : l.length ≤ 100000)
    (h : ∀ t tk, Q (.int l.length t) { s with toks := tk }) : wpAny (model PG w) A (call (.builtin "len") [.ref d]) Q E s := by
  obtain ⟨lo, es, ep, hd, S⟩ := S
  have hsz : es.toArray.size = l.length := by rw [List.size_toArray]; exact S.length
  have hT : s.TypeIs (.ref d) "dict" := ⟨_, (N _ hd).1, rfl⟩
  refine Calls.call_function_entry kind_len plain_len entry_len (args_len1 _) ?_
  unfold Builtin.«len»
  refine wpAny_bind (m := oneArg "len" _) (wpAny_pure ?_)
  refine wpAny_bind (m := callSpecial? (.ref d) (Str.ofString "__len__")) (wpAny_callSpecial?_slot (name := Str.ofString "__len__") hT PySem.F.slot_dict_len
    (wpAny_call_entry PySem.F.slot_dict_len hT PySem.F.entry_dict_len ?_ (PySem.F.args_dict_len_1 _)))
  unfold Builtin.«dict.__len__» Builtin.Dict.dictSlotNone
  refine wpAny_bind (wpAny_bind (wpAny_notOrdered_dict hT ?_))
  show wpAny _ _ (pure (Value.ref d)) _ _ s
  refine wpAny_pure ?_
  show wpAny _ _ ((do pure (← dictEntries d (some keysPart)).size) >>= _) _ _ s
  refine wpAny_bind (wpAny_bind (wpAny_dictEntries (N _ hd).1 rfl (wpAny_pure ?_)))
  refine wpAny_bind (wpAny_pendingCount_other lo ?_)
  rw [hsz]
  refine wpAny_bind (wpAny_mkInt (wpAny_pure ⟨_, rfl, ?_⟩))
  dsimp only
  refine wpAny_bind (wpAny_holding (wpAny_pure ?_))
  refine wpAny_bind (wpAny_letGo ?_)
  have e : ((l.length : Int) + ((0 : Nat) : Int)) = (l.length : Int) := by omega
  rw [e]
  show wpAny _ _ (if ((l.length : Nat) : Int) < 0 then _ else _) _ _ _
  rw [if_neg (by omega)]
  show wpAny _ _ (if ((l.length : Nat) : Int) ≥ 2 ^ 63 then _ else _) _ _ _
  rw [if_neg (by omega)]
  exact wpAny_bind (wpAny_mkInt (wpAny_pure ⟨_, rfl, h _ _⟩))
theorem item_sum {value slice : PySem.Expr} {Q : Value → Shared → Prop} (hu : A.units + 2 < cLine) (X : (Mine.hd.heap_39 w.params).In h₀) (F : Fr h₀ L s.heap m) (N : News h₀ L s.heap news) (S : SumAt w news d l) (K : KindAt w news a k) (hc : getL l k = some c)
    (h : ∀ r tk, RatAt w news r c → Q (.ref r) { s with toks := tk })
    (hs : subscripted slice false (.ref d) (.ref a) = operate [.ref d, .ref a] (getItem (.ref d) (.ref a))) (hg : ∀ r, letTemporaryGo value (.ref d) r = pure ()) :
    wpAny (model PG w) A (subscriptTail value slice (.ref d) (.ref a)) Q E s := by
  obtain ⟨lo, es, ep, hd, S⟩ := S
  obtain ⟨ys, D, hy, rfl, hn⟩ := S.dict hd X F N
  have hat := at_x ys k
  rw [get_l] at hc
  cases hf : ys.find? fun y => decide (y.k = k) with
  | none => rw [hf] at hc; cases hc
  | some y =>
    rw [hf] at hc hat
    have ec : y.c = c := by injection hc
    obtain ⟨p, hp, ep'⟩ := Option.map_eq_some_iff.mp hat
    refine subscriptTail_builtin D.typeIs slot_dict_getitem.lookup (wpAny_getItem_heap (knd := gk w) (by show A.units + 1 + 1 < cLine; omega) (K.isGK X F N) D hp ?_) hs hg
    rw [ep']
    exact h y.r _ (ec ▸ (hy y (List.mem_of_find?_eq_some hf)).2)
theorem newDict_sum {Q : Value → Shared → Prop} (F : Fr h₀ L s.heap m) (N : News h₀ L s.heap news) (hb : h₀.NoLimit)
    (h : ∀ D h', Fr h₀ L h' m → News h₀ L h' ((D, dictO [] 0) :: news) → (∀ p ∈ news, p.1 < D) → SumAt w ((D, dictO [] 0) :: news) D [] → Q (.ref D) { s with heap := h' }) : wpAny (model PG w) A newDict Q E s := by
  refine wpAny_newObj_type (h _ _ (F.push _) (N.push F _) (fun p hp => Heap.lt_size (N p hp).1) ⟨F.notModules (modules_low hb), [], 0, .head _, [], rfl, (fun _ hy => nomatch hy), rfl, List.nodup_nil⟩)
end
end Mine
end

-- C9
section
theorem Mine.zz_C9 : True := by
  k_with_none
  trivial
set_option maxRecDepth 100000
set_option maxHeartbeats 8000000
namespace Mine

theorem evalDict_sum {w : World} {A : Around} {E : Value → Shared → Prop} {s : Shared} {h₀ : Heap} {L : Addr} {m : Str → Option Value} {news : List (Addr × Obj)} {env : Env} {pos : Pos} {Q : Value → Shared → Prop} (F : Fr h₀ L s.heap m) (N : News h₀ L s.heap news) (hb : h₀.NoLimit)
    (h : ∀ D h', Fr h₀ L h' m → News h₀ L h' ((D, dictO [] 0) :: news) → (∀ p ∈ news, p.1 < D) → SumAt w ((D, dictO [] 0) :: news) D [] → Q (.ref D) { s with heap := h' }) : wpAny (model PG w) A (eval (.Dict [] [] pos) env) Q E s := by
  rw [eval_Dict_empty]
  exact wpAny_bind (wpAny_standAt (newDict_sum F N hb h))

noncomputable abbrev addK (k k' : GK) : GK := (k.1 + k'.1, k.2 + k'.2)
noncomputable def mulIn (e : GK × Int) (lb acc : PSum) : PSum := lb.foldl (fun acc f => insL acc (addK e.1 f.1) (e.2 * f.2)) acc
noncomputable def mulL (la lb : PSum) : PSum := la.foldl (fun acc e => mulIn e lb acc) []

theorem not_many {a b : Nat} (ha : a ≤ 100) (hb : b ≤ 100) (h : (a : Int) * (b : Int) > 1000 * 1000) : False := by
  have h1 : a * b ≤ 100 * 100 := Nat.mul_le_mul ha hb
  have h2 : ((a * b : Nat) : Int) = (a : Int) * (b : Int) := Int.natCast_mul a b
  omega
theorem canon3 {m : Str → Option Value} {x y z : Str} {vx vy vz : Value} (hx : m x = some vx) (hy : m y = some vy) (hz : m z = some vz) :
    ∃ f : Str → Option Value, m = fun u => if u = x then some vx else if u = y then some vy else if u = z then some vz else f u := by
  refine ⟨m, funext fun u => ?_⟩
  by_cases h1 : u = x
  · rw [if_pos h1, h1, hx]
  · rw [if_neg h1]
    by_cases h2 : u = y
    · rw [if_pos h2, h2, hy]
    · rw [if_neg h2]
      by_cases h3 : u = z
      · rw [if_pos h3, h3, hz]
      · rw [if_neg h3]
theorem canon4 {m : Str → Option Value} {x y z t : Str} {vx vy vz vt : Value} (hx : m x = some vx) (hy : m y = some vy) (hz : m z = some vz) (ht : m t = some vt) :
    ∃ f : Str → Option Value, m = fun u => if u = x then some vx else if u = y then some vy else if u = z then some vz else if u = t then some vt else f u := by
  obtain ⟨f, hf⟩ := canon3 hx hy hz
  refine ⟨m, ?_⟩
  have ht' := ht
  funext u
  by_cases h4 : u = t
  · subst h4
    by_cases h1 : u = x
    · rw [if_pos h1, h1, hx]
    · rw [if_neg h1]
      by_cases h2 : u = y
      · rw [if_pos h2, h2, hy]
      · rw [if_neg h2]
        by_cases h3 : u = z
        · rw [if_pos h3, h3, hz]
        · rw [if_neg h3, if_pos rfl, ht]
  · by_cases h1 : u = x
    · rw [if_pos h1, h1, hx]
    · rw [if_neg h1]
      by_cases h2 : u = y
      · rw [if_pos h2, h2, hy]
      · rw [if_neg h2]
        by_cases h3 : u = z
        · rw [if_pos h3, h3, hz]
        · rw [if_neg h3, if_neg h4]

theorem insL_length (l : PSum) (k : GK) (c : Int) : (insL l k c).length ≤ l.length + 1 := by
  unfold insL
  split
  · exact Nat.le_succ_of_le (List.length_filter_le ..)
  · unfold putL
    split <;> simp
theorem mulIn_length (e : GK × Int) (lb acc : PSum) : (mulIn e lb acc).length ≤ acc.length + lb.length := by
  unfold mulIn
  induction lb generalizing acc with
  | nil => exact Nat.le_refl _
  | cons f lb ih =>
    rw [List.foldl_cons, List.length_cons]
    have := ih (insL acc (addK e.1 f.1) (e.2 * f.2))
    have := insL_length acc (addK e.1 f.1) (e.2 * f.2)
    omega
theorem mulIn_take_length (e : GK × Int) (lb acc : PSum) (j : Nat) : (mulIn e (lb.take j) acc).length ≤ acc.length + lb.length :=
  Nat.le_trans (mulIn_length ..) (Nat.add_le_add_left (List.length_take_le' ..) _)
theorem mulL_take_length (la lb : PSum) (i : Nat) : (mulL (la.take i) lb).length ≤ la.length * lb.length := by
  have : ∀ (l acc : PSum), (l.foldl (fun acc e => mulIn e lb acc) acc).length ≤ acc.length + l.length * lb.length := by
    intro l
    induction l with
    | nil => intro acc; simp
    | cons e l ih =>
      intro acc
      rw [List.foldl_cons, List.length_cons, Nat.succ_mul]
      have := ih (mulIn e lb acc)
      have := mulIn_length e lb acc
      omega
  have h := this (la.take i) []
  have h2 : (la.take i).length * lb.length ≤ la.length * lb.length := Nat.mul_le_mul_right _ (List.length_take_le' ..)
  unfold mulL
  simp only [List.length_nil, Nat.zero_add] at h
  omega
theorem mulL_take_succ {la lb : PSum} {i : Nat} {e : GK × Int} (h : la[i]? = some e) : mulL (la.take (i + 1)) lb = mulIn e lb (mulL (la.take i) lb) := by
  unfold mulL
  rw [List.take_add_one, h, List.foldl_append]
  rfl
theorem mulIn_take_succ {e : GK × Int} {lb acc : PSum} {j : Nat} {f : GK × Int} (h : lb[j]? = some f) : mulIn e (lb.take (j + 1)) acc = insL (mulIn e (lb.take j) acc) (addK e.1 f.1) (e.2 * f.2) := by
  unfold mulIn
  rw [List.take_add_one, h, List.foldl_append]
  rfl
theorem getL_at {l : PSum} (hn : (l.map (·.1)).Nodup) : ∀ {i : Nat} {e : GK × Int}, l[i]? = some e → getL l e.1 = some e.2 := by
  induction l with
  | nil => intro i e h; simp at h
  | cons x l ih =>
    intro i e h
    rw [List.map_cons, List.nodup_cons] at hn
    cases i with
    | zero =>
      simp only [List.getElem?_cons_zero, Option.some.injEq] at h
      subst h
      simp [getL]
    | succ i =>
      simp only [List.getElem?_cons_succ] at h
      have hne : ¬ x.1 = e.1 := fun q => hn.1 (q ▸ List.mem_map_of_mem (List.mem_of_getElem? h))
      have := ih hn.2 h
      simpa [getL, List.find?_cons, hne] using this

theorem gmul_spec (w : World) (news) (da db : Addr) (la lb : PSum) (Sa : SumAt w news da la) (Sb : SumAt w news db lb) (hla : la.length ≤ 100) (hlb : lb.length ≤ 100)
    (hc : ∀ e ∈ la, ∀ f ∈ lb, e.2 * f.2 ≠ 0 ∧ IntMulOk e.2 f.2) : Call w 113 8 150 news [.ref da, .ref db]
    (fun R => ∀ D news', (∀ p ∈ news, p ∈ news') → (∀ p ∈ news, p.1 < D) → SumAt w news' D (mulL la lb) → R (.ref D) news') := by
  intro p loose mean mg mb dp un gd cn cs a ccd cl outer A₀ base h₀ L m s Q E B F X N T hk hd hu hret
  refine wpAny_call ?_
  k_dflt ktr_enter
  k_with_none
  k_with "call builtin:len" => (first | (refine len_sum (by k_asm) Sa (by omega) ?_; intros) | (refine len_sum (by k_asm) Sb (by omega) ?_; intros))
  k_with "exec For" => (refine wpAny_For ?_ (by intro _; rfl))
  k_with "binaryOp Mult int int" => (refine mul_int ?_ (by first | exact (.of_right (by decide)) | exact .of_left (intBits_le (by omega))))
  k_with "my dict" => (k_dflt (refine' evalDict_sum ?k1 ?k2 (TopRead.nolimit (by k_asm)) ?_; (case k1 => k_asm); (case k2 => k_asm)); intro D hD F1 N1 lD SD; (try k_sweep))
  k_steps
  · exact (not_many hla hlb (by assumption)).elim
  rename Fr _ _ _ _ => F1
  rename News _ _ _ _ => N1
  have hne : ∀ {d l}, SumAt w news d l → d ≠ D := fun S => let ⟨_, _, _, q, _⟩ := S; Nat.ne_of_lt (lD _ q)
  refine for_sum (D₀ := D) (hA := rfl) (hkx := rfl) (hpe := rfl) (hL := rfl) F1 N1 (Sa.mono allIn1) (hne Sa) (fun I hI hID => ?_) ⟨_, .head _⟩
  refine ⟨fun i m₁ n₁ => (∃ f : Str → Option Value, m₁ = fun u => if u = Str.ofString "found" then some (.ref D) else if u = Str.ofString "a" then some (.ref da) else if u = Str.ofString "b" then some (.ref db) else f u) ∧
    SumAt w n₁ D (mulL (la.take i) lb) ∧ SumAt w n₁ db lb ∧ Stp w D news n₁, ?stable, ?start, ?turn, ?done⟩
  case stable =>
    rintro i m₁ n₁ n₂ ⟨hf, S2, Sb2, st⟩ st2
    exact ⟨hf, S2.stp st2 hID.symm, Sb2.stp st2 (let ⟨_, _, _, q, _⟩ := Sb; Nat.ne_of_lt (hI _ (.tail _ q))), st.1.trans st2.1, fun p hp hd => st2.2 _ (st.2 _ hp hd) (Nat.ne_of_lt (hI _ (.tail _ hp)))⟩
  case start => exact ⟨canon3 rfl rfl rfl, SD, Sb.mono allIn1, Stp.of allIn1⟩
  case done =>
    rintro m₁ n₁ h tk ⟨⟨f, rfl⟩, S2, Sb2, st⟩ F2 N2
    rw [List.take_length] at S2
    clear F1 N1
    dsimp only
    k_steps
    exact hret _ _ (fun p hp => st.2 _ hp (Nat.ne_of_lt (lD _ hp))) lD S2 _ _ (by k_asm) (by k_asm)
  case turn =>
    rintro i e a1 m₁ n₁ h tk hi ⟨⟨f, rfl⟩, S2, Sb2, st⟩ Sa2 Ka ⟨oI, hIn⟩ F2 N2
    clear F1 N1
    k_fold
    k_steps
    rename Fr _ _ _ _ => F2
    rename News _ _ _ _ => N2
    have hDn : ∃ o, (D, o) ∈ n₁ := let ⟨_, _, _, q, _⟩ := S2; ⟨_, q⟩
    have hdbD : db ≠ D := hne Sb
    refine for_sum (D₀ := D) (hA := rfl) (hkx := rfl) (hpe := rfl) (hL := rfl) F2 N2 Sb2 hdbD (fun J hJ hJD => ?_) hDn
    refine ⟨fun j m₂ n₂ => (∃ f : Str → Option Value, m₂ = fun u => if u = Str.ofString "found" then some (.ref D) else if u = Str.ofString "a" then some (.ref da) else if u = Str.ofString "b" then some (.ref db) else if u = Str.ofString "one" then some (.ref a1) else f u) ∧
      SumAt w n₂ D (mulIn e (lb.take j) (mulL (la.take i) lb)) ∧ SumAt w n₂ da la ∧ KindAt w n₂ a1 e.1 ∧ Stp w D n₁ n₂, ?stable, ?start, ?turn, ?done⟩
    case stable =>
      rintro j m₂ n₂ n₃ ⟨hf, S3, Sa3, Ka3, st3⟩ st4
      exact ⟨hf, S3.stp st4 hJD.symm, Sa3.stp st4 (let ⟨_, _, _, q, _⟩ := Sa2; Nat.ne_of_lt (hJ _ q)), Ka3.tk st4.1, st3.1.trans st4.1, fun p hp hd => st4.2 _ (st3.2 _ hp hd) (Nat.ne_of_lt (hJ _ hp))⟩
    case start => exact ⟨canon4 rfl rfl rfl rfl, S2, Sa2, Ka, Stp.refl⟩
    case done =>
      rintro m₂ n₂ h tk ⟨⟨f, rfl⟩, S3, Sa3, Ka3, st3⟩ F3 N3
      rw [List.take_length] at S3
      clear F2 N2
      dsimp only
      k_steps
      exact TurnEnd.intro (by k_asm) (by k_asm) st3 ⟨canon3 rfl rfl rfl, (mulL_take_succ hi).symm ▸ S3, Sb2.stp st3 hdbD, st.trans st3⟩
    case turn =>
      rintro j f b1 m₂ n₂ h tk hj ⟨⟨f', rfl⟩, S3, Sa3, Ka3, st3⟩ Sb3 Kb3 ⟨oJ, hJn⟩ F3 N3
      clear F2 N2
      have hga := getL_at Sa3.keys hi
      have hgb := getL_at Sb3.keys hj
      have hce := hc e (List.mem_of_getElem? hi) f (List.mem_of_getElem? hj)
      have hl3 : (mulIn e (lb.take j) (mulL (la.take i) lb)).length ≤ 100000 := by
        have h1 := mulIn_take_length e lb (mulL (la.take i) lb) j
        have h2 := mulL_take_length la lb i
        have h3 : la.length * lb.length ≤ 100 * 100 := Nat.mul_le_mul hla hlb
        omega
      show wpAny _ _ _ _ _ _
      k_fold
      k_with "call ref" => (first
        | (((refine' Call.use (kind_product_spec w _ _ _ _ _ Ka3 Kb3) ?k1 ?k2 ?k3 ?k4 ?k5 ?kK ?kd ?ku ?_; (case k1 => k_asm); (case k2 => k_asm); (case k3 => k_asm); (case k4 => k_asm); (case k5 => k_asm); (case kK => first | exact rfl | assumption); (case kd => ktr_room); (case ku => ktr_units); (try dsimp only); (intros); (try dsimp only); (try k_fold))); rename_i Dk nk hsub hlt Kk hkh hktk Fk Nk)
        | (((refine' Call.use (rmul_spec w _ _ _ _ _ Ra Rb hce.2) ?k1 ?k2 ?k3 ?k4 ?k5 ?kK ?kd ?ku ?_; (case k1 => k_asm); (case k2 => k_asm); (case k3 => k_asm); (case k4 => k_asm); (case k5 => k_asm); (case kK => first | exact rfl | assumption); (case kd => ktr_room); (case ku => ktr_units); (try dsimp only); (intros); (try dsimp only); (try k_fold))))
        | (((refine' Call.use (ginsert_spec w _ _ _ _ _ _ _ ((S3.mono hsub).mono allIn1) (Kk.tk (TK.of allIn1)) ⟨_, _, _, .inr (.head _)⟩ hce.1 hl3) ?k1 ?k2 ?k3 ?k4 ?k5 ?kK ?kd ?ku ?_; (case k1 => k_asm); (case k2 => k_asm); (case k3 => k_asm); (case k4 => k_asm); (case k5 => k_asm); (case kK => first | exact rfl | assumption); (case kd => ktr_room); (case ku => ktr_units); (try dsimp only); (intros); (try dsimp only); (try k_fold))); rename_i nG SG stG hGh hGtk FG NG))
      k_with "subscriptTail" => (first
        | (refine item_sum (by ktr_units) (by k_asm) (by k_asm) (by k_asm) (Sa3.mono hsub) (Ka3.tk (TK.of hsub)) hga ?_ (by with_unfolding_all rfl) (by intro _; rfl); intro ra tka Ra)
        | (refine item_sum (by ktr_units) (by k_asm) (by k_asm) (by k_asm) (Sb3.mono hsub) (Kb3.tk (TK.of hsub)) hgb ?_ (by with_unfolding_all rfl) (by intro _; rfl); intro rb tkb Rb))
      k_steps
      have stA : Stp w D n₂ nG := ((Stp.of hsub).trans (Stp.of allIn1)).trans stG
      exact TurnEnd.intro (by k_asm) (by k_asm) stA ⟨canon4 rfl rfl rfl rfl, (mulIn_take_succ hj).symm ▸ SG, Sa3.stp stA (hne Sa), Ka3.tk stA.1, st3.trans stA⟩
end Mine
end

-- D5
section
theorem Mine.zz_D5 : True := by
  k_with_none
  trivial
set_option maxRecDepth 100000
set_option maxHeartbeats 4000000
namespace Mine
noncomputable def StopHere (P : Prop) : Prop := P
theorem StopHere.out {P : Prop} (h : StopHere P) : P := h
section
variable {prog : Program} {w : World} {A : Around} {E : Value → Shared → Prop} {s : Shared} {h₀ : Heap} {L : Addr} {m : Str → Option Value} {news : List (Addr × Obj)}
noncomputable def WTurn (s : Shared) (h₀ : Heap) (L : Addr) (P : (Str → Option Value) → List (Addr × Obj) → Prop) (f : Flow) (s₃ : Shared) : Prop :=
  f = .next ∧ ∃ h' tk' m₂ n₂, s₃ = { s with heap := h', toks := tk' } ∧ Fr h₀ L h' m₂ ∧ News h₀ L h' n₂ ∧ P m₂ n₂
theorem WTurn.intro {n₂ : List (Addr × Obj)} {P : (Str → Option Value) → List (Addr × Obj) → Prop} {h' : Heap} {tk' : Nat} {m₂ : Str → Option Value}
    (F : Fr h₀ L h' m₂) (N : News h₀ L h' n₂) (p : P m₂ n₂) : WTurn s h₀ L P .next { s with heap := h', toks := tk' } := ⟨rfl, h', tk', m₂, n₂, rfl, F, N, p⟩
noncomputable def WIf (b : Bool) (T F : Prop) : Prop := (b = true → T) ∧ (b = false → F)

theorem while_led {test : PySem.Expr} {body : List Stmt} {pos : Pos} {env : Env} {Q : Flow → Shared → Prop} (P : Nat → (Str → Option Value) → List (Addr × Obj) → Prop) (k0 : Nat) (F : Fr h₀ L s.heap m) (N : News h₀ L s.heap news) (p0 : P k0 m news)
    (turn : ∀ k m₁ n₁ h tk, P k m₁ n₁ → Fr h₀ L h m₁ → News h₀ L h n₁ → wpAny (model prog w) A (isTrue test env (eval test env)) (fun b s₂ =>
      WIf b (wpAny (model prog w) A (execs body env) (WTurn s h₀ L (fun m₂ n₂ => ∃ k', k' < k ∧ P k' m₂ n₂)) (fun _ _ => False) s₂) (Q .next s₂)) (fun _ _ => False) { s with heap := h, toks := tk }) :
    wpAny (model prog w) A (exec (.While test body [] pos) env) Q E s := by
  refine wpAny_While (codeAny_whileLoop (fun k s' => ∃ m₁ n₁ h tk, s' = { s with heap := h, toks := tk } ∧ Fr h₀ L h m₁ ∧ News h₀ L h n₁ ∧ P k m₁ n₁) ?_ k0 ⟨m, news, s.heap, s.toks, rfl, F, N, p0⟩)
  rintro k _ ⟨m₁, n₁, h, tk, rfl, F1, N1, p1⟩
  refine wpAny_mono (turn k m₁ n₁ h tk p1 F1 N1) (fun b s₂ hb => ?_) fun _ _ q => q.elim
  cases b with
  | false => exact wpAny_pure (hb.2 rfl)
  | true =>
    refine wpAny_mono (hb.1 rfl) (fun f s₃ h₃ => ?_) fun _ _ q => q.elim
    obtain ⟨rfl, h', tk', m₂, n₂, rfl, F2, N2, k', hk, p2⟩ := h₃
    exact ⟨k', hk, m₂, n₂, h', tk', rfl, F2, N2, p2⟩
end
section
variable {w : World} {A : Around} {E : Value → Shared → Prop} {s : Shared} {h₀ : Heap} {L : Addr} {m : Str → Option Value} {news : List (Addr × Obj)}
/-- a loop over an iterator of a known length, whose state is its own object -/
structure ItOk (w : World) (A : Around) (I : Addr) (n : Nat) (st : Nat → Obj → Prop) (item : Nat → Value → Prop) (base : Heap → Prop) : Prop where
  cls : ∀ i o, st i o → o.cls ≠ .type "tuple" ∧ o.cls ≠ .type "dict"
  next : ∀ i (s : Shared) (o : Obj) (Q : Option Value → Shared → Prop) (E : Value → Shared → Prop), i < n → s.heap.get? I = some o → st i o → base s.heap →
    (∀ v h' o' tk, item i v → h'.get? I = some o' → st (i + 1) o' → Heap.SameBut I s.heap h' → Q (some v) { s with heap := h', toks := tk }) → wpAny (model PG w) A (pyNext (.ref I)) Q E s
  stop : ∀ (s : Shared) (o : Obj) (Q : Option Value → Shared → Prop) (E : Value → Shared → Prop), s.heap.get? I = some o → st n o → base s.heap →
    (∀ h' tk, Heap.ExtBut I s.heap h' → Q none { s with heap := h', toks := tk }) → wpAny (model PG w) A (pyNext (.ref I)) Q E s

theorem for_it {I D₀ : Addr} {n : Nat} {st : Nat → Obj → Prop} {item : Nat → Value → Prop} {base : Heap → Prop} {x : Str} {px : Pos} {body : List Stmt} {env : Env} {Q : Flow → Shared → Prop} {o0 : Obj} (W : ItOk w A I n st item base) (hkx : env.kindOf x = some .local)
    (hpe : (env.scope.kind == .class || (env.scope.kind == .module && env.locals != env.globals)) = false) (hL : env.locals = L)
    (F : Fr h₀ L s.heap m) (N : News h₀ L s.heap news) (hI : (I, o0) ∈ news) (h0 : st 0 o0) (hD : I ≠ D₀)
    (P : Nat → (Str → Option Value) → List (Addr × Obj) → Prop) (stable : ∀ i m₁ n₁ n₂, P i m₁ n₁ → Stp w I n₁ n₂ → P i m₁ n₂) (P0 : P 0 m news)
    (hbase : ∀ i m₁ n₁ h, P i m₁ n₁ → Fr h₀ L h m₁ → News h₀ L h n₁ → base h)
    (turn : ∀ i v m₁ n₁ h tk, i < n → item i v → P i m₁ n₁ → (∃ o, (I, o) ∈ n₁) → Fr h₀ L h (fun y => if y = x then some v else m₁ y) → News h₀ L h n₁ →
      wpAny (model PG w) A (execs body env) (TurnEnd w s h₀ L D₀ n₁ (P (i + 1))) (fun _ _ => False) { s with heap := h, toks := tk })
    (done : ∀ m₁ n₁ h tk, P n m₁ n₁ → Fr h₀ L h m₁ → News h₀ L h n₁ → Q .next { s with heap := h, toks := tk }) :
    codeAny (model PG w) A (.forLoop (.Name x px) (.ref I) body [] env) (fun r s' => match r with | .ok f => Q f s' | .error e => cameBackBy (model PG w) A env E e s') s := by
  refine codeAny_forLoop (fun k s' => ∃ i m₁ n₁ hp tk o, i ≤ n ∧ k = n - i ∧ s' = { s with heap := hp, toks := tk } ∧ Fr h₀ L hp m₁ ∧ News h₀ L hp n₁ ∧ (I, o) ∈ n₁ ∧ st i o ∧ P i m₁ n₁)
    ?_ n ⟨0, m, news, s.heap, s.toks, o0, Nat.zero_le _, rfl, rfl, F, N, hI, h0, P0⟩
  rintro k _ ⟨i, m₁, n₁, hp, tk, o, hi, rfl, rfl, F₁, N₁, hIn, hst, P1⟩
  have hb := hbase _ _ _ _ P1 F₁ N₁
  have hcl := W.cls _ _ hst
  rcases Nat.lt_or_ge i n with hlt | hge
  · refine W.next i _ o _ _ hlt (N₁ _ hIn).1 hst hb fun v h' o' tk' hv ho' hst' hs => ?_
    have N₂ : News h₀ L h' (n₁.map fun p => if p.1 = I then (I, o') else p) := N₁.replace hs ho'
    have st2 : Stp w I n₁ (n₁.map fun p => if p.1 = I then (I, o') else p) := stp_map N₁ hIn hcl.1
    have F₂ : Fr h₀ L h' m₁ := F₁.change hs (N₁ _ hIn).2.1 (N₁ _ hIn).2.2
    have hI2 : (I, o') ∈ (n₁.map fun p => if p.1 = I then (I, o') else p) := List.mem_map.mpr ⟨_, hIn, by simp⟩
    show wpAny _ _ (assign (.Name x px) env v) _ _ _
    refine wpAny_assign_Name (wpAny_storeName_local hkx (hL ▸ F₂.ns) (fun h3 hns hs3 => ?_) hpe)
    rw [hL] at hns hs3
    have F₃ : Fr h₀ L h3 (fun z => if z = x then some v else m₁ z) := F₂.set hns hs3
    refine wpAny_mono (turn i v m₁ _ h3 _ hlt hv (stable _ _ _ _ P1 st2) ⟨_, hI2⟩ F₃ (N₂.set hs3)) (fun f s₃ h₃ => ?_) fun _ _ q => q.elim
    obtain ⟨rfl, h4, tk4, m₂, n₂, rfl, F4, N4, st4, P4⟩ := h₃
    exact ⟨n - (i + 1), by omega, i + 1, m₂, n₂, h4, tk4, o', hlt, rfl, rfl, F4, N4, st4.2 _ hI2 hD, hst', P4⟩
  · have e : i = n := Nat.le_antisymm hi hge
    subst e
    refine W.stop _ o _ _ (N₁ _ hIn).1 hst hb fun h' tk' hs => ?_
    have N₂ : News h₀ L h' (n₁.filter fun p => decide (p.1 ≠ I)) := fun p hp => by
      obtain ⟨hp1, hp2⟩ := List.mem_filter.mp hp
      have hp2 : p.1 ≠ I := by simpa using hp2
      exact ⟨hs _ _ hp2 (N₁ p hp1).1, (N₁ p hp1).2⟩
    have F₂ : Fr h₀ L h' m₁ := by
      obtain ⟨oL, a1, a2, hoL, a3⟩ := F₁.ns
      refine ⟨⟨oL, a1, a2, hs _ _ (N₁ _ hIn).2.1.symm hoL, a3⟩, fun b o eb => hs _ _ ?_ (F₁.keep b o eb), F₁.above⟩
      rintro rfl
      rw [(N₁ _ hIn).2.2] at eb; cases eb
    exact wpAny_pure (done m₁ _ h' _ (stable _ _ _ _ P1 (stp_filter N₁ hIn hcl.1)) F₂ N₂)

theorem for_tup {q D₀ : Addr} {vs : List Value} {n : Nat} {x : Str} {px : Pos} {body : List Stmt} {env : Env} {Q : Flow → Shared → Prop} (hA : A.handled = none) (hkx : env.kindOf x = some .local)
    (hpe : (env.scope.kind == .class || (env.scope.kind == .module && env.locals != env.globals)) = false) (hL : env.locals = L) (X : (Mine.hd.heap_39 w.params).In h₀)
    (F : Fr h₀ L s.heap m) (N : News h₀ L s.heap news) (H : Held (Mine.hd.heap_39 w.params) news q (tupO vs n)) (hD0 : D₀ < s.heap.objs.size)
    (h : ∀ I, (∀ p ∈ news, p.1 < I) → I ≠ D₀ → ∃ P : Nat → (Str → Option Value) → List (Addr × Obj) → Prop, (∀ i m₁ n₁ n₂, P i m₁ n₁ → Stp w I n₁ n₂ → P i m₁ n₂) ∧ P 0 m news ∧
      (∀ i m₁ n₁, P i m₁ n₁ → TK w news n₁) ∧
      (∀ i v m₁ n₁ h tk, vs[i]? = some v → P i m₁ n₁ → (∃ o, (I, o) ∈ n₁) → Fr h₀ L h (fun y => if y = x then some v else m₁ y) → News h₀ L h n₁ →
        wpAny (model PG w) A (execs body env) (TurnEnd w s h₀ L D₀ n₁ (P (i + 1))) (fun _ _ => False) { s with heap := h, toks := tk }) ∧
      (∀ m₁ n₁ h tk, P vs.length m₁ n₁ → Fr h₀ L h m₁ → News h₀ L h n₁ → Q .next { s with heap := h, toks := tk })) :
    wpAny (model PG w) A (pyIter (.ref q)) (fun it s₂ => codeAny (model PG w) A (.forLoop (.Name x px) it body [] env) (fun r s' => match r with | .ok f => Q f s' | .error e => cameBackBy (model PG w) A env E e s') s₂) E s := by
  have hq := H.get X F N
  refine wpAny_pyIter_tuple (items := vs.toArray) ⟨_, hq, rfl, n, rfl⟩ ?_
  have fresh : ∀ p ∈ news, p.1 < s.heap.objs.size := fun p hp => Heap.lt_size (N p hp).1
  obtain ⟨P, stable, P0, tk, turn, done⟩ := h s.heap.objs.size fresh (Nat.ne_of_gt hD0)
  have N0 := News.push F N { cls := .type "tuple_iterator", data := .fields #[.ref q, .int 0 0] } rfl
  refine for_it (n := vs.length) (st := fun i o => o.cls = .type "tuple_iterator" ∧ o.data = .fields #[.ref q, .int i 0]) (item := fun i v => vs[i]? = some v) (base := fun h => h.get? q = some (tupO vs n)) ?_ hkx hpe hL (F.push _) N0 (.head _) ⟨rfl, rfl⟩ (Nat.ne_of_gt hD0) P stable (stable 0 m _ _ P0 (Stp.of allIn1)) ?_ ?_ done
  · refine ⟨fun i o hs => ⟨fun e => ?_, fun e => ?_⟩, fun i s' o Q' E' hi ho hs hb hQ => ?_, fun s' o Q' E' ho hs hb hQ => ?_⟩
    · rw [hs.1] at e; injection e with e; exact absurd e (by decide)
    · rw [hs.1] at e; injection e with e; exact absurd e (by decide)
    · refine wpAny_pyNext_tuple_item (i := i) (t := q) (items := vs.toArray) (x := vs[i]) ⟨o, ho, hs.1, hs.2⟩ ⟨_, hb, rfl, n, rfl⟩ (by simp [hi]) fun h' hit hsb => ?_
      obtain ⟨o', ho', h1, h2⟩ := hit
      exact hQ _ h' o' s'.toks (List.getElem?_eq_getElem hi) ho' ⟨h1, h2⟩ hsb
    · exact wpAny_pyNext_tuple_end hA (i := vs.length) (t := q) (items := vs.toArray) ⟨o, ho, hs.1, hs.2⟩ ⟨_, hb, rfl, n, rfl⟩ (by simp) fun h' hsb => hQ h' s'.toks hsb
  · intro i m₁ n₁ h P1 F1 N1
    exact (tk _ _ _ P1 _ _ _ H).get X F1 N1
  · intro i v m₁ n₁ h tk' hi hv P1 hIn F1 N1
    exact turn i v m₁ n₁ h tk' hv P1 hIn F1 N1
end
theorem log2_div_pow (n e : Nat) (h : 2 ^ e ≤ n) : (n / 2 ^ e).log2 + e = n.log2 := by
  induction e generalizing n with
  | zero => simp
  | succ e ih =>
    have h2 : 2 ≤ n := Nat.le_trans (by rw [Nat.pow_succ]; have := Nat.one_le_two_pow (n := e); omega) h
    have hle : 2 ^ e ≤ n / 2 := by rw [Nat.le_div_iff_mul_le (by decide)]; rw [Nat.pow_succ] at h; exact h
    have e1 : n / 2 ^ (e + 1) = n / 2 / 2 ^ e := by rw [Nat.pow_succ', Nat.div_div_eq_div_mul]
    have e2 : n.log2 = (n / 2).log2 + 1 := by rw [Nat.log2_def, if_pos h2]
    rw [e1, e2, ← ih (n / 2) hle]
    omega
theorem fdiv_nat (n e : Nat) : Int.fdiv (n : Int) ((2 : Int) ^ e) = ((n / 2 ^ e : Nat) : Int) := by
  have h : ((2 : Int) ^ e) = ((2 ^ e : Nat) : Int) := by rw [Int.natCast_pow]; rfl
  rw [h, Int.fdiv_eq_ediv_of_nonneg _ (Int.natCast_nonneg _), Int.natCast_ediv]
end Mine
end

-- C10
section
theorem Mine.zz_C10 : True := by
  k_with_none
  trivial
set_option maxRecDepth 100000
set_option maxHeartbeats 8000000
namespace Mine
local macro_rules | `(tactic| walk_at "exec While Compare") => `(tactic| k_dflt (refine StopHere.out ?_))
local macro_rules | `(tactic| walk_at "exec For") => `(tactic| (refine wpAny_For ?_ (by intro _; rfl)))
theorem canon2 {m : Str → Option Value} {x y : Str} {vx vy : Value} (hx : m x = some vx) (hy : m y = some vy) :
    ∃ f : Str → Option Value, m = fun u => if u = x then some vx else if u = y then some vy else f u := by
  refine ⟨m, funext fun u => ?_⟩
  by_cases h1 : u = x
  · rw [if_pos h1, h1, hx]
  · rw [if_neg h1]
    by_cases h2 : u = y
    · rw [if_pos h2, h2, hy]
    · rw [if_neg h2]
theorem pow_log2 (e : Nat) (h : e ≤ 4096) : ((2 : Int) ^ e).natAbs.log2 < 9000 := by
  rw [Int.natAbs_pow]
  show (2 ^ e).log2 < 9000
  rw [Nat.log2_two_pow]; omega
theorem ge_pow (n e : Nat) : decide ((n : Int) ≥ (2 : Int) ^ e) = decide (2 ^ e ≤ n) := by
  have h : ((2 : Int) ^ e) = ((2 ^ e : Nat) : Int) := by rw [Int.natCast_pow]; rfl
  rw [h]
  exact decide_eq_decide.mpr Int.ofNat_le
theorem pow_ne (e : Nat) : (2 : Int) ^ e ≠ 0 := by
  have h : ((2 : Int) ^ e) = ((2 ^ e : Nat) : Int) := by rw [Int.natCast_pow]; rfl
  rw [h]
  have : 0 < 2 ^ e := Nat.two_pow_pos e
  omega
theorem three {t1 t2 t3 : Tok} {i : Nat} {v : Value} (h : [Value.int 4096 t1, Value.int 64 t2, Value.int 1 t3][i]? = some v) : ∃ (e : Nat) (t : Tok), v = .int (e : Int) t ∧ e ≤ 4096 ∧ 0 < e ∧ (i = 2 → e = 1) := by
  rcases i with _ | _ | _ | i
  · simp only [List.getElem?_cons_zero, Option.some.injEq] at h; exact ⟨4096, t1, h.symm, by decide, by decide, fun h => absurd h (by decide)⟩
  · simp only [List.getElem?_cons_succ, List.getElem?_cons_zero, Option.some.injEq] at h; exact ⟨64, t2, h.symm, by decide, by decide, fun h => absurd h (by decide)⟩
  · simp only [List.getElem?_cons_succ, List.getElem?_cons_zero, Option.some.injEq] at h; exact ⟨1, t3, h.symm, by decide, by decide, fun _ => rfl⟩
  · simp at h

theorem bits_of_spec (w : World) (news) (n : Nat) (t : Tok) (hn : 1 ≤ n) : Call w 48 2 60 news [.int (n : Int) t] (fun R => ∀ t, R (.int ((n.log2 + 1 : Nat) : Int) t) news) := by
  intro p loose mean mg mb dp un gd cn cs a ccd cl outer A₀ base h₀ L m s Q E B F X N T hk hd hu hret
  refine wpAny_call ?_
  k_dflt ktr_enter
  k_with_none
  k_with "my for" => (k_dflt (refine StopHere.out ?_))
  k_steps
  unfold StopHere
  refine wpAny_For ?_ (by intro _; rfl)
  k_steps
  rename Fr _ _ _ _ => F1
  rename News _ _ _ _ => N1
  rename (∀ p ∈ news, p.1 < _) => l1
  rename Frag.In _ _ => X1
  obtain ⟨nw, Nw, Hw, hnw⟩ := (⟨_, N1, .inr (.head _), fun p hp => .tail _ hp⟩ : ∃ nw, News _ _ _ nw ∧ Held (Mine.hd.heap_39 w.params) nw _ (tupO [Value.int 4096 _, .int 64 _, .int 1 _] 0) ∧ ∀ p ∈ news, p ∈ nw)
  refine' for_tup (D₀ := 0) (vs := [_, _, _]) ?_A ?_B ?_C ?_D X1 ?_F ?_N ?_H ?_z (fun I hI hI0 => ?_T)
  case _N => exact Nw
  case _F => exact F1
  case _H => exact Hw
  case _A => rfl
  case _B => rfl
  case _C => rfl
  case _D => rfl
  case _z => exact Nat.lt_of_le_of_lt (Nat.zero_le _) (Heap.lt_size (Hw.get X1 F1 Nw))
  refine ⟨fun i m₁ n₁ => ∃ (k f : Nat) (tk tf : Tok), (∃ g : Str → Option Value, m₁ = fun u => if u = Str.ofString "n" then some (.int (k : Int) tk) else if u = Str.ofString "found" then some (.int (f : Int) tf) else g u) ∧ 1 ≤ k ∧ k.log2 + f = n.log2 ∧ (i = 3 → k = 1) ∧
    (∀ p ∈ nw, p ∈ n₁), ?stable, ?start, ?tk, ?turn, ?done⟩
  case stable =>
    rintro i m₁ n₁ n₂ ⟨k, f, tk, tf, hg, h1, h2, h3, h4⟩ st
    exact ⟨k, f, tk, tf, hg, h1, h2, h3, fun p hp => st.2 _ (h4 p hp) (Nat.ne_of_lt (hI _ hp))⟩
  case start => exact ⟨n, 0, _, _, canon2 rfl rfl, hn, rfl, fun h => absurd h (by decide), fun p hp => hp⟩
  case tk =>
    rintro i m₁ n₁ ⟨k, f, tk, tf, hg, h1, h2, h3, h4⟩
    exact TK.of h4
  case done =>
    rintro m₁ n₁ h tk ⟨k, f, tk, tf, ⟨g, rfl⟩, h1, h2, h3, h4⟩ F2 N2
    have hk1 := h3 rfl
    subst hk1
    clear F1 N1
    dsimp only
    k_steps
    have e5 : ((n.log2 + 1 : Nat) : Int) = (f : Int) + ((1 : Nat) : Int) := by
      have e6 : (1 : Nat).log2 = 0 := by decide
      rw [e6] at h2
      omega
    have r5 := hret
    rw [e5] at r5
    refine r5 _ _ _ (by k_asm) ?_
    rename News h₀ L _ n₁ => kN
    exact fun p hp => kN p (h4 p (hnw p hp))
  case turn =>
    rintro i v m₁ n₁ h tk hv ⟨k, f, tk, tf, ⟨g, rfl⟩, h1, h2, h3, h4⟩ ⟨oI, hIn⟩ F2 N2
    obtain ⟨e, te, rfl, he1, he2, he3⟩ := three hv
    clear F1 N1
    show wpAny _ _ _ _ _ _
    k_fold
    k_with "binaryOp Pow int int" => (refine pow_int_small (by omega) (by omega) (by decide) ?_)
    k_steps
    rename Fr _ _ _ _ => F3
    rename News _ _ _ _ => N3
    unfold StopHere
    rw [Int.toNat_natCast] at F3
    refine while_led (fun k' m₂ n₂ => ∃ (ff : Nat) (tn tg tm ts : Tok), (∃ g : Str → Option Value, m₂ = fun u => if u = Str.ofString "n" then some (.int (k' : Int) tn) else if u = Str.ofString "found" then some (.int (ff : Int) tg) else if u = Str.ofString "step" then some (.int ((2 : Int) ^ e) ts) else if u = Str.ofString "many" then some (.int (e : Int) tm) else g u) ∧ 1 ≤ k' ∧ k'.log2 + ff = n.log2 ∧ ∀ p ∈ n₁, p ∈ n₂) k F3 N3 ⟨f, _, _, _, _, canon4 rfl rfl rfl rfl, h1, h2, fun p hp => hp⟩ ?_
    rintro k' m₂ n₂ h tk ⟨ff, tn, tg, tm, ts, ⟨g, rfl⟩, j1, j2, j3⟩ F4 N4
    clear F3 N3
    k_fold
    k_steps
    refine ⟨fun hb => ?_, fun hb => ?_⟩
    · have hle : 2 ^ e ≤ k' := by have hb2 := of_decide_eq_true hb; exact_mod_cast hb2
      show wpAny _ _ _ _ _ _
      k_with "binaryOp FloorDiv int int" => (refine floordiv_int (pow_ne _) ?_ (.inl (PyProof.noPylong_of_log2 (pow_log2 _ (by omega)))))
      k_steps
      rename Fr _ _ _ _ => F5
      rename News _ _ _ _ => N5
      refine WTurn.intro F5 N5 ?_
      have e8 := fdiv_nat k' e
      refine ⟨k' / 2 ^ e, Nat.div_lt_self j1 (Nat.one_lt_two_pow (by omega)), ff + e, _, _, _, _, canon4 (by first | exact congrArg (fun x => some (Value.int x _)) e8 | rfl) (by first | rfl | exact congrArg (fun x => some (Value.int x _)) (Int.natCast_add _ _)) rfl rfl, Nat.div_pos hle (Nat.two_pow_pos e), ?_, ?_⟩
      · have := log2_div_pow k' e hle; omega
      · first | exact j3 | exact fun p hp => .tail _ (j3 p hp)
    · have hle : k' < 2 ^ e := by have hb2 := of_decide_eq_false hb; have hb3 := Int.not_le.mp hb2; exact_mod_cast hb3
      k_steps
      refine TurnEnd.intro F4 N4 (Stp.of j3) ⟨k', ff, _, _, canon2 rfl rfl, j1, j2, fun hi => ?_, fun p hp => j3 p (h4 p hp)⟩
      have e9 := he3 (by omega)
      subst e9
      omega
end Mine
end

-- C11
section
theorem Mine.zz_C11 : True := by
  k_with_none
  trivial
set_option maxRecDepth 100000
set_option maxHeartbeats 8000000
namespace Mine
theorem rpower_spec (w : World) (news) (a : Addr) (n : Int) (t : Tok) (ha : RatAt w news a 1) (h1 : 0 < n) (h2 : n ≤ 200) : Call w 85 4 80 news [.ref a, .int n t]
    (fun R => ∀ D t t', (∀ p ∈ news, p.1 < D) → R (.ref D) ((D, ratO 1 t t') :: news)) := by
  intro p loose mean mg mb dp un gd cn cs a' ccd cl outer A₀ base h₀ L m s Q E B F X N T hk hd hu hret
  obtain ⟨t1, t2, n1, ha⟩ := ha
  refine wpAny_call ?_
  k_dflt ktr_enter
  k_with_none
  k_with "subscriptTail" => ((k_here; (with_reducible show wpAny _ _ (subscriptTail _ _ (Value.ref _) (Value.int _ _)) _ _ _); with_unfolding_all refine' item_held ?k1 ?k2 ?k3 ?k4 ?k5 ?k6 ?k7 ?k8 ?k9 ?_ ?k10; (case k1 => assumption); (case k2 => k_asm); (case k3 => k_asm); (case k4 => k_asm); (case k5 => kcj_all); (case k6 => decide); (case k7 => decide); (case k8 => exact rfl); (case k9 => exact rfl); (case k10 => with_unfolding_all rfl); k_whole))
  k_with "binaryOp Pow int int" => (refine pow_int_small (by omega) (by omega) (by decide) ?_; simp only [Int.one_pow])
  k_steps
  all_goals (
    simp only [Int.one_pow] at *
    exact hret _ _ _ (by assumption) _ _ (by k_asm) (by k_asm))
end Mine
end

-- C12
section
theorem Mine.zz_C12 : True := by
  k_with_none
  k_with "zz1" => first | (refine' all_ne ?zz1_x9 ?zz1_y9; (case zz1_x9 => assumption); (case zz1_y9 => ((try dsimp only); omega))) | (refine' all_ne' ?zz1_x9 ?zz1_y9; (case zz1_x9 => assumption); (case zz1_y9 => ((try dsimp only); omega)))
  k_with "zz5" => ((with_reducible refine inCells ?_); name_kind "cell"; k_dflt (refine' ldCN ?zz5_N ?zz5_c ?zz5_m ?zz5_d ?_ ?zz5_a ?zz5_b; (case zz5_a => rfl); (case zz5_b => rfl); (case zz5_N => k_asm); (case zz5_c => rfl); (case zz5_m => (((repeat (first | with_reducible assumption | with_reducible exact List.mem_cons_self | with_reducible refine List.mem_cons_of_mem _ ?_)); done))); (case zz5_d => with_reducible assumption)))
  k_with "zz2" => ((try k_fold); k_dflt (refine' ListComp_empty ?zz2_k1 ?zz2_k2 ?zz2_k3 ?zz2_k4 ?zz2_k5 ?zz2_k6 ?_; (case zz2_k1 => exact rfl); (case zz2_k2 => exact fun _ => rfl); (case zz2_k3 => exact rfl); (case zz2_k4 => exact rfl); (case zz2_k5 => decide); (case zz2_k6 => decide)))
  trivial
set_option maxRecDepth 100000
set_option maxHeartbeats 8000000
namespace Mine
theorem comp_endT {s : Shared} {K : Frag} {h₀ : Heap} {L : Addr} {m : Str → Option Value} {news : List (Addr × Obj)} {q : Addr} {c : Nat} {Q : Value → Shared → Prop} (H : Held K news q (tupO [] c)) (X : K.In h₀) (F : Fr h₀ L s.heap m) (N : News h₀ L s.heap news)
    (h : ∀ h' D, Fr h₀ L h' m → News h₀ L h' ((D, listOf #[] 0) :: news) → (∀ p ∈ news, p.1 < D) → Q (.ref D) { s with heap := h' }) :
    SrcEmpty Q (.ref q) s := by
  refine ⟨q, rfl, .inr ⟨_, H.get X F N, rfl, c, rfl⟩, fun h' D k hD e => ?_⟩
  have lt : ∀ b o, s.heap.get? b = some o → b < D := fun b o e => Nat.lt_of_lt_of_le (Heap.lt_size e) hD
  refine h h' D (grow F N k).1 (fun p hp => ?_) fun p hp => lt _ _ (N p hp).1
  rcases List.mem_cons.mp hp with rfl | hp
  · obtain ⟨oL, a1, a2, hL, a3⟩ := F.ns
    refine ⟨e, Nat.ne_of_gt (lt _ _ hL), ?_⟩
    cases hq : h₀.get? D with
    | none => rfl
    | some o' => exact absurd (lt _ _ (F.keep _ _ hq)) (Nat.lt_irrefl _)
  · exact (grow F N k).2 p hp
theorem in4 {a b c d : Addr × Obj} {l : List (Addr × Obj)} : ∀ p ∈ l, p ∈ a :: b :: c :: d :: l := fun _ hp => .tail _ (.tail _ (.tail _ (.tail _ hp)))
theorem in6 {a b c d e f : Addr × Obj} {l : List (Addr × Obj)} : ∀ p ∈ l, p ∈ a :: b :: c :: d :: e :: f :: l := fun _ hp => .tail _ (.tail _ (.tail _ (.tail _ (.tail _ (.tail _ hp)))))
theorem gpower_one (w : World) (news) (d : Addr) (k : GK) (n : Int) (t : Tok) (S : SumAt w news d [(k, 1)]) (h1 : 0 < n) (h2 : n ≤ 200) (hx : IntMulOk k.1 n) (hc : IntMulOk k.2 n) : Call w 118 8 150 news [.ref d, .int n t]
    (fun R => ∀ D news', (∀ p ∈ news, p ∈ news') → (∀ p ∈ news, p.1 < D) → SumAt w news' D [((k.1 * n, k.2 * n), 1)] → R (.ref D) news') := by
  intro p loose mean mg mb dp un gd cn cs a ccd cl outer A₀ base h₀ L m s Q E B F X N T hk hd hu hret
  refine wpAny_call ?_
  k_dflt ((refine' code_defC ?k1 ?k2 ?k3 ?k4 ?k5 ?kA ?kF ?kK ?k6 ?k7 ?k8 ?k9 ?kB ?kD ?_ ?c2 ?c3 ?c4; (case kA => exact rfl); (case kF => exact rfl); (case kK => first | exact rfl | assumption); (case k1 => k_asm); (case k2 => k_asm); (case k3 => k_asm); (case k4 => k_asm); (case k5 => k_asm); (case k6 => k_is); (case k7 => k_is); (case k8 => ktr_room); (case k9 => exact BindsTo.of_eq rfl); (case kB => exact rfl); (case kD => decide +kernel); (case c2 => exact rfl); (case c3 => exact rfl); (case c4 => exact rfl); k_whole; intro gF LF hF tkF cellsF FGF FF NF YF BF XF TF l1; (try k_lt l1); k_cells YF; (try simp only [List.cons_append, List.nil_append] at NF); (try dsimp only); (try k_fold)))
  k_with_none
  k_with "zz1" => first | (refine' all_ne ?zz1_x9 ?zz1_y9; (case zz1_x9 => assumption); (case zz1_y9 => ((try dsimp only); omega))) | (refine' all_ne' ?zz1_x9 ?zz1_y9; (case zz1_x9 => assumption); (case zz1_y9 => ((try dsimp only); omega)))
  k_with "zz5" => ((with_reducible refine inCells ?_); name_kind "cell"; k_dflt (refine' ldCN ?zz5_N ?zz5_c ?zz5_m ?zz5_d ?_ ?zz5_a ?zz5_b; (case zz5_a => rfl); (case zz5_b => rfl); (case zz5_N => k_asm); (case zz5_c => rfl); (case zz5_m => (((repeat (first | with_reducible assumption | with_reducible exact List.mem_cons_self | with_reducible refine List.mem_cons_of_mem _ ?_)); done))); (case zz5_d => with_reducible assumption)))
  k_with "zz2" => ((try k_fold); k_dflt (refine' ListComp_empty ?zz2_k1 ?zz2_k2 ?zz2_k3 ?zz2_k4 ?zz2_k5 ?zz2_k6 ?_; (case zz2_k1 => exact rfl); (case zz2_k2 => exact fun _ => rfl); (case zz2_k3 => exact rfl); (case zz2_k4 => exact rfl); (case zz2_k5 => decide); (case zz2_k6 => decide)))
  k_with "call builtin:len" => ((refine' len_sum ?k1 (S.mono ?k2) ?k3 ?_; (case k1 => k_asm); (case k2 => exact allIn1); (case k3 => simp)); intros; (try simp only [List.length_cons, List.length_nil]))
  k_with "exec For" => (k_dflt (refine StopHere.out ?_))
  k_with "my dict" => (k_dflt (refine' evalDict_sum ?k1 ?k2 (TopRead.nolimit (by k_asm)) ?_; (case k1 => k_asm); (case k2 => k_asm)); intro D hD F1 N1 lD SD; (try k_sweep))
  k_steps
  rename Fr _ _ _ _ => F1
  rename News _ _ _ _ => N1
  rename Obj => oC
  rename oC.data = _ => dC
  have dC : oC.data = .cell (some (.int n t)) := dC
  unfold StopHere
  refine wpAny_For ?_ (by intro _; rfl)
  k_steps
  have hD : d ≠ D := let ⟨_, _, _, q, _⟩ := S; Nat.ne_of_lt (lD _ (.tail _ q))
  refine' for_sum (D₀ := D) ?_A ?_B ?_C ?_D ?_F ?_N ?_S hD ?_h ⟨_, ?_z⟩
  case _N => exact N1
  case _F => exact F1
  case _S => exact S.mono (fun p hp => .tail _ (.tail _ hp))
  case _A => rfl
  case _B => rfl
  case _C => rfl
  case _D => rfl
  case _z => exact .head _
  case _h =>
    intro I hI hI0
    refine ⟨fun i m₁ n₁ => (∃ f : Str → Option Value, m₁ = fun u => if u = Str.ofString "found" then some (.ref D) else if u = Str.ofString "a" then some (.ref d) else f u) ∧
      SumAt w n₁ D ([((k.1 * n, k.2 * n), (1 : Int))].take i) ∧ (LF + 1, oC) ∈ n₁ ∧ Stp w D ((D, dictO [] 0) :: (LF + 1, oC) :: news) n₁, ?stable, ?start, ?turn, ?done⟩
    case stable =>
      rintro i m₁ n₁ n₂ ⟨hf, S2, hC, st⟩ st2
      exact ⟨hf, S2.stp st2 hI0.symm, st2.2 _ hC (Nat.ne_of_lt (hI _ (.tail _ (.head _)))), st.1.trans st2.1, fun p hp hd => st2.2 _ (st.2 _ hp hd) (Nat.ne_of_lt (hI _ hp))⟩
    case start => exact ⟨canon2 rfl rfl, SD, .tail _ (.head _), Stp.refl⟩
    case done =>
      rintro m₁ n₁ h tk ⟨⟨f, rfl⟩, S2, hC, st⟩ F2 N2
      clear F1 N1
      dsimp only
      k_steps
      exact hret _ _ (fun p hp => st.2 _ (.tail _ (.tail _ hp)) (Nat.ne_of_lt (lD _ (.tail _ hp)))) (fun p hp => lD _ (.tail _ hp)) S2 _ _ (by k_asm) (by k_asm)
    case turn =>
      rintro i e a1 m₁ n₁ h tk hi ⟨⟨f, rfl⟩, S2, hC, st⟩ Sa2 Ka ⟨oI, hIn⟩ F2 N2
      have hi0 : i = 0 ∧ e = (k, 1) := by
        rcases i with _ | i
        · simp only [List.getElem?_cons_zero, Option.some.injEq] at hi; exact ⟨rfl, hi.symm⟩
        · simp at hi
      obtain ⟨rfl, rfl⟩ := hi0
      clear F1 N1
      have hga := getL_at Sa2.keys hi
      have Ka2 := Ka
      obtain ⟨pp, pr, pt, pn, pnp, hkk, hkp, hkr⟩ := Ka2
      show wpAny _ _ _ _ _ _
      k_fold
      k_with "my src" => ((k_dflt (refine' comp_endT hkp ?k0 ?k1 ?k2 ?_; (case k0 => k_asm); (case k1 => k_asm); (case k2 => k_asm))); intro h' D' F' N' l1; (try k_lt l1); (try k_sweep); (try dsimp only))
      k_with "call ref" => (first | ((refine' Call.use (rpower_spec w _ _ _ _ Ra h1 h2) ?k1 ?k2 ?k3 ?k4 ?k5 ?kK ?kd ?ku ?_; (case k1 => k_asm); (case k2 => k_asm); (case k3 => k_asm); (case k4 => k_asm); (case k5 => k_asm); (case kK => first | exact rfl | assumption); (case kd => ktr_room); (case ku => ktr_units); (try dsimp only); (intros); (try dsimp only); (try k_fold))) | ((refine' Call.use (rmul_spec w _ _ _ _ _ (hkr.mono in4) ⟨_, _, _, .inr (.head _)⟩ hx) ?k1 ?k2 ?k3 ?k4 ?k5 ?kK ?kd ?ku ?_; (case k1 => k_asm); (case k2 => k_asm); (case k3 => k_asm); (case k4 => k_asm); (case k5 => k_asm); (case kK => first | exact rfl | assumption); (case kd => ktr_room); (case ku => ktr_units); (try dsimp only); (intros); (try dsimp only); (try k_fold))))
      k_with "subscriptTail" => (first | ((k_here; (with_reducible show wpAny _ _ (subscriptTail _ _ (Value.ref _) (Value.int _ _)) _ _ _); with_unfolding_all refine' item_held ?k1 ?k2 ?k3 ?k4 ?k5 ?k6 ?k7 ?k8 ?k9 ?_ ?k10; (case k1 => assumption); (case k2 => k_asm); (case k3 => k_asm); (case k4 => k_asm); (case k5 => kcj_all); (case k6 => decide); (case k7 => decide); (case k8 => exact rfl); (case k9 => exact rfl); (case k10 => with_unfolding_all rfl); k_whole)) | ((refine' item_sum ?q1 ?q2 ?q3 ?q4 (Sa2.mono ?q5) (Ka.tk (TK.of ?q6)) hga ?_ ?q7 ?q8; (case q4 => k_asm); (case q3 => k_asm); (case q2 => k_asm); (case q1 => ktr_units); (case q5 => kcj_all); (case q6 => kcj_all); (case q7 => with_unfolding_all rfl); (case q8 => intro _; rfl)); intro ra tka Ra))
      have S3 : SumAt w n₁ D [] := S2
      k_with "setItem ref ref" => ((k_dflt (refine' setItem_sum (k := (k.1 * n, k.2 * n)) (c := 1) ?s1 ?s2 ?s3 ?s4 (S3.mono in6) ⟨_, _, _, _, _, .inr (.head _), .inr (.tail _ (.tail _ (.tail _ (.tail _ (.head _))))), ⟨_, _, _, .inr (.tail _ (.head _))⟩⟩ ⟨_, _, _, .inr (.tail _ (.tail _ (.tail _ (.head _))))⟩ (by simp) ?_; (case s4 => k_asm); (case s3 => k_asm); (case s2 => k_asm); (case s1 => ktr_units))); intro hG tkG nG FG NG SG stG)
      k_with "binaryOp Mult int int" => (refine mul_int ?_ hc)
      k_steps
      have stA : Stp w D n₁ nG := (Stp.of in6).trans stG
      exact TurnEnd.intro (by k_asm) (by k_asm) stA ⟨canon2 rfl rfl, SG, stA.2 _ hC (Nat.ne_of_lt (lD _ (.head _))), st.trans stA⟩
end Mine
end

-- D6
section
theorem Mine.zz_D6 : True := by
  k_with_none
  trivial
set_option maxRecDepth 100000
set_option maxHeartbeats 4000000
namespace Mine
section
variable {prog : Program} {w : World} {A : Around} {E : Value → Shared → Prop} {s : Shared} {es : List DictEntry} {ep : Nat} {d it v : Addr}
noncomputable abbrev viO (d : Addr) (i n ep : Nat) : Obj := { cls := .type "dict_valueiterator", data := .fields #[.ref d, .int i 0, .int n 0, .int ep 0] }
noncomputable abbrev vwO (d : Addr) : Obj := { cls := .type "dict_values", data := .fields #[.ref d] }

theorem rawv_meets (lo : (d == sysModules) = false) :
    MeetsIn prog w (Builtin.«dict.values» ⟨[.ref d], []⟩) (fun _ R s => (∃ es ep, s.heap.get? d = some (dictO es ep)) ∧ R (.ok (.ret (.ref s.heap.objs.size))) { s with heap := s.heap.push (vwO d) }) :=
  .of_wp fun A R s ⟨⟨es, ep, ho⟩, h⟩ => by
    have hT : s.TypeIs (.ref d) "dict" := ⟨_, ho, rfl⟩
    refine wpAny_bind ?_
    unfold Builtin.Dict.noArgs
    refine wpAny_bind (wpAny_notOrdered_dict hT ?_)
    show wpAny _ _ (pure d) _ _ s
    refine wpAny_pure ?_
    show wpAny _ _ (Builtin.Dict.showsAll d >>= _) _ _ s
    unfold Builtin.Dict.showsAll
    rw [if_neg (by rw [lo]; exact Bool.false_ne_true)]
    exact wpAny_bind (wpAny_pure (wpAny_bind (wpAny_newObj_type (wpAny_pure ⟨_, rfl, h⟩))))

theorem rawv_iter {Q : Value → Shared → Prop} (hv : s.heap.get? v = some (vwO d)) (ho : s.heap.get? d = some (dictO es ep)) (hQ : Q (.ref s.heap.objs.size) { s with heap := s.heap.push (viO d 0 es.length ep) }) :
    wpAny (model prog w) A (pyIter (.ref v)) Q E s := by
  have hT : s.TypeIs (.ref v) "dict_values" := ⟨_, hv, rfl⟩
  refine wpAny_pyIter_slot hT PySem.F.slot_dict_values_iter (wpAny_call_entry PySem.F.slot_dict_values_iter hT PySem.F.entry_dict_values_iter ?_ (PySem.F.args_dict_values_iter_1 _))
  unfold Builtin.«dict_values.__iter__»
  refine wpAny_bind (wpAny_pure (wpAny_bind ?_))
  unfold Builtin.Dict_items.dictOf
  refine wpAny_bind (wpAny_field hv rfl (x := .ref d) rfl (wpAny_pure (wpAny_bind ?_)))
  unfold Builtin.Dict_items.newIterator
  refine wpAny_bind (wpAny_dictEntries ho rfl (wpAny_bind (wpAny_dictEpoch ho rfl ?_)))
  have hown : Builtin.Dict_items.ownsTuple "dict_valueiterator" = false := by decide
  simp only [hown, Bool.false_eq_true, if_false]
  exact wpAny_newObj_type (wpAny_pure ⟨_, rfl, "dict_valueiterator", _, ⟨_, Heap.get?_push_size _ rfl, rfl⟩, PySem.F.slot_dict_valueiterator_next.lookup, hQ⟩)

theorem rawv_self {i n : Nat} {Q : Value → Shared → Prop} (hit : s.heap.get? it = some (viO d i n ep)) (h : Q (.ref it) s) : wpAny (model prog w) A (pyIter (.ref it)) Q E s :=
  wpAny_pyIter_valiter (d := d) (i := i) (n := n) (ep := ep) ⟨_, hit, rfl, rfl⟩ h

theorem rawv_next {i : Nat} {Q : Option Value → Shared → Prop} (hA : A.handled = none) (hit : s.heap.get? it = some (viO d i es.length ep)) (hod : s.heap.get? d = some (dictO es ep))
    (item : ∀ e, es[i]? = some e → ∀ h', h'.get? it = some (viO d (i + 1) es.length ep) → Heap.SameBut it s.heap h' → Q (some e.val) { s with heap := h' })
    (stop : es[i]? = none → ∀ h', Heap.ExtBut it s.heap h' → Q none { s with heap := h' }) : wpAny (model prog w) A (pyNext (.ref it)) Q E s := by
  have hT : s.TypeIs (.ref it) "dict_valueiterator" := ⟨_, hit, rfl⟩
  have hown : Builtin.Dict_items.ownsTuple "dict_valueiterator" = false := by decide
  have hsz : es.toArray.size = es.length := List.size_toArray
  unfold pyNext
  refine wpAny_bind (wpAny_attempt (wpAny_callSpecial?_slot (name := Str.ofString "__next__") hT PySem.F.slot_dict_valueiterator_next
    (wpAny_call_entry PySem.F.slot_dict_valueiterator_next hT PySem.F.entry_dict_valueiterator_next ?_ (PySem.F.args_dict_valueiterator_next_1 _))))
  refine wpAny_bind (wpAny_pure (wpAny_bind (wpAny_bind ?_)))
  first | refine wpAny_bind (wpAny_typeNameOfWhole_valiter hT (wpAny_pure ?_)) | refine wpAny_bind (wpAny_typeNameOf_valiter hT (wpAny_pure ?_))
  refine wpAny_bind (wpAny_fieldsOf hit rfl ?_)
  simp only [hown, Bool.false_eq_true, if_false]
  show wpAny _ _ (if (Value.ref d == Value.none) = true then _ else _) _ _ s
  rw [if_neg (show ¬ ((Value.ref d == Value.none) = true) from Bool.false_ne_true)]
  refine wpAny_bind (wpAny_pure (wpAny_bind (wpAny_dictEntries hod rfl ?_)))
  rw [if_neg (by rw [hsz]; simp)]
  refine wpAny_bind (wpAny_pure (wpAny_bind (wpAny_dictEpoch hod rfl ?_)))
  rw [if_neg (by simp)]
  refine wpAny_pure ?_
  simp only [show ¬ ((i : Int) < 0) from by omega, if_false, Int.toNat_natCast]
  have hget : es.toArray[i]? = es[i]? := List.getElem?_toArray
  rw [hget]
  cases he : es[i]? with
  | some e =>
    refine wpAny_bind ?_
    first | refine wpAny_bind (wpAny_typeNameOfWhole_valiter hT (wpAny_pure ?_)) | refine wpAny_bind (wpAny_typeNameOf_valiter hT (wpAny_pure ?_))
    refine wpAny_bind (wpAny_isOneOf_valiter hT ?_)
    show wpAny _ _ (setField (.ref it) 1 (rawInt ((i : Int) + 1)) >>= _) _ _ s
    refine wpAny_bind (wpAny_setField hit rfl (by simp) ?_)
    have hit' : (s.heap.update it (Obj.mapFields (·.setIfInBounds 1 (rawInt ((i : Int) + 1))))).get? it = some (viO d (i + 1) es.length ep) := Heap.get?_update_self _ hit rfl
    have hT' : ({ s with heap := s.heap.update it (Obj.mapFields (·.setIfInBounds 1 (rawInt ((i : Int) + 1)))) } : Shared).TypeIs (.ref it) "dict_valueiterator" := ⟨_, hit', rfl⟩
    refine wpAny_bind (wpAny_holding (wpAny_bind (wpAny_isOneOf_valiter hT' (wpAny_bind (wpAny_isOneOf_valiter hT' ?_)))))
    show wpAny _ _ (pure e.val) _ _ _
    exact wpAny_pure (wpAny_pure ⟨_, rfl, wpAny_pure (item e he _ hit' (Heap.SameBut.update ..))⟩)
  | none =>
    refine wpAny_bind ?_
    first | refine wpAny_bind (wpAny_typeNameOfWhole_valiter hT (wpAny_pure ?_)) | refine wpAny_bind (wpAny_typeNameOf_valiter hT (wpAny_pure ?_))
    show wpAny _ _ (setField (.ref it) 0 .none >>= _) _ _ s
    refine wpAny_bind (wpAny_setField hit rfl (by simp) ?_)
    show wpAny _ _ (newExc (.type "StopIteration") [] >>= _) _ _ _
    refine wpAny_bind ?_
    simp only [newExc, newTuple]
    refine wpAny_bind (wpAny_newObj_type ?_ (by size_fits))
    refine wpAny_bind (m := firstArgMember _ _) (wpAny_of_eq (a := Value.none) (by first | rfl | (simp only [firstArgMember]; rfl)) ?_)
    refine wpAny_newObj_type ?_ (by size_fits)
    simp only [raiseNew]
    refine wpAny_bind (wpAny_handled ?_)
    rw [show A.in1.handled = none from hA]
    refine wpAny_bind (wpAny_pure (wpAny_throw ?_))
    refine wpAny_bind (wpAny_isInstance (T := "StopIteration") (b := true) ⟨_, Heap.get?_push_size _ rfl, rfl⟩ isSubtype_stop ?_)
    exact wpAny_pure (stop he _ (((Heap.SameBut.update ..).extBut.push _).push _))

theorem rawv_walks (hA : A.handled = none) (I : Addr) (hne : d ≠ I) :
    Walks prog w A I [I, d] [I] es.length (fun i v => es[i]?.map (·.val) = some v) (fun i h => h.get? I = some (viO d i es.length ep) ∧ h.get? d = some (dictO es ep)) where
  sub := fun b hb => by simp at hb; simp [hb]
  frame := fun _ _ _ st hk => ⟨hk I (by simp) _ st.1, hk d (by simp) _ st.2⟩
  item := fun i s Q E hi st hQ => by
    refine rawv_next hA st.1 st.2 (fun e he h' hit' hs' => ?_) (fun hn => absurd hn (by simp [hi]))
    exact hQ e.val h' s.toks (by rw [he]; rfl) ⟨hit', hs'.extBut d _ hne st.2⟩ fun b o hb e => hs'.extBut b o (fun h => hb (by simp [h])) e
  done := fun s Q E st hQ => rawv_next hA st.1 st.2 (fun e he => by simp at he) fun _ h' he' => hQ h' s.toks fun b o hb e => he' b o (fun h => hb (by simp [h])) e
  self := fun _ _ _ _ st hQ => rawv_self st.1 hQ
end
end Mine
end

-- D7
section
theorem Mine.zz_D7 : True := by
  k_with_none
  trivial
set_option maxRecDepth 100000
set_option maxHeartbeats 4000000
namespace Mine
open PyProof.Rows.LCg
section
variable {w : World} {A : Around} {E : Value → Shared → Prop} {s : Shared} {env : Env}
noncomputable def SrcTwo (w : World) (A : Around) (env : Env) (elt : PySem.Expr) (x : Str) (scope : Scope) (cl : List (Str × Addr)) (Q : Value → Shared → Prop) (xv : Value) (s₁ : Shared) : Prop :=
  ∃ (h₀ : Heap) (L : Addr) (m : Str → Option Value) (v d : Addr) (e1 e2 : GK × Int) (news : List (Addr × Obj)) (g : Int → Int), xv = .ref v ∧ A.handled = none ∧ Fr h₀ L s₁.heap m ∧ News h₀ L s₁.heap news ∧ (v, vwO d) ∈ news ∧ SumAt w news d [e1, e2] ∧
    (∀ c r I oI C oC D oD m₂ h tk (Q₂ E₂ : Value → Shared → Prop), c = e1.2 ∨ c = e2.2 → RatAt w news r c → NsObj oC m₂ → m₂ x = some (.ref r) → Fr h₀ L h m → News h₀ L h ((I, oI) :: (C, oC) :: (D, oD) :: news) →
      (∀ h' tk' t, Fr h₀ L h' m → News h₀ L h' ((I, oI) :: (C, oC) :: (D, oD) :: news) → Q₂ (.int (g c) t) { s₁ with heap := h', toks := tk' }) →
      wpAny (model PG w) A (eval elt (compEnvC scope cl C env)) Q₂ E₂ { s₁ with heap := h, toks := tk }) ∧
    (∀ D h tk t1 t2, Fr h₀ L h m → News h₀ L h ((D, lst [.int (g e1.2) t1, .int (g e2.2) t2]) :: news) → Q (.ref D) { s₁ with heap := h, toks := tk })

theorem ListComp_two {elt iter : PySem.Expr} {x : Str} {px : Pos} {scope : Scope} {cl : List (Str × Addr)} {pos : Pos} {Q : Value → Shared → Prop}
    (hclos : closureFor scope env = pure cl) (hcell : ∀ y ∈ scope.names, y.2 ≠ .cell) (hkind : scope.kind = .function)
    (hnames : ∀ y ∈ scope.names, y.2 = .local → scope.names.lookup y.1 = some .local) (hx : scope.names.lookup x = some .local)
    (h : wpAny (model PG w) A (eval iter env) (SrcTwo w A env elt x scope cl Q) E s)
    (hs : ∀ x, foldedSetIterable iter env x = pure x) :
    wpAny (model PG w) A (eval (.ListComp elt [⟨.Name x px, iter, [], 0⟩] scope pos) env) Q E s := by
  rw [eval_ListComp]
  refine wpAny_comprehension_free (use := none) rfl hs hclos hkind hnames (wpAny_mono h (fun xv s₁ h₁ => ?_) fun _ _ e => e)
  obtain ⟨h₀, L, m, v, d, e1, e2, news, g, rfl, hh, F, N, hv, ⟨lo, es, ep, hd, ys, hes, hy, hl, hn⟩, elem, fin⟩ := h₁
  obtain ⟨y1, y2, rfl⟩ : ∃ y1 y2, ys = [y1, y2] := by
    rcases ys with _ | ⟨y1, _ | ⟨y2, _ | ⟨y3, ys⟩⟩⟩
    · simp at hl
    · simp at hl
    · exact ⟨y1, y2, rfl⟩
    · simp at hl
  simp only [List.map_cons, List.map_nil, List.cons.injEq, and_true] at hl
  obtain ⟨hl1, hl2⟩ := hl
  have r1 : RatAt w news y1.r e1.2 := by rw [hl1]; exact (hy y1 (.head _)).2
  have r2 : RatAt w news y2.r e2.2 := by rw [hl2]; exact (hy y2 (.tail _ (.head _))).2
  have hlen : es.length = 2 := by rw [hes]; simp
  refine rawv_iter (N _ hv).1 (N _ hd).1 ?_
  have up : ∀ b o, s₁.heap.get? b = some o → (s₁.heap.push (viO d 0 es.length ep)).get? b = some o := fun b o e => Heap.get?_push_of_some _ e
  have hlt : d < s₁.heap.objs.size := Heap.lt_size (N _ hd).1
  refine block_U (rawv_walks hh s₁.heap.objs.size (Nat.ne_of_lt hlt)) (by rw [hlen]; decide) (fun i h st => ⟨_, st.1⟩) (S := fun nw => (d, dictO es ep) ∈ nw) (fun i h h' o nw st e e' k N' S => ⟨by rw [e', ← e]; exact st.1, (N' _ S).1⟩)
    hcell hkind hx ⟨Heap.get?_push_size _ rfl, up _ _ (N _ hd).1⟩ (fun b hb => ?_) (F.keeps up) (N.grown up) (Nat.ne_of_lt F.ns.lt) (next_is_new F) (fun p hp => Nat.ne_of_lt (Heap.lt_size (N p hp).1)) hd ?_ ?_
    (Fin := fun l nw => ∃ t1 t2, l = [.int (g e1.2) t1, .int (g e2.2) t2] ∧ nw = news)
  · show b < (s₁.heap.push _).objs.size
    rw [Heap.size_push]
    rcases List.mem_cons.mp hb with rfl | hb
    · exact Nat.lt_succ_self _
    · rw [List.mem_singleton.mp hb]; exact Nat.lt_succ_of_lt hlt
  · rw [hlen]
    refine CompRest.succ fun v1 I oI C oC D m₂ h tk E' hv1 hC hx1 F1 N1 off ne => ?_
    have q1 : v1 = .ref y1.r := by rw [hes] at hv1; simpa [entryOfKey, Ye.x] using hv1.symm
    subst q1
    refine elem e1.2 y1.r I oI C oC D _ m₂ h tk _ _ (.inl rfl) r1 hC hx1 F1 N1 fun h' tk' t F2 N2 => ?_
    refine CompEnd.intro F2 N2 news (fun p hp => hp) off hd ?_
    refine CompRest.succ fun v2 I oI C oC D m₂ h tk E' hv2 hC hx1 F1 N1 off ne => ?_
    have q2 : v2 = .ref y2.r := by rw [hes] at hv2; simpa [entryOfKey, Ye.x] using hv2.symm
    subst q2
    refine elem e2.2 y2.r I oI C oC D _ m₂ h tk _ _ (.inr rfl) r2 hC hx1 F1 N1 fun h' tk' t' F2 N2 => ?_
    exact CompEnd.intro F2 N2 news (fun p hp => hp) off hd (CompRest.zero ⟨t, t', rfl, rfl⟩)
  · rintro D C h tk m' ys news' F' N' o1 hn' hC₀ hD₀ hCL hDL hCD offC ⟨t1, t2, rfl, rfl⟩
    refine ⟨m', hn', fun h'' hs'' => fin D h'' tk t1 t2 (F'.change hs'' hCL hC₀) (fun p hp => ?_)⟩
    refine ⟨hs''.extBut _ _ ?_ (N' p hp).1, (N' p hp).2⟩
    rcases List.mem_cons.mp hp with rfl | hp
    · exact Ne.symm hCD
    · exact offC p hp
end
end Mine
end

-- D8
section
theorem Mine.zz_D8 : True := by
  k_with_none
  trivial
set_option maxRecDepth 100000
set_option maxHeartbeats 4000000
namespace Mine
section
variable {w : World} {A : Around} {E : Value → Shared → Prop} {s : Shared} {h₀ : Heap} {L : Addr} {m : Str → Option Value} {news : List (Addr × Obj)} {env : Env}
noncomputable def putAll (ps acc : PSum) : PSum := ps.foldl (fun acc p => putL acc p.1 p.2) acc
noncomputable def PairsAre (w : World) (news : List (Addr × Obj)) : List (Value × Value) → PSum → Prop
  | [], [] => True
  | (a, r) :: vs, p :: ps => (∃ a' r', a = .ref a' ∧ r = .ref r' ∧ KindAt w news a' p.1 ∧ RatAt w news r' p.2) ∧ PairsAre w news vs ps
  | _, _ => False
theorem PairsAre.tk {news' : List (Addr × Obj)} (h : TK w news news') : ∀ {vs : List (Value × Value)} {ps : PSum}, PairsAre w news vs ps → PairsAre w news' vs ps
  | [], [], _ => trivial
  | (_, _) :: _, _ :: _, ⟨⟨a', r', e1, e2, K, R⟩, x⟩ => ⟨⟨a', r', e1, e2, K.tk h, R.tk h⟩, PairsAre.tk h x⟩
  | [], _ :: _, x => x.elim
  | _ :: _, [], x => x.elim
theorem PairsAre.length : ∀ {vs : List (Value × Value)} {ps : PSum}, PairsAre w news vs ps → ps.length = vs.length
  | [], [], _ => rfl
  | (_, _) :: _, _ :: _, ⟨_, x⟩ => by rw [List.length_cons, List.length_cons, PairsAre.length x]
  | [], _ :: _, x => x.elim
  | _ :: _, [], x => x.elim
theorem putL_length (l : PSum) (k : GK) (c : Int) : (putL l k c).length ≤ l.length + 1 := by
  unfold putL
  split
  · simp
  · simp

theorem storeAll_sum {d : Addr} (hu : A.units + 2 < cLine) (X : (Mine.hd.heap_39 w.params).In h₀) : ∀ (vs : List (Value × Value)) (ps acc : PSum) (s : Shared) (news : List (Addr × Obj)) (Q : PUnit → Shared → Prop), Fr h₀ L s.heap m → News h₀ L s.heap news → PairsAre w news vs ps → SumAt w news d acc →
    acc.length + ps.length ≤ 100000 →
    (∀ h' tk news', Fr h₀ L h' m → News h₀ L h' news' → SumAt w news' d (putAll ps acc) → Stp w d news news' → Q PUnit.unit { s with heap := h', toks := tk }) →
    wpAny (model PG w) A (forIn vs PUnit.unit fun (x : Value × Value) (_ : PUnit) => (do dictSet d x.1 x.2; pure (ForInStep.yield PUnit.unit) : Sem (ForInStep PUnit))) Q E s
  | [], [], acc, s, news, Q, F, N, _, S, _, hQ => by
    rw [List.forIn_nil]
    exact wpAny_pure (hQ s.heap s.toks news F N S Stp.refl)
  | (_, _) :: vs, p :: ps, acc, s, news, Q, F, N, ⟨⟨a', r', rfl, rfl, K, R⟩, hp⟩, S, hz, hQ => by
    rw [List.length_cons] at hz
    rw [List.forIn_cons]
    refine wpAny_bind (wpAny_bind (dictSet_sum hu X F N S K R (by omega) fun h' tk news' F' N' S' st => wpAny_pure ?_))
    refine storeAll_sum hu X vs ps _ _ news' Q F' N' (hp.tk st.1) S' (by have := putL_length acc p.1 p.2; omega) fun h2 tk2 n2 F2 N2 S2 st2 => ?_
    exact hQ h2 tk2 n2 F2 N2 S2 (st.trans st2)
  | [], _ :: _, _, _, _, _, _, _, x, _, _, _ => x.elim
  | (_, _) :: _, [], _, _, _, _, _, _, x, _, _, _ => x.elim

noncomputable def SumMade (w : World) (h₀ : Heap) (L : Addr) (m : Str → Option Value) (d : Addr) (Q : Value → Shared → Prop) (vs : List (Value × Value)) (s₁ : Shared) : Prop :=
  ∃ (ps : PSum) (news : List (Addr × Obj)), Fr h₀ L s₁.heap m ∧ News h₀ L s₁.heap news ∧ SumAt w news d [] ∧ PairsAre w news vs ps ∧
    ∀ h' tk news', Fr h₀ L h' m → News h₀ L h' news' → SumAt w news' d (putAll ps []) → Stp w d news news' → Q (.ref d) { s₁ with heap := h', toks := tk }

theorem zip_pairs (keys : List (Option PySem.Expr)) (values : List PySem.Expr) (env : Env) (pos : Pos) (hall : keys.all (·.isSome) = true) (hl : keys.length = values.length) :
    (evalEachOpt keys env).zip ((evalEach values env).map fun v => do let x ← v; standAt pos; pure x) = (pairTrees keys values env pos).map fun p => (some p.1, p.2) := zip_pairTrees keys values env pos hall hl

theorem Dict_sum {keys : List (Option PySem.Expr)} {values : List PySem.Expr} {pos : Pos} {Q : Value → Shared → Prop} (hu : A.units + 2 < cLine) (X : (Mine.hd.heap_39 w.params).In h₀) (F : Fr h₀ L s.heap m) (N : News h₀ L s.heap news) (hb : h₀.NoLimit)
    (hall : keys.all (·.isSome) = true) (hl : keys.length = values.length) (h0 : keys ≠ []) (hlen : keys.length ≤ 15)
    (h : ∀ d h', Fr h₀ L h' m → News h₀ L h' ((d, dictO [] 0) :: news) → (∀ p ∈ news, p.1 < d) → SumAt w ((d, dictO [] 0) :: news) d [] →
      wpAny (model PG w) A (evalPairs (pairTrees keys values env pos)) (fun vs s₁ => SumMade w h₀ L m d Q vs s₁) E { s with heap := h' }) :
    wpAny (model PG w) A (eval (.Dict keys values pos) env) Q E s := by
  have hn := pairTrees_length keys values env pos hall hl
  have hne : pairTrees keys values env pos ≠ [] := fun he => h0 (List.length_eq_zero_iff.mp (by rw [← hn, he]; rfl))
  rw [arm_eval_Dict, zip_pairs keys values env pos hall hl, dictDisplay_pairs _ hne (by rw [hn]; omega)]
  refine wpAny_bind (wpAny_standAt (wpAny_bind ?_))
  unfold subDict
  refine wpAny_bind (wpAny_alloc (wpAny_bind (wpAny_holding ?_)))
  rw [if_pos (by rw [hn]; exact hlen)]
  have S0 : SumAt w ((s.heap.objs.size, dictO [] 0) :: news) s.heap.objs.size [] := ⟨F.notModules (modules_low hb), [], 0, .head _, [], rfl, (fun _ hy => nomatch hy), rfl, List.nodup_nil⟩
  refine wpAny_bind (wpAny_mono (wpAny_evalPairs_len (h s.heap.objs.size _ (F.push _) (N.push F _) (fun p hp => Heap.lt_size (N p hp).1) S0)) (fun vs s₁ h₁ => ?_) fun _ _ e => e)
  obtain ⟨hvl, ps, n1, F1, N1, S1, hp, hQ⟩ := h₁
  refine wpAny_holding ?_
  refine wpAny_bind (storeAll_sum hu X vs ps [] s₁ n1 _ F1 N1 hp S1 (by rw [hp.length, hvl, hn]; simp; omega) fun h' tk n' F' N' S' st => wpAny_pure (wpAny_pure (wpAny_pure (hQ h' tk n' F' N' S' st))))
end

section
variable {w : World} {A : Around} {E : Value → Shared → Prop} {s : Shared} {h₀ : Heap} {L : Addr} {m : Str → Option Value} {news : List (Addr × Obj)}
noncomputable abbrev riO (x left step : Int) : Obj := { cls := .type "range_iterator", data := .fields #[rawInt x, rawInt left, rawInt step] }
theorem range_ok {I : Addr} {n : Nat} (hA : A.handled = none) : ItOk w A I n (fun i o => o = riO (i : Int) ((n : Int) - i) 1) (fun i v => ∃ t, v = .int (i : Int) t) (fun _ => True) where
  cls := fun i o h => by subst h; exact ⟨fun e => by injection e with e; exact absurd e (by decide), fun e => by injection e with e; exact absurd e (by decide)⟩
  next := fun i s o Q E hi ho hs _ hQ => by
    subst hs
    refine wpAny_pyNext_range_item (x := i) (left := (n : Int) - i) (step := 1) ho (by omega) fun h' hit hsb => ?_
    have e : (n : Int) - i - 1 = (n : Int) - ((i + 1 : Nat) : Int) := by omega
    exact hQ _ h' (riO ((i + 1 : Nat) : Int) ((n : Int) - ((i + 1 : Nat) : Int)) 1) _ ⟨_, rfl⟩ (e ▸ hit) rfl hsb
  stop := fun s o Q E ho hs _ hQ => by
    subst hs
    exact wpAny_pyNext_range_end (x := (n : Int)) (left := (n : Int) - n) (step := 1) hA ho (by omega) fun h' hsb => hQ h' s.toks hsb

theorem for_range {r D₀ : Addr} {n : Nat} {t u v : Tok} {x : Str} {px : Pos} {body : List Stmt} {env : Env} {Q : Flow → Shared → Prop} (hA : A.handled = none) (hkx : env.kindOf x = some .local)
    (hpe : (env.scope.kind == .class || (env.scope.kind == .module && env.locals != env.globals)) = false) (hL : env.locals = L)
    (F : Fr h₀ L s.heap m) (N : News h₀ L s.heap news) (hr : IsRange s.heap r 0 (n : Int) 1 t u v) (hn : n ≤ 1000000) (hD0 : D₀ < s.heap.objs.size)
    (h : ∀ I, (∀ p ∈ news, p.1 < I) → I ≠ D₀ → ∃ P : Nat → (Str → Option Value) → List (Addr × Obj) → Prop, (∀ i m₁ n₁ n₂, P i m₁ n₁ → Stp w I n₁ n₂ → P i m₁ n₂) ∧ P 0 m news ∧
      (∀ i t m₁ n₁ h tk, i < n → P i m₁ n₁ → (∃ o, (I, o) ∈ n₁) → Fr h₀ L h (fun y => if y = x then some (.int (i : Int) t) else m₁ y) → News h₀ L h n₁ →
        wpAny (model PG w) A (execs body env) (TurnEnd w s h₀ L D₀ n₁ (P (i + 1))) (fun _ _ => False) { s with heap := h, toks := tk }) ∧
      (∀ m₁ n₁ h tk, P n m₁ n₁ → Fr h₀ L h m₁ → News h₀ L h n₁ → Q .next { s with heap := h, toks := tk })) :
    wpAny (model PG w) A (pyIter (.ref r)) (fun it s₂ => codeAny (model PG w) A (.forLoop (.Name x px) it body [] env) (fun r s' => match r with | .ok f => Q f s' | .error e => cameBackBy (model PG w) A env E e s') s₂) E s := by
  have hz : Builtin.Range.rangeSize 0 (n : Int) 1 = (n : Int) := by
    unfold Builtin.Range.rangeSize
    simp
    intro h; omega
  have hsm : Builtin.Range.small 0 (n : Int) 1 = true := by
    unfold Builtin.Range.small
    rw [hz]
    simp
    have f : ∀ z : Int, 0 ≤ z → z ≤ 1000000 → Builtin.Range.rangeFitsLong z = true := fun z h1 h2 => by
      unfold Builtin.Range.rangeFitsLong
      simp
      omega
    exact ⟨⟨⟨⟨f 0 (by omega) (by omega), f n (by omega) (by omega)⟩, f 1 (by omega) (by omega)⟩, f n (by omega) (by omega)⟩, .inr (f n (by omega) (by omega))⟩
  refine wpAny_pyIter_range hr hsm ?_
  rw [hz]
  have fresh : ∀ p ∈ news, p.1 < s.heap.objs.size := fun p hp => Heap.lt_size (N p hp).1
  obtain ⟨P, stable, P0, turn, done⟩ := h s.heap.objs.size fresh (Nat.ne_of_gt hD0)
  have N0 := News.push F N (riO 0 n 1) rfl
  refine for_it (n := n) (range_ok hA) hkx hpe hL (F.push _) N0 (.head _) (by simp) (Nat.ne_of_gt hD0) P stable (stable 0 m _ _ P0 (Stp.of allIn1)) (fun _ _ _ _ _ _ _ => trivial) ?_ done
  rintro i v m₁ n₁ h tk hi ⟨t, rfl⟩ P1 hIn F1 N1
  exact turn i t m₁ n₁ h tk hi P1 hIn F1 N1
end
end Mine
end

-- C13
section
theorem Mine.zz_C13 : True := by
  k_with_none
  k_with "zz1" => first | (refine' all_ne ?zz1_x9 ?zz1_y9; (case zz1_x9 => assumption); (case zz1_y9 => ((try dsimp only); omega))) | (refine' all_ne' ?zz1_x9 ?zz1_y9; (case zz1_x9 => assumption); (case zz1_y9 => ((try dsimp only); omega)))
  k_with "zz5" => ((with_reducible refine inCells ?_); name_kind "cell"; k_dflt (refine' ldCN ?zz5_N ?zz5_c ?zz5_m ?zz5_d ?_ ?zz5_a ?zz5_b; (case zz5_a => rfl); (case zz5_b => rfl); (case zz5_N => k_asm); (case zz5_c => rfl); (case zz5_m => (((repeat (first | with_reducible assumption | with_reducible exact List.mem_cons_self | with_reducible refine List.mem_cons_of_mem _ ?_)); done))); (case zz5_d => with_reducible assumption)))
  trivial
set_option maxRecDepth 100000
set_option maxHeartbeats 8000000
namespace Mine
section
variable {w : World} {A : Around} {E : Value → Shared → Prop} {s : Shared} {h₀ : Heap} {L d : Addr} {m : Str → Option Value} {news : List (Addr × Obj)} {l : PSum}
theorem values_sum {Q : Value → Shared → Prop} (F : Fr h₀ L s.heap m) (N : News h₀ L s.heap news) (S : SumAt w news d l)
    (h : ∀ v h', Fr h₀ L h' m → News h₀ L h' ((v, vwO d) :: news) → (∀ p ∈ news, p.1 < v) → Q (.ref v) { s with heap := h' }) : wpAny (model PG w) A (call (.builtin "dict.values") [.ref d]) Q E s := by
  obtain ⟨lo, es, ep, hd, _⟩ := S
  have hT : s.TypeIs (.ref d) "dict" := ⟨_, (N _ hd).1, rfl⟩
  exact call_meetsIn PySem.F.slot_dict_values hT PySem.F.entry_dict_values (PySem.F.args_dict_values_1 _) (rawv_meets lo) ⟨⟨es, ep, (N _ hd).1⟩, h _ _ (F.push _) (N.push F _) fun p hp => Heap.lt_size (N p hp).1⟩
end
noncomputable def powL (a : PSum) : Nat → PSum
  | 0 => [((0, 0), 1)]
  | n + 1 => mulL (powL a n) a
theorem still_at (w : World) (news) : KindAt w news 87 (0, 0) := ⟨_, 49, _, 0, 0, .inl rfl, .inl rfl, ratAt_R0 w news⟩
noncomputable def bitsI (c : Int) : Nat := (max c.natAbs 1).log2 + 1
theorem in2 {a b : Addr × Obj} {l : List (Addr × Obj)} : ∀ p ∈ l, p ∈ a :: b :: l := fun _ hp => .tail _ (.tail _ hp)
theorem max_abs (c : Int) : (if 1 > if c < 0 then -c else c then 1 else if c < 0 then -c else c) = ((max c.natAbs 1 : Nat) : Int) := by
  by_cases h1 : c < 0
  · rw [if_pos h1]
    by_cases h2 : 1 > -c
    · rw [if_pos h2]; omega
    · rw [if_neg h2]; omega
  · rw [if_neg h1]
    by_cases h2 : 1 > c
    · rw [if_pos h2]; omega
    · rw [if_neg h2]; omega
theorem fr_canon1 {g h : Heap} {L : Addr} {m : Str → Option Value} {x : Str} {v : Value} (F : Fr g L h m) (hx : m x = some v) : ∃ f : Str → Option Value, Fr g L h (fun u => if u = x then some v else f u) :=
  ⟨m, by
    have e : m = fun u => if u = x then some v else m u := funext fun u => by
      by_cases h1 : u = x
      · rw [if_pos h1, h1, hx]
      · rw [if_neg h1]
    rw [← e]; exact F⟩
theorem too_long {n x y : Nat} {M : Int} (hx : x ≤ 60000) (hy : y ≤ 60000) (hn : n ≤ 3) (hM : M = (x : Int) ∨ M = (y : Int)) (h : 200000 < (n : Int) * M) : False := by
  have h1 : M ≤ 60000 := by omega
  have h0 : 0 ≤ M := by omega
  have h3 : (n : Int) * M ≤ 3 * 60000 := Int.mul_le_mul (by omega) h1 h0 (by decide)
  omega
theorem in3 {a b c : Addr × Obj} {l : List (Addr × Obj)} : ∀ p ∈ l, p ∈ a :: b :: c :: l := fun _ hp => .tail _ (.tail _ (.tail _ hp))
theorem gpower_two (w : World) (news) (d : Addr) (e1 e2 : GK × Int) (n : Nat) (t : Tok) (S : SumAt w news d [e1, e2]) (h1 : 1 ≤ n) (h2 : n ≤ 3) (b1 : bitsI e1.2 ≤ 60000) (b2 : bitsI e2.2 ≤ 60000)
    (hlen : ∀ i, i < n → (powL [e1, e2] i).length ≤ 100) (hmul : ∀ i, i < n → ∀ e ∈ powL [e1, e2] i, ∀ f ∈ [e1, e2], e.2 * f.2 ≠ 0 ∧ IntMulOk e.2 f.2) : Call w 118 12 250 news [.ref d, .int (n : Int) t]
    (fun R => ∀ D news', (∀ p ∈ news, p ∈ news') → (∀ p ∈ news, p.1 < D) → SumAt w news' D (powL [e1, e2] n) → R (.ref D) news') := by
  intro p loose mean mg mb dp un gd cn cs a ccd cl outer A₀ base h₀ L m s Q E B F X N T hk hd hu hret
  refine wpAny_call ?_
  k_dflt ((refine' code_defC ?k1 ?k2 ?k3 ?k4 ?k5 ?kA ?kF ?kK ?k6 ?k7 ?k8 ?k9 ?kB ?kD ?_ ?c2 ?c3 ?c4; (case kA => exact rfl); (case kF => exact rfl); (case kK => first | exact rfl | assumption); (case k1 => k_asm); (case k2 => k_asm); (case k3 => k_asm); (case k4 => k_asm); (case k5 => k_asm); (case k6 => k_is); (case k7 => k_is); (case k8 => ktr_room); (case k9 => exact BindsTo.of_eq rfl); (case kB => exact rfl); (case kD => decide +kernel); (case c2 => exact rfl); (case c3 => exact rfl); (case c4 => exact rfl); k_whole; intro gF LF hF tkF cellsF FGF FF NF YF BF XF TF l1; (try k_lt l1); k_cells YF; (try simp only [List.cons_append, List.nil_append] at NF); (try dsimp only); (try k_fold)))
  rename Obj => oC
  rename oC.data = _ => dC
  replace dC : oC.data = .cell (some (.int (n : Int) t)) := dC
  obtain ⟨f0, F0⟩ := fr_canon1 (x := Str.ofString "a") (v := .ref d) FF rfl
  clear FF
  k_with_none
  k_with "zz1" => first | (refine' all_ne ?zz1_x9 ?zz1_y9; (case zz1_x9 => assumption); (case zz1_y9 => ((try dsimp only); omega))) | (refine' all_ne' ?zz1_x9 ?zz1_y9; (case zz1_x9 => assumption); (case zz1_y9 => ((try dsimp only); omega)))
  k_with "zz5" => ((with_reducible refine inCells ?_); name_kind "cell"; k_dflt (refine' ldCN ?zz5_N ?zz5_c ?zz5_m ?zz5_d ?_ ?zz5_a ?zz5_b; (case zz5_a => rfl); (case zz5_b => rfl); (case zz5_N => k_asm); (case zz5_c => rfl); (case zz5_m => (((repeat (first | with_reducible assumption | with_reducible exact List.mem_cons_self | with_reducible refine List.mem_cons_of_mem _ ?_)); done))); (case zz5_d => with_reducible assumption)))
  k_with "call builtin:len" => ((refine' len_sum ?k1 (S.mono ?k2) ?k3 ?_; (case k1 => k_asm); (case k2 => exact allIn1); (case k3 => simp)); intros; (try simp only [List.length_cons, List.length_nil]))
  k_with "my comp" => ((try k_fold); k_dflt (refine' ListComp_two ?k1 ?k2 ?k3 ?k4 ?k5 ?_ ?k6; (case k1 => exact rfl); (case k2 => decide); (case k3 => exact rfl); (case k4 => decide); (case k5 => exact rfl); (case k6 => exact fun _ => rfl)))
  k_with "getMethod ref" => (refine getMethod_sum PySem.F.slot_dict_values PySem.F.type_dict_values (by k_asm) (S.mono allIn1) ?_)
  k_with "call builtin:dict.values" => ((k_dflt (refine' values_sum ?k1 ?k2 (S.mono allIn1) ?_; (case k1 => k_asm); (case k2 => k_asm))); intro vW hW FW NW lW)
  k_with "my two" => (k_dflt (refine StopHere.out ?_))
  k_steps
  unfold StopHere
  refine ⟨gF, LF, _, vW, d, e1, e2, _, fun c => (bitsI c : Int), rfl, rfl, FW, NW, .head _, S.mono in2, ?elem, ?fin⟩
  case elem =>
    rintro c r I oI C oC2 D oD m₂ h tk Q₂ E₂ hc' R hC hx F1 N1 hQ
    obtain ⟨t1, t2, n1, hr⟩ := R
    clear FW NW
    show wpAny _ _ _ _ _ _
    k_with "subscriptTail" => ((k_here; (with_reducible show wpAny _ _ (subscriptTail _ _ (Value.ref _) (Value.int _ _)) _ _ _); with_unfolding_all refine' item_held ?k1 ?k2 ?k3 ?k4 ?k5 ?k6 ?k7 ?k8 ?k9 ?_ ?k10; (case k1 => assumption); (case k2 => k_asm); (case k3 => k_asm); (case k4 => k_asm); (case k5 => kcj_all); (case k6 => decide); (case k7 => decide); (case k8 => exact rfl); (case k9 => exact rfl); (case k10 => with_unfolding_all rfl); k_whole))
    k_with "call ref" => (rw [max_abs]; ((refine' Call.use (bits_of_spec w _ _ _ (Nat.le_max_right c.natAbs 1)) ?k1 ?k2 ?k3 ?k4 ?k5 ?kK ?kd ?ku ?_; (case k1 => k_asm); (case k2 => k_asm); (case k3 => k_asm); (case k4 => k_asm); (case k5 => k_asm); (case kK => first | exact rfl | assumption); (case kd => ktr_room); (case ku => ktr_units); (try dsimp only); (intros); (try dsimp only); (try k_fold))))
    k_steps
    exact hQ _ _ _ (by k_asm) (by k_asm)
  case fin =>
    intro D h tk t1 t2 F1 N1
    clear FW NW
    k_with_none
    k_with "zz1" => first | (refine' all_ne ?zz1_x9 ?zz1_y9; (case zz1_x9 => assumption); (case zz1_y9 => ((try dsimp only); omega))) | (refine' all_ne' ?zz1_x9 ?zz1_y9; (case zz1_x9 => assumption); (case zz1_y9 => ((try dsimp only); omega)))
    k_with "zz5" => ((with_reducible refine inCells ?_); name_kind "cell"; k_dflt (refine' ldCN ?zz5_N ?zz5_c ?zz5_m ?zz5_d ?_ ?zz5_a ?zz5_b; (case zz5_a => rfl); (case zz5_b => rfl); (case zz5_N => k_asm); (case zz5_c => rfl); (case zz5_m => (((repeat (first | with_reducible assumption | with_reducible exact List.mem_cons_self | with_reducible refine List.mem_cons_of_mem _ ?_)); done))); (case zz5_d => with_reducible assumption)))
    k_with "call ref" => (k_dflt (refine StopHere.out ?_))
    k_with "my display" => ((try k_fold); (k_dflt (refine' Dict_sum ?q0 ?q1 ?q2 ?q3 (TopRead.nolimit (by k_asm)) ?q5 ?q6 ?q7 ?q8 ?_; (case q2 => k_asm); (case q3 => k_asm); (case q1 => k_asm); (case q0 => ktr_units); (case q5 => rfl); (case q6 => rfl); (case q7 => exact List.cons_ne_nil _ _); (case q8 => exact Nat.le_of_ble_eq_true rfl))); intro dS hS FS NS lS SS)
    k_with "my made" => ((k_dflt (refine ⟨[((0, 0), 1)], _, FS, NS, SS, ⟨⟨87, 50, rfl, rfl, still_at w _, ratAt_R1 w _⟩, trivial⟩, ?_⟩)); intro hM tkM nM FM NM SM stM; (try k_fold))
    k_with "my for" => (k_dflt (refine StopHere.out ?_))
    k_with "binaryOp Mult int int" => (refine mul_int ?_ (.of_left (intBits_le (by omega))))
    k_with "my raise" => (exact (too_long b1 b2 h2 (by assumption) (by assumption)).elim)
    k_steps
    all_goals (unfold StopHere)
    all_goals (have hcM : (LF + 1, oC) ∈ nM := stM.2 (LF + 1, oC) (by (((repeat (first | with_reducible assumption | with_reducible exact List.mem_cons_self | with_reducible refine List.mem_cons_of_mem _ ?_)); done))) (Nat.ne_of_lt (lS (LF + 1, oC) (by (((repeat (first | with_reducible assumption | with_reducible exact List.mem_cons_self | with_reducible refine List.mem_cons_of_mem _ ?_)); done))))))
    all_goals (refine wpAny_For ?_ (by intro _; rfl))
    all_goals (k_steps)
    · rename IsRange _ _ _ _ _ _ _ _ => hr
      rename Fr gF LF _ _ => F2
      rename News gF LF _ nM => N2
      have hSn : ∀ p ∈ nM, p.1 ≠ 0 → True := fun _ _ _ => trivial
      refine' for_range (D₀ := 0) ?_A1 ?_B1 ?_C1 ?_D1 ?_F1 ?_N1 hr ?_n1 ?_z1 (fun I hI hI0 => ?_T1)
      case _N1 => exact N2
      case _F1 => exact F2
      case _A1 => rfl
      case _B1 => rfl
      case _C1 => rfl
      case _D1 => rfl
      case _n1 => omega
      case _z1 => exact Nat.lt_of_le_of_lt (Nat.zero_le _) (Heap.lt_size (N2 _ hcM).1)
      have hdI : d ≠ I := let ⟨_, _, _, q, _⟩ := S; Nat.ne_of_lt (hI _ (stM.2 _ (in4 _ q) (Nat.ne_of_lt (lS _ (in3 _ q)))))
      have hsN : ∀ p ∈ news, p ∈ nM := fun p hp => stM.2 _ (in4 _ hp) (Nat.ne_of_lt (lS _ (in3 _ hp)))
      have hdS : dS ≠ I := let ⟨_, _, _, q, _⟩ := SM; Nat.ne_of_lt (hI _ q)
      refine ⟨fun i m₁ n₁ => ∃ D', (∃ f : Str → Option Value, m₁ = fun u => if u = Str.ofString "found" then some (.ref D') else if u = Str.ofString "a" then some (.ref d) else f u) ∧
        SumAt w n₁ D' (powL [e1, e2] i) ∧ SumAt w n₁ d [e1, e2] ∧ D' ≠ I ∧ (∀ p ∈ news, p.1 < D') ∧ ∀ p ∈ news, p ∈ n₁, ?stable1, ?start1, ?turn1, ?done1⟩
      case stable1 =>
        rintro i m₁ n₁ n₂ ⟨D', hf, S1, S2, hDI, hlt, hsub⟩ st
        exact ⟨D', hf, S1.stp st hDI, S2.stp st hdI, hDI, hlt, fun p hp => st.2 _ (hsub p hp) (Nat.ne_of_lt (hI _ (hsN _ hp)))⟩
      case start1 => exact ⟨dS, canon2 rfl rfl, SM, (S.mono in4).stp stM (let ⟨_, _, _, q, _⟩ := S; Nat.ne_of_lt (lS _ (in3 _ q))), hdS, fun p hp => lS _ (in3 _ hp), hsN⟩
      case done1 =>
        rintro m₁ n₁ h tk ⟨D', ⟨f, rfl⟩, S1, S2, hDI, hlt, hsub⟩ F3 N3
        clear F2 N2
        dsimp only
        k_steps
        exact hret _ _ hsub hlt S1 _ _ (by k_asm) (by k_asm)
      case turn1 =>
        rintro i t m₁ n₁ h tk hi ⟨D', ⟨f, rfl⟩, S1, S2, hDI, hlt, hsub⟩ ⟨oI, hIn⟩ F3 N3
        clear F2 N2
        have hl := hlen i hi
        show wpAny _ _ _ _ _ _
        k_fold
        k_with_none
        k_with "zz1" => first | (refine' all_ne ?zz1_x9 ?zz1_y9; (case zz1_x9 => assumption); (case zz1_y9 => ((try dsimp only); omega))) | (refine' all_ne' ?zz1_x9 ?zz1_y9; (case zz1_x9 => assumption); (case zz1_y9 => ((try dsimp only); omega)))
        k_with "zz5" => ((with_reducible refine inCells ?_); name_kind "cell"; k_dflt (refine' ldCN ?zz5_N ?zz5_c ?zz5_m ?zz5_d ?_ ?zz5_a ?zz5_b; (case zz5_a => rfl); (case zz5_b => rfl); (case zz5_N => k_asm); (case zz5_c => rfl); (case zz5_m => (((repeat (first | with_reducible assumption | with_reducible exact List.mem_cons_self | with_reducible refine List.mem_cons_of_mem _ ?_)); done))); (case zz5_d => with_reducible assumption)))
        k_with "call builtin:len" => ((refine' len_sum ?k1 S1 ?k3 ?_; (case k1 => k_asm); (case k3 => omega)); intros)
        k_with "my raise" => (exfalso; omega)
        k_with "call ref" => (((refine' Call.use (gmul_spec w _ _ _ _ _ S1 S2 hl (by simp) (hmul i hi)) ?k1 ?k2 ?k3 ?k4 ?k5 ?kK ?kd ?ku ?_; (case k1 => k_asm); (case k2 => k_asm); (case k3 => k_asm); (case k4 => k_asm); (case k5 => k_asm); (case kK => first | exact rfl | assumption); (case kd => ktr_room); (case ku => ktr_units); (try dsimp only); (intros); (try dsimp only); (try k_fold))); rename_i Dg ng hsg hlg Sg hgh hgtk Fg Ng)
        k_steps
        exact TurnEnd.intro (by k_asm) (by k_asm) (Stp.of hsg) ⟨Dg, canon2 rfl rfl, Sg, S2.mono hsg, Nat.ne_of_gt (hlg _ hIn), fun p hp => hlg _ (hsub _ hp), fun p hp => hsg _ (hsub _ hp)⟩
    · rename IsRange _ _ _ _ _ _ _ _ => hr
      rename Fr gF LF _ _ => F2
      rename News gF LF _ nM => N2
      have hSn : ∀ p ∈ nM, p.1 ≠ 0 → True := fun _ _ _ => trivial
      refine' for_range (D₀ := 0) ?_A2 ?_B2 ?_C2 ?_D2 ?_F2 ?_N2 hr ?_n2 ?_z2 (fun I hI hI0 => ?_T2)
      case _N2 => exact N2
      case _F2 => exact F2
      case _A2 => rfl
      case _B2 => rfl
      case _C2 => rfl
      case _D2 => rfl
      case _n2 => omega
      case _z2 => exact Nat.lt_of_le_of_lt (Nat.zero_le _) (Heap.lt_size (N2 _ hcM).1)
      have hdI : d ≠ I := let ⟨_, _, _, q, _⟩ := S; Nat.ne_of_lt (hI _ (stM.2 _ (in4 _ q) (Nat.ne_of_lt (lS _ (in3 _ q)))))
      have hsN : ∀ p ∈ news, p ∈ nM := fun p hp => stM.2 _ (in4 _ hp) (Nat.ne_of_lt (lS _ (in3 _ hp)))
      have hdS : dS ≠ I := let ⟨_, _, _, q, _⟩ := SM; Nat.ne_of_lt (hI _ q)
      refine ⟨fun i m₁ n₁ => ∃ D', (∃ f : Str → Option Value, m₁ = fun u => if u = Str.ofString "found" then some (.ref D') else if u = Str.ofString "a" then some (.ref d) else f u) ∧
        SumAt w n₁ D' (powL [e1, e2] i) ∧ SumAt w n₁ d [e1, e2] ∧ D' ≠ I ∧ (∀ p ∈ news, p.1 < D') ∧ ∀ p ∈ news, p ∈ n₁, ?stable2, ?start2, ?turn2, ?done2⟩
      case stable2 =>
        rintro i m₁ n₁ n₂ ⟨D', hf, S1, S2, hDI, hlt, hsub⟩ st
        exact ⟨D', hf, S1.stp st hDI, S2.stp st hdI, hDI, hlt, fun p hp => st.2 _ (hsub p hp) (Nat.ne_of_lt (hI _ (hsN _ hp)))⟩
      case start2 => exact ⟨dS, canon2 rfl rfl, SM, (S.mono in4).stp stM (let ⟨_, _, _, q, _⟩ := S; Nat.ne_of_lt (lS _ (in3 _ q))), hdS, fun p hp => lS _ (in3 _ hp), hsN⟩
      case done2 =>
        rintro m₁ n₁ h tk ⟨D', ⟨f, rfl⟩, S1, S2, hDI, hlt, hsub⟩ F3 N3
        clear F2 N2
        dsimp only
        k_steps
        exact hret _ _ hsub hlt S1 _ _ (by k_asm) (by k_asm)
      case turn2 =>
        rintro i t m₁ n₁ h tk hi ⟨D', ⟨f, rfl⟩, S1, S2, hDI, hlt, hsub⟩ ⟨oI, hIn⟩ F3 N3
        clear F2 N2
        have hl := hlen i hi
        show wpAny _ _ _ _ _ _
        k_fold
        k_with_none
        k_with "zz1" => first | (refine' all_ne ?zz1_x9 ?zz1_y9; (case zz1_x9 => assumption); (case zz1_y9 => ((try dsimp only); omega))) | (refine' all_ne' ?zz1_x9 ?zz1_y9; (case zz1_x9 => assumption); (case zz1_y9 => ((try dsimp only); omega)))
        k_with "zz5" => ((with_reducible refine inCells ?_); name_kind "cell"; k_dflt (refine' ldCN ?zz5_N ?zz5_c ?zz5_m ?zz5_d ?_ ?zz5_a ?zz5_b; (case zz5_a => rfl); (case zz5_b => rfl); (case zz5_N => k_asm); (case zz5_c => rfl); (case zz5_m => (((repeat (first | with_reducible assumption | with_reducible exact List.mem_cons_self | with_reducible refine List.mem_cons_of_mem _ ?_)); done))); (case zz5_d => with_reducible assumption)))
        k_with "call builtin:len" => ((refine' len_sum ?k1 S1 ?k3 ?_; (case k1 => k_asm); (case k3 => omega)); intros)
        k_with "my raise" => (exfalso; omega)
        k_with "call ref" => (((refine' Call.use (gmul_spec w _ _ _ _ _ S1 S2 hl (by simp) (hmul i hi)) ?k1 ?k2 ?k3 ?k4 ?k5 ?kK ?kd ?ku ?_; (case k1 => k_asm); (case k2 => k_asm); (case k3 => k_asm); (case k4 => k_asm); (case k5 => k_asm); (case kK => first | exact rfl | assumption); (case kd => ktr_room); (case ku => ktr_units); (try dsimp only); (intros); (try dsimp only); (try k_fold))); rename_i Dg ng hsg hlg Sg hgh hgtk Fg Ng)
        k_steps
        exact TurnEnd.intro (by k_asm) (by k_asm) (Stp.of hsg) ⟨Dg, canon2 rfl rfl, Sg, S2.mono hsg, Nat.ne_of_gt (hlg _ hIn), fun p hp => hlg _ (hsub _ hp), fun p hp => hsg _ (hsub _ hp)⟩
end Mine
end

-- C14
section
theorem Mine.zz_C14 : True := by
  k_with_none
  k_with "zz1" => first | (refine' all_ne ?zz1_x9 ?zz1_y9; (case zz1_x9 => assumption); (case zz1_y9 => ((try dsimp only); omega))) | (refine' all_ne' ?zz1_x9 ?zz1_y9; (case zz1_x9 => assumption); (case zz1_y9 => ((try dsimp only); omega)))
  trivial
set_option maxRecDepth 100000
set_option maxHeartbeats 8000000
namespace Mine
noncomputable def PairAt (w : World) (news : List (Addr × Obj)) (q a b : Addr) : Prop := ∃ n, Held (Mine.hd.heap_39 w.params) news q (tupO [.ref a, .ref b] n)
theorem gratio_pos (w : World) (news) (q dt db : Addr) (e1 e2 : GK × Int) (kb : GK) (n : Nat) (t : Tok) (P : PairAt w news q dt db) (S : SumAt w news dt [e1, e2]) (Sb : SumAt w news db [(kb, 1)]) (h1 : 1 ≤ n) (h2 : n ≤ 3) (b1 : bitsI e1.2 ≤ 60000) (b2 : bitsI e2.2 ≤ 60000)
    (hlen : ∀ i, i < n → (powL [e1, e2] i).length ≤ 100) (hmul : ∀ i, i < n → ∀ e ∈ powL [e1, e2] i, ∀ f ∈ [e1, e2], e.2 * f.2 ≠ 0 ∧ IntMulOk e.2 f.2) (hx : IntMulOk kb.1 n) (hc : IntMulOk kb.2 n) : Call w 125 14 270 news [.ref q, .int (n : Int) t]
    (fun R => ∀ D A B news', (∀ p ∈ news, p ∈ news') → (∀ p ∈ news, p.1 < D) → PairAt w news' D A B → SumAt w news' A (powL [e1, e2] n) → SumAt w news' B [((kb.1 * n, kb.2 * n), 1)] → R (.ref D) news') := by
  intro p loose mean mg mb dp un gd cn cs a ccd cl outer A₀ base h₀ L m s Q E B F X N T hk hd hu hret
  obtain ⟨n1, hq⟩ := P
  refine wpAny_call ?_
  k_dflt ktr_enter
  k_with_none
  k_with "zz1" => first | (refine' all_ne ?zz1_x9 ?zz1_y9; (case zz1_x9 => assumption); (case zz1_y9 => ((try dsimp only); omega))) | (refine' all_ne' ?zz1_x9 ?zz1_y9; (case zz1_x9 => assumption); (case zz1_y9 => ((try dsimp only); omega)))
  k_with "my display" => (exfalso; omega)
  k_with "my unpack" => (k_dflt (refine' unpackN_ (items := #[.ref dt, .ref db]) ?F ?N ⟨_, hq.get ?X ?F2 ?N2, rfl, n1, rfl⟩ rfl rfl rfl ?_; (case F => k_asm); (case N => k_asm); (case X => k_asm); (case F2 => k_asm); (case N2 => k_asm)); intro hU FU NU)
  k_with "subscriptTail" => ((k_here; (with_reducible show wpAny _ _ (subscriptTail _ _ (Value.ref _) (Value.int _ _)) _ _ _); with_unfolding_all refine' item_held ?k1 ?k2 ?k3 ?k4 ?k5 ?k6 ?k7 ?k8 ?k9 ?_ ?k10; (case k1 => assumption); (case k2 => k_asm); (case k3 => k_asm); (case k4 => k_asm); (case k5 => kcj_all); (case k6 => decide); (case k7 => decide); (case k8 => exact rfl); (case k9 => exact rfl); (case k10 => with_unfolding_all rfl); k_whole))
  k_with "call ref" => (first | (((refine' Call.use (gpower_two w _ _ _ _ _ _ S h1 h2 b1 b2 hlen hmul) ?k1 ?k2 ?k3 ?k4 ?k5 ?kK ?kd ?ku ?_; (case k1 => k_asm); (case k2 => k_asm); (case k3 => k_asm); (case k4 => k_asm); (case k5 => k_asm); (case kK => first | exact rfl | assumption); (case kd => ktr_room); (case ku => ktr_units); (try dsimp only); (intros); (try dsimp only); (try k_fold))); rename_i dA nA sA lA SA hhA tkA FA NA) | (((refine' Call.use (gpower_one w _ _ _ _ _ (Sb.mono sA) (by omega) (by omega) hx hc) ?k1 ?k2 ?k3 ?k4 ?k5 ?kK ?kd ?ku ?_; (case k1 => k_asm); (case k2 => k_asm); (case k3 => k_asm); (case k4 => k_asm); (case k5 => k_asm); (case kK => first | exact rfl | assumption); (case kd => ktr_room); (case ku => ktr_units); (try dsimp only); (intros); (try dsimp only); (try k_fold))); rename_i dB nB sB lB SB hhB tkB FB NB))
  k_steps
  rename (∀ p ∈ nB, p.1 < _) => lD
  refine hret _ dA dB _ (fun p hp => .tail _ (sB _ (sA _ hp))) (fun p hp => lD _ (sB _ (sA _ hp))) ⟨0, .inr (.head _)⟩ ((SA.mono sB).mono allIn1) (SB.mono allIn1) _ _ ?_ ?_
  · k_asm
  · k_asm
theorem abs_neg (n : Nat) : (if 0 - (n : Int) < 0 then -(0 - (n : Int)) else 0 - (n : Int)) = (n : Int) := by split <;> omega
theorem gratio_neg (w : World) (news) (q dt db : Addr) (e1 e2 : GK × Int) (kb : GK) (n : Nat) (t : Tok) (P : PairAt w news q dt db) (S : SumAt w news dt [e1, e2]) (Sb : SumAt w news db [(kb, 1)]) (h1 : 1 ≤ n) (h2 : n ≤ 3) (b1 : bitsI e1.2 ≤ 60000) (b2 : bitsI e2.2 ≤ 60000)
    (hlen : ∀ i, i < n → (powL [e1, e2] i).length ≤ 100) (hmul : ∀ i, i < n → ∀ e ∈ powL [e1, e2] i, ∀ f ∈ [e1, e2], e.2 * f.2 ≠ 0 ∧ IntMulOk e.2 f.2) (hx : IntMulOk kb.1 n) (hc : IntMulOk kb.2 n) : Call w 125 14 270 news [.ref q, .int (0 - (n : Int)) t]
    (fun R => ∀ D A B news', (∀ p ∈ news, p ∈ news') → (∀ p ∈ news, p.1 < D) → PairAt w news' D B A → SumAt w news' A (powL [e1, e2] n) → SumAt w news' B [((kb.1 * n, kb.2 * n), 1)] → R (.ref D) news') := by
  intro p loose mean mg mb dp un gd cn cs a ccd cl outer A₀ base h₀ L m s Q E B F X N T hk hd hu hret
  obtain ⟨n1, hq⟩ := P
  refine wpAny_call ?_
  k_dflt ktr_enter
  k_with_none
  k_with "zz1" => first | (refine' all_ne ?zz1_x9 ?zz1_y9; (case zz1_x9 => assumption); (case zz1_y9 => ((try dsimp only); omega))) | (refine' all_ne' ?zz1_x9 ?zz1_y9; (case zz1_x9 => assumption); (case zz1_y9 => ((try dsimp only); omega)))
  k_with "my display" => (exfalso; omega)
  k_with "my unpack" => (k_dflt (refine' unpackN_ (items := #[.ref dt, .ref db]) ?F ?N ⟨_, hq.get ?X ?F2 ?N2, rfl, n1, rfl⟩ rfl rfl rfl ?_; (case F => k_asm); (case N => k_asm); (case X => k_asm); (case F2 => k_asm); (case N2 => k_asm)); intro hU FU NU)
  k_with "subscriptTail" => ((k_here; (with_reducible show wpAny _ _ (subscriptTail _ _ (Value.ref _) (Value.int _ _)) _ _ _); with_unfolding_all refine' item_held ?k1 ?k2 ?k3 ?k4 ?k5 ?k6 ?k7 ?k8 ?k9 ?_ ?k10; (case k1 => assumption); (case k2 => k_asm); (case k3 => k_asm); (case k4 => k_asm); (case k5 => kcj_all); (case k6 => decide); (case k7 => decide); (case k8 => exact rfl); (case k9 => exact rfl); (case k10 => with_unfolding_all rfl); k_whole))
  k_with "call ref" => (first | (rw [abs_neg n]; ((refine' Call.use (gpower_two w _ _ _ _ _ _ ((S.mono allIn1).mono sB) h1 h2 b1 b2 hlen hmul) ?k1 ?k2 ?k3 ?k4 ?k5 ?kK ?kd ?ku ?_; (case k1 => k_asm); (case k2 => k_asm); (case k3 => k_asm); (case k4 => k_asm); (case k5 => k_asm); (case kK => first | exact rfl | assumption); (case kd => ktr_room); (case ku => ktr_units); (try dsimp only); (intros); (try dsimp only); (try k_fold))); rename_i dA nA sA lA SA hhA tkA FA NA) | (rw [abs_neg n]; ((refine' Call.use (gpower_one w _ _ _ _ _ (Sb.mono allIn1) (by omega) (by omega) hx hc) ?k1 ?k2 ?k3 ?k4 ?k5 ?kK ?kd ?ku ?_; (case k1 => k_asm); (case k2 => k_asm); (case k3 => k_asm); (case k4 => k_asm); (case k5 => k_asm); (case kK => first | exact rfl | assumption); (case kd => ktr_room); (case ku => ktr_units); (try dsimp only); (intros); (try dsimp only); (try k_fold))); rename_i dB nB sB lB SB hhB tkB FB NB))
  k_steps
  rename (∀ p ∈ nA, p.1 < _) => lD
  have sN : ∀ p ∈ news, p ∈ nA := fun p hp => sA _ (sB _ (.tail _ hp))
  refine hret _ dA dB _ (fun p hp => .tail _ (sN _ hp)) (fun p hp => lD _ (sN _ hp)) ⟨0, .inr (.head _)⟩ (SA.mono allIn1) ((SB.mono sA).mono allIn1) _ _ ?_ ?_
  · k_asm
  · k_asm
end Mine
end

-- D9
section
theorem Mine.zz_D9 : True := by
  k_with_none
  trivial
set_option maxRecDepth 100000
set_option maxHeartbeats 4000000
namespace Mine
/-- an exception on its way: its object is `o` but for the record's fields, its first field is `a0`, its newest entry's mark is `fl` -/
noncomputable def XAt (h base : Heap) (e : Addr) (o : Obj) (a0 fl : Value) : Prop :=
  ∃ vs T oT ts, h.get? e = some { o with data := .fields vs } ∧ vs[0]? = some a0 ∧ vs[1]? = some (.ref T) ∧ base.get? T = none ∧ T ≠ e ∧ h.get? T = some oT ∧ oT.data = .fields ts ∧ ts[3]? = some fl
noncomputable def XFly (base : Heap) (l : List Env) (e : Addr) (o : Obj) (a0 fl : Value) (h : Heap) : Prop :=
  base.StaysIn h ∧ base.get? e = none ∧ h.FunFrames base l ∧ XAt h base e o a0 fl
section
variable {M : Model} {A : Around} {E : Value → Shared → Prop} {s : Shared} {base : Heap} {env : Env} {outer : List Env} {L e : Addr} {o : Obj} {vs : Array Value} {a0 fl : Value} {Q : Unit → Shared → Prop}
theorem obj_fields {f : Array Value → Array Value} : Obj.mapFields f { o with data := .fields vs } = { o with data := .fields (f vs) } := rfl

theorem entryX {head : Value} {hadNext : Bool} (hfr : A.frames = some (env :: outer)) (hl : s.heap.FunFrames base (env :: outer)) (hf : env.frame = some L)
    (he : s.heap.get? e = some { o with data := .fields vs }) (hkb : base.StaysIn s.heap) (hen : base.get? e = none) (hsz : 1 < vs.size) (h0 : vs[0]? = some a0)
    (h : ∀ h', XFly base (env :: outer) e o a0 (rawInt L) h' → s.heap.UpToSlots h' → Q () { s with heap := h' }) :
    wpAny M A (do let a ← frameOf env; let pl ← entryPlaceOf L hadNext; let b ← EntryCells.newEntry head a .none (rawInt L) .none pl; setField (.ref e) 1 b) Q E s := by
  have hene : e ∉ (env :: outer).filterMap (·.frame) := fun hm => by
    obtain ⟨_, o', ho, hnf⟩ := hl.mem hm
    rw [he] at ho; injection ho with ho; subst ho; exact hnf vs rfl
  refine wpAny_bind (wpAny_frameOf_fun hfr hl hf fun h₁ hs₁ => wpAny_bind (wpAny_entryPlaceOf fun pl hpl => ?_))
  unfold EntryCells.newEntry newFields
  refine wpAny_bind (wpAny_newObj_type ?_ (hpl.sizeOk5 _ _ _ _ _))
  generalize hTo : ({ cls := .type "traceback", dict := none, data := .fields ([head, .ref L, .none, rawInt L, .none] ++ (if pl.isEmpty then List.replicate 6 Value.none else pl)).toArray } : Obj) = To
  have he₁ : h₁.get? e = some { o with data := .fields vs } := (hs₁.2.1 e hene).trans he
  have kb₁ : base.StaysIn h₁ := fun b x hb => (hs₁.2.1 b fun hm => by rw [(hl.mem hm).1] at hb; cases hb).trans (hkb b x hb)
  have he₂ : (h₁.push To).get? e = some { o with data := .fields vs } := Heap.get?_push_of_some To he₁
  have hTe : h₁.objs.size ≠ e := Nat.ne_of_gt (Heap.lt_size he₁)
  refine wpAny_setField he₂ rfl hsz (h _ ⟨fun b x hb => ?_, hen, hl.of_keeps fun b x hb hnf => ?_, ?_⟩ fun b x hb hnf => ?_)
  · rw [Heap.get?_update_other _ _ (fun q => by rw [← q, hen] at hb; cases hb)]
    exact Heap.get?_push_of_some _ (kb₁ b x hb)
  · obtain ⟨sl, hs⟩ := hs₁.2.2 b x hb
    refine ⟨_, (Heap.get?_update_other _ _ fun q => ?_).trans (Heap.get?_push_of_some _ hs), rfl⟩
    rw [← q, he] at hb; injection hb with hb; subst hb; exact hnf vs rfl
  · refine ⟨_, h₁.objs.size, To, _, Heap.get?_update_self _ he₂ (Obj.isFreed_of_fields rfl), ?_, ?_, kb₁.fresh, hTe, ?_, (by rw [← hTo]), ?_⟩
    · rw [Array.getElem?_setIfInBounds_ne (by decide)]; exact h0
    · simp [hsz]
    · exact (Heap.get?_update_other _ _ (Ne.symm hTe)).trans (Heap.get?_push_size h₁ (by rw [← hTo]; rfl))
    · rcases hpl with rfl | ⟨_, _, _, _, _, _, _, rfl⟩ <;> simp
  · obtain ⟨sl, hs⟩ := hs₁.2.2 b x hb
    refine ⟨sl, (Heap.get?_update_other _ _ fun q => ?_).trans (Heap.get?_push_of_some _ hs)⟩
    rw [← q, he] at hb; injection hb with hb; subst hb; exact hnf vs rfl

theorem landX {l : List Env} (x : XFly base l e o a0 fl s.heap) (h : ∀ h', XFly base l e o a0 .none h' → s.heap.UpToSlots h' → Q () { s with heap := h' }) : wpAny M A (setFlight (.ref e) none) Q E s := by
  obtain ⟨k1, k2, k3, vs, T, oT, ts, he, h0, h1, hnT, hTe, hT, hdT, h3⟩ := x
  have hsz3 : 3 < ts.size := (Array.getElem?_eq_some_iff.mp h3).1
  unfold setFlight
  refine wpAny_bind (wpAny_field he rfl h1 ?_)
  rw [if_pos (show (Value.ref T != Value.none) = true from by simp)]
  have other : ∀ b, b ≠ T → (s.heap.update T (Obj.mapFields (·.setIfInBounds 3 ((none : Option Addr).elim Value.none fun f => rawInt f)))).get? b = s.heap.get? b := fun b hb => Heap.get?_update_other _ _ (Ne.symm hb)
  have plain : ∀ b x, s.heap.get? b = some x → (∀ vs, x.data ≠ .fields vs) → b ≠ T := fun b x hb hnf q => by
    rw [q, hT] at hb; injection hb with hb; subst hb; exact hnf ts hdT
  refine wpAny_setField hT hdT hsz3 (h _ ⟨fun b x hb => (other b fun q => by rw [q, hnT] at hb; cases hb).trans (k1 b x hb), k2, k3.of_keeps fun b x hb hnf => ⟨x, (other b (plain b x hb hnf)).trans hb, rfl⟩, ?_⟩
    fun b x hb hnf => ⟨x.slots, (other b (plain b x hb hnf)).trans hb⟩)
  exact ⟨vs, T, _, _, (other e (Ne.symm hTe)).trans he, h0, h1, hnT, hTe, Heap.get?_update_self _ hT (Obj.isFreed_of_fields (Obj.data_mapFields hdT _)), Obj.data_mapFields hdT _, by simp [hsz3]⟩

/-- the frame is noted at an exception that came here -/
theorem noteX (hfr : A.frames = some (env :: outer)) (hf : env.frame = some L) (x : XFly base (env :: outer) e o a0 .none s.heap)
    (h : ∀ h', XFly base (env :: outer) e o a0 (rawInt L) h' → s.heap.UpToSlots h' → Q () { s with heap := h' }) : wpAny M A (noteFrame (.ref e) env) Q E s := by
  obtain ⟨k1, k2, k3, vs, T, oT, ts, he, h0, h1, hnT, hTe, hT, hdT, h3⟩ := x
  unfold noteFrame
  simp only [hf]
  refine wpAny_bind (wpAny_field he rfl h1 ?_)
  rw [if_pos (show (Value.ref T != Value.none) = true from by simp)]
  refine wpAny_bind (wpAny_field hT hdT h3 ?_)
  rw [if_neg (show ¬ ((Value.none == rawInt L) = true) from by simp [rawInt])]
  have other : ∀ b, b ≠ T → (s.heap.update T (Obj.mapFields (·.setIfInBounds 3 Value.none))).get? b = s.heap.get? b := fun b hb => Heap.get?_update_other _ _ (Ne.symm hb)
  have plain : ∀ b x, s.heap.get? b = some x → (∀ vs, x.data ≠ .fields vs) → b ≠ T := fun b x hb hnf q => by
    rw [q, hT] at hb; injection hb with hb; subst hb; exact hnf ts hdT
  refine wpAny_bind (wpAny_setField hT hdT (Array.getElem?_eq_some_iff.mp h3).1 ?_)
  refine entryX hfr (k3.of_keeps fun b x hb hnf => ⟨x, (other b (plain b x hb hnf)).trans hb, rfl⟩) hf ((other e (Ne.symm hTe)).trans he) (fun b x hb => (other b fun q => by rw [q, hnT] at hb; cases hb).trans (k1 b x hb)) k2
    (Array.getElem?_eq_some_iff.mp h1).1 h0 fun h' fx ux => h h' fx fun b x hb hnf => ux b x ((other b (plain b x hb hnf)).trans hb) hnf

theorem XFly.up {l : List Env} (x : XFly base (env :: l) e o a0 fl s.heap) : XFly base l e o a0 fl s.heap := by
  obtain ⟨k1, k2, ⟨_, _, k3⟩, k4⟩ := x
  exact ⟨k1, k2, k3, k4⟩
/-- it leaves the frame that made it -/
theorem leaveX_first (hfr : A.frames = some (env :: outer)) (hf : env.frame = some L) (hl : s.heap.FunFrames base (env :: outer)) (he : s.heap.get? e = some { o with data := .fields vs }) (hkb : base.StaysIn s.heap) (hen : base.get? e = none)
    (h1 : vs[1]? = some .none) (h0 : vs[0]? = some a0) (h : ∀ h', XFly base outer e o a0 .none h' → s.heap.UpToSlots h' → Q () { s with heap := h' }) : wpAny M A (leaving env (.ref e)) Q E s := by
  unfold leaving
  refine wpAny_bind ?_
  unfold noteFrame
  simp only [hf]
  refine wpAny_bind (wpAny_field he rfl h1 ?_)
  rw [if_neg (by decide)]
  refine entryX hfr hl hf he hkb hen (Array.getElem?_eq_some_iff.mp h1).1 h0 fun h' fx ux => landX fx fun h2 fx2 ux2 => h h2 ?_ (ux.trans ux2)
  obtain ⟨k1, k2, ⟨_, _, k3⟩, k4⟩ := fx2
  exact ⟨k1, k2, k3, k4⟩
/-- it leaves a frame on its way -/
theorem leaveX_next (hfr : A.frames = some (env :: outer)) (hf : env.frame = some L) (x : XFly base (env :: outer) e o a0 .none s.heap)
    (h : ∀ h', XFly base outer e o a0 .none h' → s.heap.UpToSlots h' → Q () { s with heap := h' }) : wpAny M A (leaving env (.ref e)) Q E s := by
  unfold leaving
  refine wpAny_bind (noteX hfr hf x fun h' fx ux => landX fx fun h2 fx2 ux2 => h h2 ?_ (ux.trans ux2))
  obtain ⟨k1, k2, ⟨_, _, k3⟩, k4⟩ := fx2
  exact ⟨k1, k2, k3, k4⟩
end
end Mine
end

-- D10
section
theorem Mine.zz_D10 : True := by
  k_with_none
  trivial
set_option maxRecDepth 100000
set_option maxHeartbeats 4000000
namespace Mine
noncomputable def RaisedX (base : Heap) (l : List Env) (e : Addr) (o : Obj) (a0 : Value) (news : List (Addr × Obj)) (h : Heap) : Prop :=
  ∃ B, base.StaysIn B ∧ (∀ q ∈ news, B.get? q.1 = some q.2 ∧ base.get? q.1 = none) ∧ XFly B l e o a0 .none h
section
variable {M : Model} {A : Around} {E : Value → Shared → Prop} {s' : Shared} {base g h : Heap} {env : Env} {outer : List Env} {L e : Addr} {o : Obj} {vs : Array Value} {a0 : Value} {m : Str → Option Value} {news : List (Addr × Obj)} {Q : Unit → Shared → Prop}
theorem pushX (K : Below A base outer g) (F : Fr g L h m) (hk : env.scope.kind = .function) (hf : env.frame = some L) : h.FunFrames base (env :: outer) ∧ base.StaysIn h := by
  have hnew : base.get? L = none := by
    cases hq : base.get? L with
    | none => rfl
    | some o => exact absurd (Nat.lt_of_lt_of_le (Heap.lt_size (K.stays L o hq)) F.above) (Nat.lt_irrefl _)
  exact ⟨.cons (by rw [hk]; decide) hf F.ns hnew (K.frames.of_keeps fun b o e _ => ⟨o, F.keep b o e, rfl⟩), fun b o e => F.keep b o (K.stays b o e)⟩

theorem leave_raiseX (K : Below A base outer g) (F : Fr g L s'.heap m) (N : News g L s'.heap news) (he : s'.heap.get? e = some { o with data := .fields vs }) (hen : g.get? e = none) (hne : ∀ q ∈ news, q.1 ≠ e) (heL : e ≠ L)
    (h1 : vs[1]? = some .none) (h0 : vs[0]? = some a0) (hk : env.scope.kind = .function) (hf : env.frame = some L)
    (hQ : ∀ h', RaisedX base outer e o a0 news h' → g.UpToSlots h' → Q () { s' with heap := h' }) :
    wpAny M (A.deeper env) (leaving env (.ref e)) Q E s' := by
  obtain ⟨hfun, hst⟩ := pushX K F hk hf
  have hin : ∀ en ∈ (env :: outer), ∀ b, en.frame = some b → b ∈ e :: (env :: outer).filterMap (·.frame) := fun en he b hb => .tail _ (List.mem_filterMap.mpr ⟨en, he, hb⟩)
  have st : base.StaysIn (hideAll s'.heap (e :: (env :: outer).filterMap (·.frame))) := fun b x q => hideAll_get _ (hst b x q) fun hm => by
    rcases List.mem_cons.mp hm with rfl | hm
    · have := K.stays _ _ q; rw [hen] at this; cases this
    · rw [(hfun.mem hm).1] at q; cases q
  have hl : ∀ q ∈ news, (hideAll s'.heap (e :: (env :: outer).filterMap (·.frame))).get? q.1 = some q.2 ∧ base.get? q.1 = none := fun q hq => by
    refine ⟨hideAll_get _ (N q hq).1 fun hm => ?_, fresh_of_stays K.stays (N q hq).2.2⟩
    rcases List.mem_cons.mp hm with hm | hm
    · exact hne q hq hm
    · obtain ⟨en, hen', hfr⟩ := List.mem_filterMap.mp hm
      rcases List.mem_cons.mp hen' with rfl | hen'
      · rw [hf] at hfr
        exact (N q hq).2.1 (Option.some.inj hfr).symm
      · obtain ⟨x, hx, _⟩ := (K.frames.mem (List.mem_filterMap.mpr ⟨en, hen', hfr⟩)).2
        rw [(N q hq).2.2] at hx; cases hx
  exact leaveX_first (Around.frames_deeper K.stack) hf (funFrames_hide hfun hin) he (fun b x q => of_hideAll _ q) (hideAll_none _ (.head _)) h1 h0 fun h' fx ux =>
    hQ h' ⟨_, st, hl, fx⟩ ((Heap.UpToSlots.of_keeps F.keep).trans ux)

theorem leave_onX {g₂ : Heap} (K : Below A base outer g) (F : Fr g L g₂ m) (R : RaisedX base (env :: outer) e o a0 news s'.heap) (hsm : g₂.UpToSlots s'.heap) (hf : env.frame = some L)
    (hQ : ∀ h', RaisedX base outer e o a0 news h' → g.UpToSlots h' → Q () { s' with heap := h' }) :
    wpAny M (A.deeper env) (leaving env (.ref e)) Q E s' := by
  obtain ⟨B, hB, hl, fx⟩ := R
  exact leaveX_next (Around.frames_deeper K.stack) hf fx fun h' fx' ux => hQ h' ⟨B, hB, hl, fx'⟩ ((Heap.UpToSlots.of_keeps F.keep).trans (hsm.trans ux))
end
end Mine
end

-- D11
section
theorem Mine.zz_D11 : True := by
  k_with_none
  trivial
set_option maxRecDepth 100000
set_option maxHeartbeats 4000000
namespace Mine
section
variable {prog : Program} {w : World} {A : Around} {E : Value → Shared → Prop} {h : Heap} {g : Array GenState} {d : Drawn} {t : Nat} {os : OsState}
variable {nm q : Str} {C N : Addr} {bs bm : List Value} {hdct : Bool} {sn : List Str} {sub : List Value} {ab : Bool} {col : Option Bool} {dd : Option Addr} {k0 k1 k2 k3 k5 : Option Value} {B newId initId : String}
noncomputable abbrev exO (C a : Addr) : Obj := { cls := .ref C, data := .fields #[.ref a, .none, .none, .none, .bool false, .none] }
noncomputable abbrev mkE (h : Heap) (C : Addr) (rest : List Value) : Heap := (h.push { cls := .type "tuple", data := .seq rest.toArray }).push (exO C h.objs.size)

theorem type_call_excInit (F : ExcBaseFacts B newId initId bm) {mN : Str → Option Value} {rest : List Value} {fI : Addr} {oI : Obj} {Q : Fin → Shared → Prop}
    (hC : h.get? C = some (excClassObj nm q C N bs bm hdct sn sub ab col dd k0 k1 k2 k3 k5 newId)) (hn : h.Ns N mN) (hi : mN "__init__" = some (.ref fI)) (hfI : h.get? fI = some oI) (hfc : oI.cls = .type "function")
    (hq : wpAny (model prog w) A (call (.ref fI) (.ref (h.objs.size + 1) :: rest)) (fun r s' => r = .none ∧ Q (.done (.ret (.ref (h.objs.size + 1)))) s') E ⟨mkE h C rest, g, d, t, os⟩) (hrest : rest.length ≤ sizeLine) :
    wpAny (model prog w) A (Builtin.«type.__call__» ⟨.ref C :: rest, []⟩) Q E ⟨h, g, d, t, os⟩ := by
  repeat (first | with_reducible refine wpAny_loadPart_at hC ?_ | with_reducible refine wpAny_madeBy_exc hC ?_ | wp_step)
  refine codeAny_call_builtin_code (Code.quiet_builtin _ F.quiet) (wpAny_check_new_sub F hC ?_)
  refine codeAny_exc_new_sub F hC ?_ hrest
  show wpAny _ _ _ _ _ _
  have hC₁ : (mkE h C rest).get? C = _ := Heap.get?_push_of_some _ (Heap.get?_push_of_some _ hC)
  have hfI₁ : (mkE h C rest).get? fI = _ := Heap.get?_push_of_some _ (Heap.get?_push_of_some _ hfI)
  have hn₁ : (mkE h C rest).Ns N mN := let ⟨o, es, ep, e, r⟩ := hn; ⟨o, es, ep, Heap.get?_push_of_some _ (Heap.get?_push_of_some _ e), r⟩
  have hget : (mkE h C rest).get? (h.objs.size + 1) = some (exO C h.objs.size) := by heap_get
  have hcC : (Value.ref C :: bm).contains (.ref C) = true := by simp
  unfold isInstance
  repeat (first | with_reducible refine wpAny_loadPart_at hget ?_ | (with_reducible refine wpAny_isSubtype_exc hC₁ ?_; rw [hcC]) | wp_step)
  show wpAny _ _ (typeLookup (.ref C) _) _ _ _
  refine wpAny_typeLookup_exc hC₁ hn₁ F.mroIs F.init.lookup ?_
  rw [hi]
  refine wpAny_holding (wpAny_bind (wpAny_bindSpecial_def hfI₁ hfc (wpAny_bind (wpAny_mono hq (fun r s' hr => ?_) fun _ _ x => x))))
  obtain ⟨rfl, hQ⟩ := hr
  wp_walk
  exact hQ

theorem call_excInit (F : ExcBaseFacts B newId initId bm) {mN : Str → Option Value} {rest : List Value} {fI : Addr} {oI : Obj} {Q : Value → Shared → Prop}
    (hC : h.get? C = some (excClassObj nm q C N bs bm hdct sn sub ab col dd k0 k1 k2 k3 k5 newId)) (hn : h.Ns N mN) (hi : mN "__init__" = some (.ref fI)) (hfI : h.get? fI = some oI) (hfc : oI.cls = .type "function")
    (hq : wpAny (model prog w) (A.under (.builtin "type.__call__" ⟨.ref C :: rest, []⟩)) (call (.ref fI) (.ref (h.objs.size + 1) :: rest)) (fun r s' => r = .none ∧ Q (.ref (h.objs.size + 1)) s') E ⟨mkE h C rest, g, d, t, os⟩) (hrest : rest.length ≤ sizeLine) :
    wpAny (model prog w) A (call (.ref C) rest) Q E ⟨h, g, d, t, os⟩ := by
  have f1 := tc_lookup
  have f2 := tc_bind (.ref C)
  have hT : (⟨h, g, d, t, os⟩ : Shared).TypeIs (.ref C) "type" := ⟨_, hC, rfl⟩
  refine wpAny_call (codeAny_of_tree ?_)
  show wpAny _ _ (callAny (.ref C) _) _ _ _
  repeat (any_goals (first | assumption | with_reducible refine wpAny_loadPart_at hC ?_ | wp_step))
  refine ⟨rfl, ?_⟩
  exact codeAny_call_builtin_at (Code.quiet_builtin _ (by decide +kernel)) entry_typeCall (wpAny_check_type_call_sub hC (type_call_excInit F hC hn hi hfI hfc hq hrest))
end
end Mine
end

-- D12
section
theorem Mine.zz_D12 : True := by
  k_with_none
  trivial
set_option maxRecDepth 100000
set_option maxHeartbeats 4000000
namespace Mine
theorem refuse_exc (self : Value) (c : Addr) : refuseLoop self "__setattr__" [.ref c, .type "Exception", .type "BaseException", .type "object"] = pure () := by
  rw [refuseLoop_ref]
  kernel_rfl
end Mine
end

-- D13
section
theorem Mine.zz_D13 : True := by
  k_with_none
  trivial
set_option maxRecDepth 100000
set_option maxHeartbeats 4000000
namespace Mine
theorem cls31 {w : World} {h₀ h : Heap} {L : Addr} {m : Str → Option Value} (X : (Mine.hd.heap_39 w.params).In h₀) (F : Fr h₀ L h m) :
    ∃ nm q bs sn sub ab col dd k0 k1 k2 k3 k5, h.get? 31 = some (excClassObj nm q 31 30 bs [.type "Exception", .type "BaseException", .type "object"] true sn sub ab col dd k0 k1 k2 k3 k5 "Exception.__new__") :=
  ⟨_, _, _, _, _, _, _, _, _, _, _, _, _, F.keep _ _ (X _ _ rfl)⟩
theorem ns_some_of {K : Frag} {h : Heap} {N : Addr} {mg : Str → Option Value} {n : Str} {v : Value} (X : K.In h) (G : h.Ns N mg) (e : nsIn K N n = some (some v)) : mg n = some v := by
  obtain ⟨o, es, ep, ho, hd, _, hf⟩ := G
  unfold nsIn at e
  split at e
  · rename_i c d es' n' sl q
    have := X _ _ q
    rw [ho] at this
    cases this
    cases hd
    split at e
    · rename_i en he
      cases e
      rw [← hf]
      unfold nsFind findBy
      rw [← Array.find?_toList, he]
      rfl
    · split at e <;> cases e
  · cases e
theorem ns31 {w : World} {h₀ h : Heap} {L : Addr} {m : Str → Option Value} (X : (Mine.hd.heap_39 w.params).In h₀) (F : Fr h₀ L h m) :
    ∃ mN, h.Ns 30 mN ∧ mN "__init__" = some (.ref 28) ∧ mN "kind" = none ∧ mN "text" = none ∧ mN "__setattr__" = none ∧ mN "__getattribute__" = none ∧ mN "__getattr__" = none := by
  have hk : nsOkIn (Mine.hd.heap_39 w.params) 30 = true := by kernel_rfl
  have G : h.Ns 30 _ := .of_isNs (isNs_of_in (X.keeps F.keep) hk)
  refine ⟨_, G, ns_some_of (X.keeps F.keep) G (by kernel_rfl), ns_none_of (X.keeps F.keep) G (by kernel_rfl), ns_none_of (X.keeps F.keep) G (by kernel_rfl), ns_none_of (X.keeps F.keep) G (by kernel_rfl), ns_none_of (X.keeps F.keep) G (by kernel_rfl), ns_none_of (X.keeps F.keep) G (by kernel_rfl)⟩
end Mine
end

-- D14
section
theorem Mine.zz_D14 : True := by
  k_with_none
  trivial
set_option maxRecDepth 100000
set_option maxHeartbeats 4000000
namespace Mine
section
variable {prog : Program} {w : World} {A : Around} {E : Value → Shared → Prop} {h : Heap} {g : Array GenState} {d : Drawn} {t : Nat} {os : OsState}
variable {nm q : Str} {C N : Addr} {bs bm : List Value} {hdct : Bool} {sn : List Str} {sub : List Value} {ab : Bool} {col : Option Bool} {dd : Option Addr} {k0 k1 k2 k3 k5 : Option Value} {B newId initId : String}
theorem excInit_call (F : ExcBaseFacts B newId initId bm) {e a : Addr} {v : Value} {Q : Value → Shared → Prop}
    (hC : h.get? C = some (excClassObj nm q C N bs bm hdct sn sub ab col dd k0 k1 k2 k3 k5 newId)) (he : h.get? e = some (exO C a))
    (hq : ∀ h' b, h'.get? e = some (exO C b) → (∀ c o, c ≠ e → h.get? c = some o → h'.get? c = some o) → Q .none ⟨h', g, d, t, os⟩) :
    wpAny (model prog w) A (call (.builtin initId) [.ref e, v]) Q E ⟨h, g, d, t, os⟩ := by
  refine wpAny_call (codeAny_call_builtin F.init.plain F.initEntry (wpAny_check_init_sub F hC he rfl ?_))
  wp_walk
  have he₁ := Heap.get?_push_of_some { cls := .type "tuple", data := .seq [v].toArray } he
  refine hq _ h.objs.size (Heap.get?_update_self _ he₁ rfl) fun c o hce hc => ?_
  exact (Heap.get?_update_other _ _ (Ne.symm hce)).trans (Heap.get?_push_of_some _ hc)
theorem raise_made {M : Model} {s : Shared} {env : Env} {x : Sem Value} {Q : Flow → Shared → Prop} (hbase : bm.contains (.type "BaseException") = true) (hh : A.handled = none)
    (h : wpAny M A x (fun v s₁ => ∃ e b dx, v = .ref e ∧ s₁.heap.get? C = some (excClassObj nm q C N bs bm hdct sn sub ab col dd k0 k1 k2 k3 k5 newId) ∧
      s₁.heap.get? e = some { exO C b with dict := some dx } ∧ E (.ref e) s₁) E s) : wpAny M A (raiseStmt env (some x) none) Q E s := by
  have hcB : (Value.ref C :: bm).contains (.type "BaseException") = true := by rw [List.contains_cons, hbase, Bool.or_true]
  unfold raiseStmt
  refine wpAny_bind (wpAny_mono h (fun v s₁ h₁ => ?_) fun _ _ x => x)
  obtain ⟨e, b, dx, rfl, hC, he, hE⟩ := h₁
  obtain ⟨hp, g, d, tk, os⟩ := s₁
  repeat (first | with_reducible refine wpAny_loadPart_at he ?_ | with_reducible refine wpAny_loadPart_at hC ?_ | (with_reducible refine wpAny_isSubtype_exc hC ?_; rw [hcB]) | wp_step)
  exact wpAny_raiseNew_none hh hE
end
end Mine
end

-- D15
section
theorem Mine.zz_D15 : True := by
  k_with_none
  trivial
set_option maxRecDepth 100000
set_option maxHeartbeats 4000000
namespace Mine
section
variable {w : World} {A : Around} {E : Value → Shared → Prop} {s : Shared} {h₀ : Heap} {L e a : Addr} {m : Str → Option Value} {news : List (Addr × Obj)} {v : Value}
theorem excInit_K {Q : Value → Shared → Prop} (X : (Mine.hd.heap_39 w.params).In h₀) (F : Fr h₀ L s.heap m) (N : News h₀ L s.heap ((e, exO 31 a) :: news)) (hne : ∀ p ∈ news, p.1 ≠ e)
    (h : ∀ h' b, Fr h₀ L h' m → News h₀ L h' ((e, exO 31 b) :: news) → Q .none { s with heap := h' }) : wpAny (model PG w) A (call (.builtin "Exception.__init__") [.ref e, v]) Q E s := by
  obtain ⟨nm, q, bs, sn, sub, ab, col, dd, k0, k1, k2, k3, k5, hC⟩ := cls31 X F
  have he := N _ (.head _)
  obtain ⟨hp, g, d, t, os⟩ := s
  refine excInit_call PySem.F.excBase_Exception hC he.1 fun h' b he' hk => ?_
  have hL : L ≠ e := he.2.1.symm
  refine h h' b ?_ fun p hp => ?_
  · obtain ⟨oL, a1, a2, hoL, a3⟩ := F.ns
    refine ⟨⟨oL, a1, a2, hk _ _ hL hoL, a3⟩, fun c o eb => hk _ _ ?_ (F.keep c o eb), F.above⟩
    rintro rfl
    rw [he.2.2] at eb; cases eb
  · rcases List.mem_cons.mp hp with rfl | hp
    · exact ⟨he', he.2⟩
    · have q := N p (.tail _ hp)
      exact ⟨hk _ _ (hne p hp) q.1, q.2⟩
end
end Mine
end

-- D16
section
theorem Mine.zz_D16 : True := by
  k_with_none
  trivial
open Builtin Builtin.ObjectAttr
set_option maxRecDepth 100000
set_option maxHeartbeats 4000000
namespace Mine
section
variable {prog : Program} {w : World} {A : Around} {E : Value → Shared → Prop} {h : Heap} {g : Array GenState} {d : Drawn} {t : Nat} {os : OsState}
variable {nm q : Str} {C N x a : Addr} {bs bm : List Value} {sn : List Str} {sub : List Value} {ab : Bool} {col : Option Bool} {dd : Option Addr} {k0 k1 k2 k3 k5 : Option Value} {B newId sa owner : String} {mN : Str → Option Value} {name : Str} {v : Value}
/-- the first attribute of an own exception makes its dict: a new one -/
theorem first_entry {tk : Tok} {Q : Fin → Shared → Prop} (SF : StoreFacts B bm sa owner)
    (hC : h.get? C = some (excClassObj nm q C N bs bm true sn sub ab col dd k0 k1 k2 k3 k5 newId)) (hn : h.Ns N mN) (hna : mN name = none) (hB : typeLookup (.type B) name = pure none) (hx : h.get? x = some (exO C a))
    (hq : ∀ h' tk' dx, h.get? dx = none → dx ≠ x → h'.get? x = some { exO C a with dict := some dx } → h'.Ns1 dx (fun y => if y = name then some v else none) →
      (∀ b o, b ≠ x → h.get? b = some o → h'.get? b = some o) → Q (.done (.ret .none)) ⟨h', g, d, tk', os⟩) :
    wpAny (model prog w) A (Builtin.«object.__setattr__» ⟨[.ref x, .str name tk, v], []⟩) Q E ⟨h, g, d, t, os⟩ := by
  have pass := SF.passes (.ref x)
  have lt := Heap.lt_size hx
  obtain ⟨o, ho⟩ : ∃ o, o = exO C a := ⟨_, rfl⟩
  rw [← ho] at hx
  have oc : o.cls = .ref C := by rw [ho]
  have on : o.dict = none := by rw [ho]
  have od : o.data = .fields #[.ref a, .none, .none, .none, .bool false, .none] := by rw [ho]
  unfold Builtin.«object.__setattr__»
  repeat (first | rw [refuse_eq] | (rw [refuseLoop_ref, pass]) | (with_reducible refine wpAny_loadPart_at hx ?_; rw [oc]) | with_reducible refine wpAny_mroOf_exc hC ?_ | (with_reducible refine wpAny_typeLookup_exc hC hn SF.mro hB ?_; rw [hna]) | wp_step)
  rw [on, if_neg (by simp [typeHasDict]), od]
  have f1 := Heap.get?_push_of_some { cls := .type "dict", data := .dict #[] } hx
  refine wpAny_bind (wpAny_alloc' ?_)
  refine wpAny_bind (wpAny_update' f1 ?_)
  refine wpAny_pure ?_
  show wpAny _ _ (storeInDict h.objs.size (.str name tk) name v) _ _ _
  unfold storeInDict newKeyGuard
  refine wpAny_bind (wpAny_pure (wpAny_bind (wpAny_nsSet1 (Heap.Ns1.of_empty ⟨_, #[], _, (Heap.get?_update_ne _ _ _ _ (Nat.ne_of_gt lt)).trans (Heap.get?_push_at rfl rfl), rfl, fun e he => absurd he (by simp), fun _ => rfl⟩) fun h' n1 same => ?_)))
  obtain ⟨oD, esD, epD, e1, e2, e3⟩ := n1.count (Within.cons name v Within.nil)
  refine wpAny_bind (wpAny_lookBehind e1 (by rw [e2]; exact pastItsLine_dict (Nat.le_trans e3 (by rw [List.length_cons, List.length_nil, sizeLine_eq]; omega))) ?_)
  wp_walk
  refine hq h' _ h.objs.size (Heap.get?_none_of_le (Nat.le_refl _)) (Nat.ne_of_gt lt) ((same.2 x (Nat.ne_of_lt lt)).trans (ho ▸ Heap.get?_update_self _ f1 (by subst ho; rfl))) n1 fun b o hb ho => ?_
  exact (same.2 b (Nat.ne_of_lt (Heap.lt_size ho))).trans ((Heap.get?_update_ne _ _ _ _ hb).trans (Heap.get?_push_of_some _ ho))
theorem first_attr {Q : Unit → Shared → Prop} (SF : StoreFacts B bm sa owner)
    (hC : h.get? C = some (excClassObj nm q C N bs bm true sn sub ab col dd k0 k1 k2 k3 k5 newId)) (hn : h.Ns N mN) (hns : mN "__setattr__" = none) (hna : mN name = none) (hB : typeLookup (.type B) name = pure none) (hx : h.get? x = some (exO C a))
    (hq : ∀ h' tk' dx, h.get? dx = none → dx ≠ x → h'.get? x = some { exO C a with dict := some dx } → h'.Ns1 dx (fun y => if y = name then some v else none) →
      (∀ b o, b ≠ x → h.get? b = some o → h'.get? b = some o) → Q () ⟨h', g, d, tk', os⟩) :
    wpAny (model prog w) A (setAttr (.ref x) name v) Q E ⟨h, g, d, t, os⟩ := by
  have f3 := SF.slot.bind (.ref x)
  unfold setAttr callSpecial? specialOf
  repeat (any_goals (first | assumption | with_reducible refine wpAny_loadPart_at hx ?_ | (with_reducible refine wpAny_typeLookup_exc hC hn SF.mro SF.slot.lookup ?_; rw [hns]) | wp_step))
  refine codeAny_call_builtin SF.slot.plain SF.entry (wpAny_check_sa SF hC hx rfl (first_entry SF hC hn hna hB hx fun h' tk' dx a1 a2 a3 a4 a5 => ?_))
  repeat (any_goals (first | assumption | wp_step))
  exact hq h' tk' dx a1 a2 a3 a4 a5
end
section
variable {w : World} {A : Around} {E : Value → Shared → Prop} {s : Shared} {h₀ : Heap} {L e a dx : Addr} {m : Str → Option Value} {news : List (Addr × Obj)} {v : Value} {od : Obj} {n1 n2 : Str}
/-- what `Ns1` says is of the object alone -/
noncomputable def DictIs (o : Obj) (m : Str → Option Value) : Prop := ∃ es ep, o.data = .dict es ep ∧ StrKeys es ∧ UniqKeys es ∧ ∀ name, nsFind es name = m name
theorem ns1_of {h : Heap} {a : Addr} {o : Obj} {m : Str → Option Value} (e : h.get? a = some o) (x : DictIs o m) : h.Ns1 a m := let ⟨es, ep, r⟩ := x; ⟨o, es, ep, e, r⟩
theorem first_K {Q : Unit → Shared → Prop} (X : (Mine.hd.heap_39 w.params).In h₀) (F : Fr h₀ L s.heap m) (N : News h₀ L s.heap ((e, exO 31 a) :: news)) (hne : ∀ p ∈ news, p.1 ≠ e) (hB : typeLookup (.type "Exception") n1 = pure none)
    (hn : ∀ h mN, Heap.Ns h 30 mN → (Mine.hd.heap_39 w.params).In h → mN n1 = none)
    (h : ∀ h' tk' dx od, (∀ p ∈ news, p.1 ≠ dx) → dx ≠ e → Fr h₀ L h' m → News h₀ L h' ((e, { exO 31 a with dict := some dx }) :: (dx, od) :: news) → DictIs od (fun y => if y = n1 then some v else none) → Q () { s with heap := h', toks := tk' }) :
    wpAny (model PG w) A (setAttr (.ref e) n1 v) Q E s := by
  obtain ⟨nm, q, bs, sn, sub, ab, col, dd, k0, k1, k2, k3, k5, hC⟩ := cls31 X F
  obtain ⟨mN, gN, i1, i2, i3, i4, i5, i6⟩ := ns31 X F
  have he := N _ (.head _)
  obtain ⟨hp, g, d, t, os⟩ := s
  refine first_attr PySem.F.store_Exception hC gN i4 (hn _ _ gN (X.keeps F.keep)) hB he.1 fun h' tk' dx a1 a2 a3 a4 a5 => ?_
  obtain ⟨od, es, ep, b1, b2⟩ := a4
  obtain ⟨oL, c1, c2, hoL, c3⟩ := F.ns
  have dL : dx ≠ L := fun q => by rw [q, hoL] at a1; cases a1
  have d0 : h₀.get? dx = none := by
    cases hq : h₀.get? dx with
    | none => rfl
    | some o => rw [F.keep _ _ hq] at a1; cases a1
  refine h h' tk' dx od (fun p hp q => ?_) a2 ?_ (fun p hp => ?_) ⟨es, ep, b2⟩
  · have := (N p (.tail _ hp)).1; rw [q, a1] at this; cases this
  · refine ⟨⟨oL, c1, c2, a5 _ _ he.2.1.symm hoL, c3⟩, fun c o eb => a5 _ _ ?_ (F.keep c o eb), F.above⟩
    rintro rfl
    rw [he.2.2] at eb; cases eb
  · rcases List.mem_cons.mp hp with rfl | hp
    · exact ⟨a3, he.2⟩
    rcases List.mem_cons.mp hp with rfl | hp
    · exact ⟨b1, dL, d0⟩
    · have q := N p (.tail _ hp)
      exact ⟨a5 _ _ (hne p hp) q.1, q.2⟩
theorem second_K {Q : Unit → Shared → Prop} {m1 : Str → Option Value} {ns : List Str} (X : (Mine.hd.heap_39 w.params).In h₀) (F : Fr h₀ L s.heap m) (N : News h₀ L s.heap ((e, { exO 31 a with dict := some dx }) :: (dx, od) :: news)) (hne : ∀ p ∈ news, p.1 ≠ e) (hnd : ∀ p ∈ news, p.1 ≠ dx) (hde : dx ≠ e) (hB : typeLookup (.type "Exception") n1 = pure none)
    (hn : ∀ h mN, Heap.Ns h 30 mN → (Mine.hd.heap_39 w.params).In h → mN n1 = none) (D : DictIs od m1) (hw : Within m1 ns) (hsz : ns.length ≤ sizeLine)
    (h : ∀ h' tk' od', Fr h₀ L h' m → News h₀ L h' ((e, { exO 31 a with dict := some dx }) :: (dx, od') :: news) → DictIs od' (fun y => if y = n1 then some v else m1 y) → Q () { s with heap := h', toks := tk' }) :
    wpAny (model PG w) A (setAttr (.ref e) n1 v) Q E s := by
  obtain ⟨nm, q, bs, sn, sub, ab, col, dd, k0, k1, k2, k3, k5, hC⟩ := cls31 X F
  obtain ⟨mN, gN, i1, i2, i3, i4, i5, i6⟩ := ns31 X F
  have he := N _ (.head _)
  have hd := N _ (.tail _ (.head _))
  obtain ⟨hp, g, d, t, os⟩ := s
  have hx31 : e ≠ 31 := fun q => by
    have := he.2.2; rw [q, X 31 _ rfl] at this; cases this
  refine store_attr PySem.F.store_Exception hC gN i4 (hn _ _ gN (X.keeps F.keep)) hB hx31 ⟨_, he.1, rfl, fun c => by simp, .inr ⟨dx, rfl, hde, ns1_of hd.1 D⟩⟩ (fun h' tk' I hk hs => ?_) hw hsz
  obtain ⟨o1, ho1, q1, q2, q3, q4⟩ := hs _ he.1
  replace q4 := q4 dx rfl
  obtain ⟨oc, odd, odt, osl⟩ := o1
  dsimp only at q1 q2 q3 q4
  subst q1 q2 q3 q4
  obtain ⟨o2, ho2, _, _, J⟩ := I
  rw [ho1] at ho2; cases ho2
  rcases J with ⟨J, _⟩ | ⟨d2, J, _, od2, es, ep, J1, J2⟩
  · cases J
  cases J
  have hkk : ∀ b o, b ≠ e → b ≠ dx → hp.get? b = some o → h'.get? b = some o := fun b o b1 b2 b3 => hk b o b1 (fun o₀ dy g1 g2 => by rw [he.1] at g1; cases g1; cases g2; exact b2) b3
  obtain ⟨oL, c1, c2, hoL, c3⟩ := F.ns
  refine h h' tk' od2 ?_ (fun p hp => ?_) ⟨es, ep, J2⟩
  · refine ⟨⟨oL, c1, c2, hkk _ _ he.2.1.symm hd.2.1.symm hoL, c3⟩, fun c o eb => hkk _ _ ?_ ?_ (F.keep c o eb), F.above⟩
    · rintro rfl; rw [he.2.2] at eb; cases eb
    · rintro rfl; rw [hd.2.2] at eb; cases eb
  · rcases List.mem_cons.mp hp with rfl | hp
    · exact ⟨ho1, he.2⟩
    rcases List.mem_cons.mp hp with rfl | hp
    · exact ⟨J1, hd.2⟩
    · have q := N p (.tail _ (.tail _ hp))
      exact ⟨hkk _ _ (hne p hp) (hnd p hp) q.1, q.2⟩
end
end Mine
end

-- C15
section
theorem Mine.zz_C15 : True := by
  k_with_none
  k_with "zz1" => first | (refine' all_ne ?zz1_x9 ?zz1_y9; (case zz1_x9 => assumption); (case zz1_y9 => ((try dsimp only); omega))) | (refine' all_ne' ?zz1_x9 ?zz1_y9; (case zz1_x9 => assumption); (case zz1_y9 => ((try dsimp only); omega)))
  trivial
set_option maxRecDepth 100000
set_option maxHeartbeats 8000000
namespace Mine
theorem add_len {x : Str} (hx : x.length ≤ 40) : (x ++ Str.ofString ": ").length ≤ 100 := by rw [PySem.Str.length_append, show (Str.ofString ": ").length = 2 from by decide]; omega
theorem add_size {x y : Str} (hx : x.length ≤ 100) (hy : y.length ≤ 100) : x.length + y.length ≤ sizeLine := by rw [sizeLine_eq]; omega
theorem exc_kind : typeLookup (.type "Exception") (Str.ofString "kind") = pure none := by rw [typeLookup_type, builtinLookup_eq_fast]; kernel_rfl
theorem exc_text : typeLookup (.type "Exception") (Str.ofString "text") = pure none := by rw [typeLookup_type, builtinLookup_eq_fast]; kernel_rfl
theorem ns31_kind {w : World} : ∀ h mN, Heap.Ns h 30 mN → (Mine.hd.heap_39 w.params).In h → mN (Str.ofString "kind") = none := fun _ _ G X => ns_none_of X G (by kernel_rfl)
theorem ns31_text {w : World} : ∀ h mN, Heap.Ns h 30 mN → (Mine.hd.heap_39 w.params).In h → mN (Str.ofString "text") = none := fun _ _ G X => ns_none_of X G (by kernel_rfl)
theorem withKind {v : Value} : Within (fun y => if y = Str.ofString "kind" then some v else none) [Str.ofString "kind"] := Within.cons _ _ Within.nil
/-- the names of a CasFail -/
noncomputable def casMap (k t : Value) : Str → Option Value := fun y => if y = Str.ofString "text" then some t else (fun y => if y = Str.ofString "kind" then some k else none) y
theorem init_spec (w : World) (news) (e a : Addr) (x y : Str) (tx ty : Nat) (hne : ∀ p ∈ news, p.1 ≠ e) (hx : x.length ≤ 40) (hy : y.length ≤ 100) : Call w 28 4 60 ((e, exO 31 a) :: news) [.ref e, .str x tx, .str y ty]
    (fun R => ∀ b dx od, (∀ p ∈ news, p.1 ≠ dx) → dx ≠ e → DictIs od (casMap (.str x tx) (.str y ty)) → R .none ((e, { exO 31 b with dict := some dx }) :: (dx, od) :: news)) := by
  intro p loose mean mg mb dp un gd cn cs a ccd cl outer A₀ base h₀ L m s Q E B F X N T hk hd hu hret
  refine wpAny_call ?_
  k_dflt ktr_enter
  k_with_none
  k_with "zz1" => first | (refine' all_ne ?zz1_x9 ?zz1_y9; (case zz1_x9 => assumption); (case zz1_y9 => ((try dsimp only); omega))) | (refine' all_ne' ?zz1_x9 ?zz1_y9; (case zz1_x9 => assumption); (case zz1_y9 => ((try dsimp only); omega)))
  k_with "getMethod" => (refine method_type (T := "Exception") (v := .builtin "Exception.__init__") (by k_asm) (by k_asm) (by first | rfl | kernel_rfl) (by decide +kernel) (by first | rfl | kernel_rfl) (by first | rfl | kernel_rfl) ?_)
  k_with "my add" => (k_dflt (refine add_str (fun t' tk' => ?_) (add_size (by first | assumption | exact add_len hx | exact Nat.le_trans hx (by decide) | decide) (by first | assumption | decide))))
  k_with "call builtin:Exception.__init__" => (k_dflt (refine excInit_K (by k_asm) (by k_asm) (by k_asm) (by assumption) (fun h1 b1 F1 N1 => ?_)))
  k_with "setAttr" => (first | (k_dflt (refine second_K (by k_asm) (by k_asm) (by k_asm) (by assumption) (by assumption) (by assumption) exc_text ns31_text (by assumption) withKind (by rw [sizeLine_eq]; decide) (fun h3 tk3 od3 F3 N3 D3 => ?_))) | (k_dflt (refine first_K (by k_asm) (by k_asm) (by k_asm) (by assumption) exc_kind ns31_kind (fun h2 tk2 dx2 od2 n2 e2 F2 N2 D2 => ?_))))
  k_steps
  exact hret _ _ _ (by assumption) (by assumption) D3 _ _ (by k_asm) (by k_asm)
end Mine
end

-- D17
section
theorem Mine.zz_D17 : True := by
  k_with_none
  trivial
set_option maxRecDepth 100000
set_option maxHeartbeats 4000000
namespace Mine
/-- the call of the class CasFail -/
theorem fail_spec (w : World) (news) (x y : Str) (tx ty : Nat) (hx : x.length ≤ 40) (hy : y.length ≤ 100) : Call w 31 6 80 news [.str x tx, .str y ty]
    (fun R => ∀ e b dx od t ot, (∀ p ∈ (dx, od) :: (t, ot) :: news, p.1 ≠ e) → (∀ p ∈ (t, ot) :: news, p.1 ≠ dx) → DictIs od (casMap (.str x tx) (.str y ty)) → R (.ref e) ((e, { exO 31 b with dict := some dx }) :: (dx, od) :: (t, ot) :: news)) := by
  intro p loose mean mg mb dp un gd cn cs a ccd cl outer A₀ base h₀ L m s Q E B F X N T hk hd hu hret
  obtain ⟨nm, q, bs, sn, sub, ab, col, dd, k0, k1, k2, k3, k5, hC⟩ := cls31 X F
  obtain ⟨mN, gN, i1, i2, i3, i4, i5, i6⟩ := ns31 X F
  obtain ⟨hp, g, d, tk, os⟩ := s
  dsimp only at F N hC gN
  refine call_excInit PySem.F.excBase_Exception hC gN i1 (F.keep _ _ (X 28 _ rfl)) rfl ?_ (by rw [sizeLine_eq]; exact (by decide : 2 ≤ 16777216))
  have F₁ : Fr h₀ L (mkE hp 31 [.str x tx, .str y ty]) m := by
    obtain ⟨oL, c1, c2, hoL, c3⟩ := F.ns
    refine ⟨⟨oL, c1, c2, Heap.get?_push_of_some _ (Heap.get?_push_of_some _ hoL), c3⟩, fun c o eb => Heap.get?_push_of_some _ (Heap.get?_push_of_some _ (F.keep c o eb)), F.above⟩
  have sz : h₀.objs.size ≤ hp.objs.size := Nat.le_trans F.above (by obtain ⟨oL, c1, c2, hoL, c3⟩ := F.ns; exact Nat.le_of_lt (Heap.lt_size hoL))
  have Llt : L < hp.objs.size := by obtain ⟨oL, c1, c2, hoL, c3⟩ := F.ns; exact Heap.lt_size hoL
  have N₁ : News h₀ L (mkE hp 31 [.str x tx, .str y ty]) ((hp.objs.size + 1, exO 31 hp.objs.size) :: (hp.objs.size, { cls := .type "tuple", data := .seq #[.str x tx, .str y ty] }) :: news) := by
    intro p hq
    rcases List.mem_cons.mp hq with rfl | hq
    · exact ⟨by heap_get, Nat.ne_of_gt (Nat.lt_succ_of_lt Llt), Heap.get?_none_of_le (Nat.le_succ_of_le sz)⟩
    rcases List.mem_cons.mp hq with rfl | hq
    · exact ⟨Heap.get?_push_of_some _ (Heap.get?_push_at rfl rfl), Nat.ne_of_gt Llt, Heap.get?_none_of_le sz⟩
    · have q := N p hq
      exact ⟨Heap.get?_push_of_some _ (Heap.get?_push_of_some _ q.1), q.2⟩
  have hlt : ∀ p ∈ news, p.1 < hp.objs.size := fun p hp => Heap.lt_size (N p hp).1
  have e : (ktrTop dp un gd cn cs L a ccd cl outer).under (.builtin "type.__call__" ⟨[.ref 31, .str x tx, .str y ty], []⟩) = ktrTop (dp + 1) (un + 1) gd cn cs L a ccd cl outer := by first | rfl | (with_unfolding_all rfl) | kernel_rfl
  rw [e]
  refine init_spec w _ _ _ x y tx ty ?_ hx hy p loose mean mg mb (dp + 1) (un + 1) _ cn cs a ccd cl outer A₀ base h₀ L m ⟨mkE hp 31 [.str x tx, .str y ty], g, d, tk, os⟩ _ E B F₁ X N₁ T hk (by omega) (by omega) ?_
  · intro p hq
    rcases List.mem_cons.mp hq with rfl | hq
    · exact Nat.ne_of_lt (Nat.lt_succ_self _)
    · exact Nat.ne_of_lt (Nat.lt_succ_of_lt (hlt p hq))
  · intro b dx od n1 n2 D h' tk' F' N'
    refine ⟨rfl, hret _ b dx od hp.objs.size _ ?_ n1 D h' tk' F' N'⟩
    intro p hq
    rcases List.mem_cons.mp hq with rfl | hq
    · exact n2
    rcases List.mem_cons.mp hq with rfl | hq
    · exact Nat.ne_of_lt (Nat.lt_succ_self _)
    · exact Nat.ne_of_lt (Nat.lt_succ_of_lt (hlt p hq))
end Mine
end

-- D18
section
theorem Mine.zz_D18 : True := by
  k_with_none
  trivial
set_option maxRecDepth 100000
set_option maxHeartbeats 4000000
namespace Mine
/-- an exception on its way, that has left the frames above `l`: what `g` holds beside the frames is as it was -/
noncomputable def RaisedY (g base : Heap) (l : List Env) (e : Addr) (o : Obj) (a0 : Value) (news : List (Addr × Obj)) (h : Heap) : Prop :=
  ∃ B, base.StaysIn B ∧ (∀ b x, g.get? b = some x → b ∉ l.filterMap (·.frame) → B.get? b = some x) ∧ (∀ q ∈ news, B.get? q.1 = some q.2 ∧ g.get? q.1 = none) ∧ XFly B l e o a0 .none h
theorem RaisedY.mono {g g' base : Heap} {l : List Env} {e : Addr} {o : Obj} {a0 : Value} {news news' : List (Addr × Obj)} {h : Heap} (R : RaisedY g base l e o a0 news h) (st : g'.StaysIn g) (hn : ∀ p ∈ news', p ∈ news) : RaisedY g' base l e o a0 news' h := by
  obtain ⟨B, b1, b2, b3, b4⟩ := R
  exact ⟨B, b1, fun b x e m => b2 b x (st b x e) m, fun q hq => ⟨(b3 q (hn q hq)).1, fresh_of_stays st (b3 q (hn q hq)).2⟩, b4⟩
section
variable {M : Model} {A : Around} {E : Value → Shared → Prop} {s' : Shared} {base g h : Heap} {env : Env} {outer : List Env} {L e : Addr} {o : Obj} {vs : Array Value} {a0 : Value} {m : Str → Option Value} {news : List (Addr × Obj)} {Q : Unit → Shared → Prop}
theorem leave_raiseY (K : Below A base outer g) (F : Fr g L s'.heap m) (N : News g L s'.heap news) (he : s'.heap.get? e = some { o with data := .fields vs }) (hen : g.get? e = none) (hne : ∀ q ∈ news, q.1 ≠ e) (heL : e ≠ L)
    (h1 : vs[1]? = some .none) (h0 : vs[0]? = some a0) (hk : env.scope.kind = .function) (hf : env.frame = some L)
    (hQ : ∀ h', RaisedY g base outer e o a0 news h' → g.UpToSlots h' → Q () { s' with heap := h' }) :
    wpAny M (A.deeper env) (leaving env (.ref e)) Q E s' := by
  obtain ⟨hfun, hst⟩ := pushX K F hk hf
  have hgL : g.get? L = none := Heap.get?_none_of_le F.above
  have hin : ∀ en ∈ (env :: outer), ∀ b, en.frame = some b → b ∈ e :: (env :: outer).filterMap (·.frame) := fun en he b hb => .tail _ (List.mem_filterMap.mpr ⟨en, he, hb⟩)
  have st : base.StaysIn (hideAll s'.heap (e :: (env :: outer).filterMap (·.frame))) := fun b x q => hideAll_get _ (hst b x q) fun hm => by
    rcases List.mem_cons.mp hm with rfl | hm
    · have := K.stays _ _ q; rw [hen] at this; cases this
    · rw [(hfun.mem hm).1] at q; cases q
  have hg : ∀ b x, g.get? b = some x → b ∉ outer.filterMap (·.frame) → (hideAll s'.heap (e :: (env :: outer).filterMap (·.frame))).get? b = some x := fun b x q hm => hideAll_get _ (F.keep b x q) fun hm' => by
    rcases List.mem_cons.mp hm' with rfl | hm'
    · rw [hen] at q; cases q
    · rw [List.filterMap_cons, hf] at hm'
      rcases List.mem_cons.mp hm' with rfl | hm'
      · rw [hgL] at q; cases q
      · exact hm hm'
  have hl : ∀ q ∈ news, (hideAll s'.heap (e :: (env :: outer).filterMap (·.frame))).get? q.1 = some q.2 ∧ g.get? q.1 = none := fun q hq => by
    refine ⟨hideAll_get _ (N q hq).1 fun hm => ?_, (N q hq).2.2⟩
    rcases List.mem_cons.mp hm with hm | hm
    · exact hne q hq hm
    · obtain ⟨en, hen', hfr⟩ := List.mem_filterMap.mp hm
      rcases List.mem_cons.mp hen' with rfl | hen'
      · rw [hf] at hfr
        exact (N q hq).2.1 (Option.some.inj hfr).symm
      · obtain ⟨x, hx, _⟩ := (K.frames.mem (List.mem_filterMap.mpr ⟨en, hen', hfr⟩)).2
        rw [(N q hq).2.2] at hx; cases hx
  exact leaveX_first (Around.frames_deeper K.stack) hf (funFrames_hide hfun hin) he (fun b x q => of_hideAll _ q) (hideAll_none _ (.head _)) h1 h0 fun h' fx ux =>
    hQ h' ⟨_, st, hg, hl, fx⟩ ((Heap.UpToSlots.of_keeps F.keep).trans ux)

theorem leave_onY {g₂ : Heap} (K : Below A base outer g) (F : Fr g L g₂ m) (R : RaisedY g base (env :: outer) e o a0 news s'.heap) (hsm : g.UpToSlots s'.heap) (hf : env.frame = some L)
    (hQ : ∀ h', RaisedY g base outer e o a0 news h' → g.UpToSlots h' → Q () { s' with heap := h' }) :
    wpAny M (A.deeper env) (leaving env (.ref e)) Q E s' := by
  obtain ⟨B, hB, hg, hl, fx⟩ := R
  have hgL : g.get? L = none := Heap.get?_none_of_le F.above
  refine leaveX_next (Around.frames_deeper K.stack) hf fx fun h' fx' ux => hQ h' ⟨B, hB, fun b x q hm => hg b x q fun hm' => ?_, hl, fx'⟩ (hsm.trans ux)
  rw [List.filterMap_cons, hf] at hm'
  rcases List.mem_cons.mp hm' with rfl | hm'
  · rw [hgL] at q; cases q
  · exact hm hm'
end
/-- what a call's state is, for a call that raises -/
noncomputable abbrev CallX (w : World) (f : Addr) (D U : Nat) (news : List (Addr × Obj)) (vs : List Value) (post : (Addr → Obj → Value → List (Addr × Obj) → Prop) → Prop) : Prop :=
  ∀ (p : Program) (loose : List Str) (mean : ExcName → Option Value) (mg mb : Str → Option Value) (dp un : Nat) (gd : Option (List Code)) (cn : Str) (cs : Scope) (a : Addr) (ccd : Value) (cl : List (Str × Addr)) (outer : List Env) (A₀ : Around) (base h₀ : Heap) (L : Addr) (m : Str → Option Value) (s : Shared)
    (Q E : Value → Shared → Prop),
    Below A₀ base outer h₀ → Fr h₀ L s.heap m → (Mine.hd.heap_39 w.params).In h₀ → News h₀ L s.heap news → Top p loose mean mg mb h₀ → cs.kind = .function → dp + D < recursionLimit → un + U < cLine →
    post (fun e o a0 news' => ∀ (h' : Heap) (tk' : Nat), RaisedY h₀ base (envX cn cs L a ccd cl :: outer) e o a0 news' h' → h₀.UpToSlots h' → h'.Ns L m → E (.ref e) { s with heap := h', toks := tk' }) →
    wpAny (model PG w) (ktrTop dp un gd cn cs L a ccd cl outer) (call (.ref f) vs) Q E s
end Mine
end

-- D19
section
theorem Mine.zz_D19 : True := by
  k_with_none
  trivial
set_option maxRecDepth 100000
set_option maxHeartbeats 4000000
namespace Mine
noncomputable abbrev exD (b dx : Addr) : Obj := { cls := .ref 31, dict := some dx, data := .fields #[.ref b, .none, .none, .none, .bool false, .none] }
/-- what a raise needs of the value that is raised -/
noncomputable def RaiseEnd (h₀ : Heap) (L : Addr) (E : Value → Shared → Prop) (v : Value) (s₁ : Shared) : Prop := ∃ e b dx m₁, v = .ref e ∧ Fr h₀ L s₁.heap m₁ ∧ s₁.heap.get? e = some (exD b dx) ∧ E (.ref e) s₁
theorem Raise_K {w : World} {A : Around} {E : Value → Shared → Prop} {h₀ : Heap} {L : Addr} {s : Shared} {env : Env} {x : Expr} {pos : Pos} {Q : Flow → Shared → Prop} {m₀ : Str → Option Value} (X : (Mine.hd.heap_39 w.params).In h₀) (F : Fr h₀ L s.heap m₀) (hh : A.handled = none)
    (h : wpAny (model PG w) A (eval x env) (RaiseEnd h₀ L E) E s) :
    wpAny (model PG w) A (exec (.Raise (some x) none pos) env) Q E s := by
  rw [arm_exec_Raise]
  simp only [evalOpt, Option.map]
  refine wpAny_bind (wpAny_standAt ?_)
  obtain ⟨nm, q, bs, sn, sub, ab, col, dd, k0, k1, k2, k3, k5, hC⟩ : ∃ nm q bs sn sub ab col dd k0 k1 k2 k3 k5, ∀ h : Heap, h₀.StaysIn h → h.get? 31 = some (excClassObj nm q 31 30 bs [.type "Exception", .type "BaseException", .type "object"] true sn sub ab col dd k0 k1 k2 k3 k5 "Exception.__new__") :=
    ⟨_, _, _, _, _, _, _, _, _, _, _, _, _, fun h st => st _ _ (X _ _ rfl)⟩
  refine raise_made (C := 31) (N := 30) (newId := "Exception.__new__") (bm := [.type "Exception", .type "BaseException", .type "object"]) (hdct := true) (nm := nm) (q := q) (bs := bs) (sn := sn) (sub := sub) (ab := ab) (col := col) (dd := dd) (k0 := k0) (k1 := k1) (k2 := k2) (k3 := k3) (k5 := k5) ?_ hh (wpAny_bind (wpAny_mono h (fun v s₁ h₁ => wpAny_bind (wpAny_standAt (wpAny_pure ?_))) fun _ _ y => y))
  · decide +kernel
  · obtain ⟨e, b, dx, m₁, rfl, F₁, he, hE⟩ := h₁
    exact ⟨e, b, dx, rfl, hC _ F₁.keep, he, hE⟩
theorem ns_up {h h' : Heap} {L : Addr} {m : Str → Option Value} (n : h.Ns L m) (u : h.UpToSlots h') : h'.Ns L m := by
  obtain ⟨o, es, ep, ho, hd, hk, hf⟩ := n
  obtain ⟨sl, hs⟩ := u _ _ ho (fun vs q => by rw [hd] at q; cases q)
  exact ⟨_, es, ep, hs, hd, hk, hf⟩
theorem raise_end {M : Model} {A : Around} {base g h₀ hp : Heap} {outer : List Env} {env : Env} {L L₀ e b dx : Addr} {m m₀ : Str → Option Value} {news : List (Addr × Obj)} {E : Value → Shared → Prop} {T : Value → Value → Shared → Prop} {gn : Array GenState} {dr : Drawn} {tk : Nat} {os : OsState}
    (K : Below A base outer g) (FG : Fr h₀ L₀ g m₀) (F : Fr g L hp m) (N : News g L hp ((e, (exD b dx)) :: news)) (hne : ∀ p ∈ news, p.1 ≠ e)
    (h : ∀ h', RaisedY h₀ base outer e (exD b dx) (.ref b) news h' → h₀.UpToSlots h' → h'.Ns L₀ m₀ → E (.ref e) ⟨h', gn, dr, tk, os⟩)
    (hk : env.scope.kind = .function) (hf : env.frame = some L) :
    RaiseEnd g L (fun e s' => wpAny M (A.deeper env) (leaving env e) (fun _ s'' => E e s'') (T e) s') (.ref e) ⟨hp, gn, dr, tk, os⟩ := by
  have q := N _ (.head _)
  refine ⟨_, _, _, _, rfl, F, q.1, leave_raiseY (s' := ⟨hp, gn, dr, tk, os⟩) (o := (exD b dx)) (a0 := .ref b) K F (fun p hp => N p (.tail _ hp)) q.1 q.2.2 hne q.2.1 rfl rfl hk hf fun h' R' U' => ?_⟩
  exact h h' (R'.mono FG.keep fun _ hp => hp) (Heap.UpToSlots.trans (Heap.UpToSlots.of_keeps FG.keep) U') (ns_up FG.ns U')
end Mine
end

-- C16
section
theorem Mine.zz_C16 : True := by
  k_with_none
  trivial
set_option maxRecDepth 100000
set_option maxHeartbeats 8000000
namespace Mine
noncomputable def Apart (news : List (Addr × Obj)) (e : Addr) : Prop := ∀ p ∈ news, p.1 ≠ e
noncomputable def SubOf (news news' : List (Addr × Obj)) : Prop := ∀ p ∈ news, p ∈ news'
/-- what is told of a raised CasFail of the kind `k` -/
noncomputable abbrev failPost (news : List (Addr × Obj)) (k : Str) (R : Addr → Obj → Value → List (Addr × Obj) → Prop) : Prop :=
  ∀ e b dx od a0 news' tk tv, DictIs od (casMap (.str k tk) tv) → (dx, od) ∈ news' → SubOf news news' → Apart news' e → R e (exD b dx) a0 news'
theorem far_length {a b : Nat} (h : a * b > 1000000) (h2 : ¬ ((a : Int) * (b : Int) > 1000 * 1000)) : False := by
  have h2 : ((a * b : Nat) : Int) = (a : Int) * (b : Int) := Int.natCast_mul a b
  omega
theorem gmul_far (w : World) (news) (da db : Addr) (la lb : PSum) (Sa : SumAt w news da la) (Sb : SumAt w news db lb) (hla : la.length ≤ 2000) (hlb : lb.length ≤ 2000) (hfar : la.length * lb.length > 1000000) : CallX w 113 8 150 news [.ref da, .ref db]
    (failPost news (Str.ofString "domain")) := by
  intro p loose mean mg mb dp un gd cn cs a ccd cl outer A₀ base h₀ L m s Q E B F X N T hk hd hu hret
  refine wpAny_call ?_
  k_dflt ktr_enter
  k_with_none
  k_with "call builtin:len" => (first | (refine len_sum (by k_asm) Sa (by omega) ?_; intros) | (refine len_sum (by k_asm) Sb (by omega) ?_; intros))
  k_with "exec For" => (exact (far_length hfar (by assumption)).elim)
  k_with "binaryOp Mult int int" => (refine mul_int ?_ (by first | exact (.of_right (by decide)) | exact .of_left (intBits_le (by omega))))
  k_with "my raise" => (k_dflt (refine Raise_K (by k_asm) (by k_asm) rfl ?_))
  k_with "call ref" => (((refine' Call.use (fail_spec w _ _ _ _ _ (by decide) (by decide)) ?k1 ?k2 ?k3 ?k4 ?k5 ?kK ?kd ?ku ?_; (case k1 => k_asm); (case k2 => k_asm); (case k3 => k_asm); (case k4 => k_asm); (case k5 => k_asm); (case kK => first | exact rfl | assumption); (case kd => ktr_room); (case ku => ktr_units); (try dsimp only); (intros); (try dsimp only); (try k_fold))))
  k_steps
  ((rename Fr _ _ _ _ => F2; rename News _ _ _ _ => N2; rename Below _ _ _ _ => B2; rename Fr h₀ L _ _ => FG; rename DictIs _ _ => D2; (rename (∀ p ∈ _ :: _ :: news, p.1 ≠ _) => xe); refine' raise_end B2 FG F2 N2 xe ?h2 ?h3 ?h4; (case h4 => rfl); (case h3 => rfl); intro h3 R3 U3 S3; exact hret _ _ _ _ _ _ _ _ D2 (.head _) (fun p hp => .tail _ (.tail _ hp)) xe _ _ R3 U3 S3))
end Mine
end

-- C17
section
theorem Mine.zz_C17 : True := by
  k_with_none
  k_with "zz1" => first | (refine' all_ne ?zz1_x9 ?zz1_y9; (case zz1_x9 => assumption); (case zz1_y9 => ((try dsimp only); omega))) | (refine' all_ne' ?zz1_x9 ?zz1_y9; (case zz1_x9 => assumption); (case zz1_y9 => ((try dsimp only); omega)))
  k_with "zz5" => ((with_reducible refine inCells ?_); name_kind "cell"; k_dflt (refine' ldCN ?zz5_N ?zz5_c ?zz5_m ?zz5_d ?_ ?zz5_a ?zz5_b; (case zz5_a => rfl); (case zz5_b => rfl); (case zz5_N => k_asm); (case zz5_c => rfl); (case zz5_m => (((repeat (first | with_reducible assumption | with_reducible exact List.mem_cons_self | with_reducible refine List.mem_cons_of_mem _ ?_)); done))); (case zz5_d => with_reducible assumption)))
  trivial
set_option maxRecDepth 100000
set_option maxHeartbeats 8000000
namespace Mine
theorem long_enough {n x y : Nat} {M : Int} (hfar : 200000 < n * x ∨ 200000 < n * y) (hM : M = (x : Int) ∨ M = (y : Int)) (hxy : (x : Int) ≤ M ∧ (y : Int) ≤ M) (h : ¬ 200000 < (n : Int) * M) : False := by
  have h1 : ((n * x : Nat) : Int) ≤ (n : Int) * M := by rw [Int.natCast_mul]; exact Int.mul_le_mul_of_nonneg_left hxy.1 (Int.natCast_nonneg n)
  have h2 : ((n * y : Nat) : Int) ≤ (n : Int) * M := by rw [Int.natCast_mul]; exact Int.mul_le_mul_of_nonneg_left hxy.2 (Int.natCast_nonneg n)
  omega
theorem gpower_far (w : World) (news) (d : Addr) (e1 e2 : GK × Int) (n : Nat) (t : Tok) (S : SumAt w news d [e1, e2]) (h1 : 2 ≤ n) (h2 : n ≤ 200) (b1 : bitsI e1.2 ≤ 60000) (b2 : bitsI e2.2 ≤ 60000) (hfar : 200000 < n * bitsI e1.2 ∨ 200000 < n * bitsI e2.2) : CallX w 118 12 250 news [.ref d, .int (n : Int) t]
    (failPost news (Str.ofString "domain")) := by
  intro p loose mean mg mb dp un gd cn cs a ccd cl outer A₀ base h₀ L m s Q E B F X N T hk hd hu hret
  refine wpAny_call ?_
  k_dflt ((refine' code_defC ?k1 ?k2 ?k3 ?k4 ?k5 ?kA ?kF ?kK ?k6 ?k7 ?k8 ?k9 ?kB ?kD ?_ ?c2 ?c3 ?c4; (case kA => exact rfl); (case kF => exact rfl); (case kK => first | exact rfl | assumption); (case k1 => k_asm); (case k2 => k_asm); (case k3 => k_asm); (case k4 => k_asm); (case k5 => k_asm); (case k6 => k_is); (case k7 => k_is); (case k8 => ktr_room); (case k9 => exact BindsTo.of_eq rfl); (case kB => exact rfl); (case kD => decide +kernel); (case c2 => exact rfl); (case c3 => exact rfl); (case c4 => exact rfl); k_whole; intro gF LF hF tkF cellsF FGF FF NF YF BF XF TF l1; (try k_lt l1); k_cells YF; (try simp only [List.cons_append, List.nil_append] at NF); (try dsimp only); (try k_fold)))
  rename Obj => oC
  rename oC.data = _ => dC
  replace dC : oC.data = .cell (some (.int (n : Int) t)) := dC
  obtain ⟨f0, F0⟩ := fr_canon1 (x := Str.ofString "a") (v := .ref d) FF rfl
  clear FF
  k_with_none
  k_with "zz1" => first | (refine' all_ne ?zz1_x9 ?zz1_y9; (case zz1_x9 => assumption); (case zz1_y9 => ((try dsimp only); omega))) | (refine' all_ne' ?zz1_x9 ?zz1_y9; (case zz1_x9 => assumption); (case zz1_y9 => ((try dsimp only); omega)))
  k_with "zz5" => ((with_reducible refine inCells ?_); name_kind "cell"; k_dflt (refine' ldCN ?zz5_N ?zz5_c ?zz5_m ?zz5_d ?_ ?zz5_a ?zz5_b; (case zz5_a => rfl); (case zz5_b => rfl); (case zz5_N => k_asm); (case zz5_c => rfl); (case zz5_m => (((repeat (first | with_reducible assumption | with_reducible exact List.mem_cons_self | with_reducible refine List.mem_cons_of_mem _ ?_)); done))); (case zz5_d => with_reducible assumption)))
  k_with "call builtin:len" => ((refine' len_sum ?k1 (S.mono ?k2) ?k3 ?_; (case k1 => k_asm); (case k2 => exact allIn1); (case k3 => simp)); intros; (try simp only [List.length_cons, List.length_nil]))
  k_with "my comp" => ((try k_fold); k_dflt (refine' ListComp_two ?k1 ?k2 ?k3 ?k4 ?k5 ?_ ?k6; (case k1 => exact rfl); (case k2 => decide); (case k3 => exact rfl); (case k4 => decide); (case k5 => exact rfl); (case k6 => exact fun _ => rfl)))
  k_with "getMethod ref" => (refine getMethod_sum PySem.F.slot_dict_values PySem.F.type_dict_values (by k_asm) (S.mono allIn1) ?_)
  k_with "call builtin:dict.values" => ((k_dflt (refine' values_sum ?k1 ?k2 (S.mono allIn1) ?_; (case k1 => k_asm); (case k2 => k_asm))); intro vW hW FW NW lW)
  k_with "my two" => (k_dflt (refine StopHere.out ?_))
  k_with "my raise" => (exfalso; omega)
  k_steps
  unfold StopHere
  refine ⟨gF, LF, _, vW, d, e1, e2, _, fun c => (bitsI c : Int), rfl, rfl, FW, NW, .head _, S.mono in2, ?elem, ?fin⟩
  case elem =>
    rintro c r I oI C oC2 D oD m₂ h tk Q₂ E₂ hc' R hC hx F1 N1 hQ
    obtain ⟨t1, t2, n1, hr⟩ := R
    clear FW NW
    show wpAny _ _ _ _ _ _
    k_with "subscriptTail" => ((k_here; (with_reducible show wpAny _ _ (subscriptTail _ _ (Value.ref _) (Value.int _ _)) _ _ _); with_unfolding_all refine' item_held ?k1 ?k2 ?k3 ?k4 ?k5 ?k6 ?k7 ?k8 ?k9 ?_ ?k10; (case k1 => assumption); (case k2 => k_asm); (case k3 => k_asm); (case k4 => k_asm); (case k5 => kcj_all); (case k6 => decide); (case k7 => decide); (case k8 => exact rfl); (case k9 => exact rfl); (case k10 => with_unfolding_all rfl); k_whole))
    k_with "call ref" => (rw [max_abs]; ((refine' Call.use (bits_of_spec w _ _ _ (Nat.le_max_right c.natAbs 1)) ?k1 ?k2 ?k3 ?k4 ?k5 ?kK ?kd ?ku ?_; (case k1 => k_asm); (case k2 => k_asm); (case k3 => k_asm); (case k4 => k_asm); (case k5 => k_asm); (case kK => first | exact rfl | assumption); (case kd => ktr_room); (case ku => ktr_units); (try dsimp only); (intros); (try dsimp only); (try k_fold))))
    k_steps
    exact hQ _ _ _ (by k_asm) (by k_asm)
  case fin =>
    intro D h tk t1 t2 F1 N1
    clear FW NW
    k_with_none
    k_with "zz1" => first | (refine' all_ne ?zz1_x9 ?zz1_y9; (case zz1_x9 => assumption); (case zz1_y9 => ((try dsimp only); omega))) | (refine' all_ne' ?zz1_x9 ?zz1_y9; (case zz1_x9 => assumption); (case zz1_y9 => ((try dsimp only); omega)))
    k_with "zz5" => ((with_reducible refine inCells ?_); name_kind "cell"; k_dflt (refine' ldCN ?zz5_N ?zz5_c ?zz5_m ?zz5_d ?_ ?zz5_a ?zz5_b; (case zz5_a => rfl); (case zz5_b => rfl); (case zz5_N => k_asm); (case zz5_c => rfl); (case zz5_m => (((repeat (first | with_reducible assumption | with_reducible exact List.mem_cons_self | with_reducible refine List.mem_cons_of_mem _ ?_)); done))); (case zz5_d => with_reducible assumption)))
    k_with "my display" => (exfalso; first | omega | exact long_enough hfar (by assumption) (by assumption) (by assumption))
    k_with "binaryOp Mult int int" => (refine mul_int ?_ (.of_left (intBits_le (by omega))))
    k_with "my raise" => (k_dflt (refine Raise_K (by k_asm) (by k_asm) rfl ?_))
    k_with "call ref" => (((refine' Call.use (fail_spec w _ _ _ _ _ (by decide) (by decide)) ?k1 ?k2 ?k3 ?k4 ?k5 ?kK ?kd ?ku ?_; (case k1 => k_asm); (case k2 => k_asm); (case k3 => k_asm); (case k4 => k_asm); (case k5 => k_asm); (case kK => first | exact rfl | assumption); (case kd => ktr_room); (case ku => ktr_units); (try dsimp only); (intros); (try dsimp only); (try k_fold))))
    k_steps
    rename Fr gF _ _ _ => F2
    rename News gF _ _ _ => N2
    rename DictIs _ _ => D2
    rename (∀ p ∈ _ :: _ :: _ :: _ :: _ :: news, p.1 ≠ _) => xe
    refine' raise_end BF FGF F2 N2 xe ?h2 ?h3 ?h4
    case h4 => rfl
    case h3 => rfl
    intro h3 R3 U3 S3
    exact hret _ _ _ _ _ _ _ _ D2 (.head _) (fun p hp => by (repeat (first | assumption | refine .tail _ ?_))) xe _ _ R3 U3 S3
end Mine
end

-- D20
section
theorem Mine.zz_D20 : True := by
  k_with_none
  trivial
set_option maxRecDepth 100000
set_option maxHeartbeats 4000000
namespace Mine
theorem CallX.use {w : World} {f : Addr} {D U : Nat} {news : List (Addr × Obj)} {vs : List Value} {post : (Addr → Obj → Value → List (Addr × Obj) → Prop) → Prop} (C : CallX w f D U news vs post)
    {p : Program} {loose : List Str} {mean : ExcName → Option Value} {mg mb : Str → Option Value} {dp un : Nat} {gd : Option (List Code)} {cn : Str} {cs : Scope} {a : Addr} {ccd : Value} {cl : List (Str × Addr)} {outer : List Env} {A₀ : Around} {base h₀ : Heap} {L : Addr} {m : Str → Option Value} {s : Shared}
    {Q E : Value → Shared → Prop}
    (B : Below A₀ base outer h₀) (F : Fr h₀ L s.heap m) (X : (Mine.hd.heap_39 w.params).In h₀) (N : News h₀ L s.heap news) (T : Top p loose mean mg mb h₀) (hk : cs.kind = .function) (hd : dp + D < recursionLimit) (hu : un + U < cLine)
    (ret : post (fun e o a0 news' => ∀ (h' : Heap) (tk' : Nat), RaisedY h₀ base (envX cn cs L a ccd cl :: outer) e o a0 news' h' → h₀.UpToSlots h' → h'.Ns L m → E (.ref e) { s with heap := h', toks := tk' })) :
    wpAny (model PG w) (ktrTop dp un gd cn cs L a ccd cl outer) (call (.ref f) vs) Q E s := C _ _ _ _ _ _ _ _ _ _ _ _ _ _ _ _ _ _ _ _ _ _ B F X N T hk hd hu ret
theorem pass_on {M : Model} {A : Around} {base g h₀ hp h' : Heap} {outer : List Env} {env : Env} {L L₀ e : Addr} {o : Obj} {a0 : Value} {m m₀ : Str → Option Value} {news : List (Addr × Obj)} {E : Value → Shared → Prop} {T : Value → Shared → Prop} {gn : Array GenState} {dr : Drawn} {tk : Nat} {os : OsState}
    (K : Below A base outer g) (FG : Fr h₀ L₀ g m₀) (F : Fr g L hp m) (R : RaisedY g base (env :: outer) e o a0 news h') (U : g.UpToSlots h')
    (h : ∀ h'', RaisedY h₀ base outer e o a0 news h'' → h₀.UpToSlots h'' → h''.Ns L₀ m₀ → E (.ref e) ⟨h'', gn, dr, tk, os⟩) (hf : env.frame = some L) :
    wpAny M (A.deeper env) (leaving env (.ref e)) (fun _ s'' => E (.ref e) s'') T ⟨h', gn, dr, tk, os⟩ := by
  refine leave_onY (s' := ⟨h', gn, dr, tk, os⟩) K F R U hf fun h'' R' U' => ?_
  exact h h'' (R'.mono FG.keep fun _ hp => hp) (Heap.UpToSlots.trans (Heap.UpToSlots.of_keeps FG.keep) U') (ns_up FG.ns U')
end Mine
end

-- C18
section
theorem Mine.zz_C18 : True := by
  k_with_none
  k_with "zz1" => first | (refine' all_ne ?zz1_x9 ?zz1_y9; (case zz1_x9 => assumption); (case zz1_y9 => ((try dsimp only); omega))) | (refine' all_ne' ?zz1_x9 ?zz1_y9; (case zz1_x9 => assumption); (case zz1_y9 => ((try dsimp only); omega)))
  trivial
set_option maxRecDepth 100000
set_option maxHeartbeats 8000000
namespace Mine

theorem gratio_far_pos (w : World) (news) (q dt db : Addr) (e1 e2 : GK × Int) (n : Nat) (t : Tok) (P : PairAt w news q dt db) (S : SumAt w news dt [e1, e2]) (h1 : 2 ≤ n) (h2 : n ≤ 200) (b1 : bitsI e1.2 ≤ 60000) (b2 : bitsI e2.2 ≤ 60000) (hfar : 200000 < n * bitsI e1.2 ∨ 200000 < n * bitsI e2.2) : CallX w 125 14 270 news [.ref q, .int (n : Int) t]
    (failPost news (Str.ofString "domain")) := by
  intro p loose mean mg mb dp un gd cn cs a ccd cl outer A₀ base h₀ L m s Q E B F X N T hk hd hu hret
  obtain ⟨n1, hq⟩ := P
  refine wpAny_call ?_
  k_dflt ktr_enter
  k_with_none
  k_with "zz1" => first | (refine' all_ne ?zz1_x9 ?zz1_y9; (case zz1_x9 => assumption); (case zz1_y9 => ((try dsimp only); omega))) | (refine' all_ne' ?zz1_x9 ?zz1_y9; (case zz1_x9 => assumption); (case zz1_y9 => ((try dsimp only); omega)))
  k_with "my display" => (exfalso; omega)
  k_with "my unpack" => (k_dflt (refine' unpackN_ (items := #[.ref dt, .ref db]) ?F ?N ⟨_, hq.get ?X ?F2 ?N2, rfl, n1, rfl⟩ rfl rfl rfl ?_; (case F => k_asm); (case N => k_asm); (case X => k_asm); (case F2 => k_asm); (case N2 => k_asm)); intro hU FU NU)
  k_with "subscriptTail" => ((k_here; (with_reducible show wpAny _ _ (subscriptTail _ _ (Value.ref _) (Value.int _ _)) _ _ _); with_unfolding_all refine' item_held ?k1 ?k2 ?k3 ?k4 ?k5 ?k6 ?k7 ?k8 ?k9 ?_ ?k10; (case k1 => assumption); (case k2 => k_asm); (case k3 => k_asm); (case k4 => k_asm); (case k5 => kcj_all); (case k6 => decide); (case k7 => decide); (case k8 => exact rfl); (case k9 => exact rfl); (case k10 => with_unfolding_all rfl); k_whole))
  k_with "call ref" => (((refine' CallX.use (gpower_far w _ _ _ _ _ _ S h1 h2 b1 b2 hfar) ?k1 ?k2 ?k3 ?k4 ?k5 ?kK ?kd ?ku ?_; (case k1 => k_asm); (case k2 => k_asm); (case k3 => k_asm); (case k4 => k_asm); (case k5 => k_asm); (case kK => first | exact rfl | assumption); (case kd => ktr_room); (case ku => ktr_units))))
  k_steps
  rename Fr h₀ L _ _ => FG
  rename Below _ _ _ _ => B2
  rename RaisedY _ _ _ _ _ _ _ _ => R2
  rename Heap.UpToSlots _ _ => U2
  rename Fr _ _ _ _ => F2
  rename DictIs _ _ => D2
  rename (_, _) ∈ _ => dm
  rename SubOf news _ => xs
  rename Apart _ _ => xe
  refine' pass_on B2 FG F2 R2 U2 ?h2 ?h4
  case h4 => rfl
  intro h3 R3 U3 S3
  exact hret _ _ _ _ _ _ _ _ D2 dm xs xe _ _ R3 U3 S3
theorem gratio_far_neg (w : World) (news) (q dt db : Addr) (e1 e2 : GK × Int) (kb : GK) (n : Nat) (t : Tok) (P : PairAt w news q dt db) (S : SumAt w news dt [e1, e2]) (Sb : SumAt w news db [(kb, 1)]) (h1 : 2 ≤ n) (h2 : n ≤ 200) (b1 : bitsI e1.2 ≤ 60000) (b2 : bitsI e2.2 ≤ 60000) (hfar : 200000 < n * bitsI e1.2 ∨ 200000 < n * bitsI e2.2) (hx : IntMulOk kb.1 n) (hc : IntMulOk kb.2 n) : CallX w 125 14 270 news [.ref q, .int (0 - (n : Int)) t]
    (failPost news (Str.ofString "domain")) := by
  intro p loose mean mg mb dp un gd cn cs a ccd cl outer A₀ base h₀ L m s Q E B F X N T hk hd hu hret
  obtain ⟨n1, hq⟩ := P
  refine wpAny_call ?_
  k_dflt ktr_enter
  k_with_none
  k_with "zz1" => first | (refine' all_ne ?zz1_x9 ?zz1_y9; (case zz1_x9 => assumption); (case zz1_y9 => ((try dsimp only); omega))) | (refine' all_ne' ?zz1_x9 ?zz1_y9; (case zz1_x9 => assumption); (case zz1_y9 => ((try dsimp only); omega)))
  k_with "my display" => (exfalso; omega)
  k_with "my unpack" => (k_dflt (refine' unpackN_ (items := #[.ref dt, .ref db]) ?F ?N ⟨_, hq.get ?X ?F2 ?N2, rfl, n1, rfl⟩ rfl rfl rfl ?_; (case F => k_asm); (case N => k_asm); (case X => k_asm); (case F2 => k_asm); (case N2 => k_asm)); intro hU FU NU)
  k_with "subscriptTail" => ((k_here; (with_reducible show wpAny _ _ (subscriptTail _ _ (Value.ref _) (Value.int _ _)) _ _ _); with_unfolding_all refine' item_held ?k1 ?k2 ?k3 ?k4 ?k5 ?k6 ?k7 ?k8 ?k9 ?_ ?k10; (case k1 => assumption); (case k2 => k_asm); (case k3 => k_asm); (case k4 => k_asm); (case k5 => kcj_all); (case k6 => decide); (case k7 => decide); (case k8 => exact rfl); (case k9 => exact rfl); (case k10 => with_unfolding_all rfl); k_whole))
  k_with "call ref" => (first | (rw [abs_neg n]; ((refine' Call.use (gpower_one w _ _ _ _ _ (Sb.mono allIn1) (by omega) (by omega) hx hc) ?k1 ?k2 ?k3 ?k4 ?k5 ?kK ?kd ?ku ?_; (case k1 => k_asm); (case k2 => k_asm); (case k3 => k_asm); (case k4 => k_asm); (case k5 => k_asm); (case kK => first | exact rfl | assumption); (case kd => ktr_room); (case ku => ktr_units); (try dsimp only); (intros); (try dsimp only); (try k_fold))); rename_i dB nB sB lB SB hhB tkB FB NB) | (rw [abs_neg n]; ((refine' CallX.use (gpower_far w _ _ _ _ _ _ ((S.mono allIn1).mono sB) h1 h2 b1 b2 hfar) ?k1 ?k2 ?k3 ?k4 ?k5 ?kK ?kd ?ku ?_; (case k1 => k_asm); (case k2 => k_asm); (case k3 => k_asm); (case k4 => k_asm); (case k5 => k_asm); (case kK => first | exact rfl | assumption); (case kd => ktr_room); (case ku => ktr_units)))))
  k_steps
  rename Fr h₀ L _ _ => FG
  rename Below _ _ _ _ => B2
  rename RaisedY _ _ _ _ _ _ _ _ => R2
  rename Heap.UpToSlots _ _ => U2
  rename Fr _ _ _ _ => F2
  rename DictIs _ _ => D2
  rename (_, _) ∈ _ => dm
  rename SubOf _ _ => xs
  rename Apart _ _ => xe
  refine' pass_on B2 FG F2 R2 U2 ?h2 ?h4
  case h4 => rfl
  intro h3 R3 U3 S3
  exact hret _ _ _ _ _ _ _ _ D2 dm (fun p hp => xs _ (sB _ (.tail _ hp))) xe _ _ R3 U3 S3
end Mine
end

-- D21
section
theorem Mine.zz_D21 : True := by
  k_with_none
  trivial
set_option maxRecDepth 100000
set_option maxHeartbeats 4000000
namespace Mine
/-- `h₀` with the objects at `l` as `h'` has them -/
noncomputable def patch (h₀ h' : Heap) : List Addr → Heap
  | [] => h₀
  | a :: l => match h'.get? a with
    | some o => (patch h₀ h' l).update a fun _ => o
    | none => patch h₀ h' l
theorem patch_size {h₀ h' : Heap} : ∀ l, (patch h₀ h' l).objs.size = h₀.objs.size
  | [] => rfl
  | a :: l => by
    unfold patch
    split
    · rw [Heap.size_update]; exact patch_size l
    · exact patch_size l
theorem patch_other {h₀ h' : Heap} {b : Addr} : ∀ l, b ∉ l → (patch h₀ h' l).get? b = h₀.get? b
  | [], _ => rfl
  | a :: l, hm => by
    unfold patch
    have h1 : a ≠ b := fun q => hm (q ▸ .head _)
    have h2 : b ∉ l := fun q => hm (.tail _ q)
    split
    · exact (Heap.get?_update_other _ _ h1).trans (patch_other l h2)
    · exact patch_other l h2
theorem patch_at {h₀ h' : Heap} {b : Addr} {x o : Obj} (hx : h₀.get? b = some x) (ho : h'.get? b = some o) : ∀ l, b ∈ l → (patch h₀ h' l).get? b = some o
  | a :: l, hm => by
    unfold patch
    have step : b ∈ l ∨ b ∉ l := Classical.em _
    by_cases h1 : a = b
    · subst h1
      rw [ho]
      dsimp only
      have : ∃ y, (patch h₀ h' l).get? a = some y := by
        rcases step with q | q
        · exact ⟨_, patch_at hx ho l q⟩
        · exact ⟨_, (patch_other l q).trans hx⟩
      obtain ⟨y, hy⟩ := this
      exact Heap.get?_update_self _ hy (Heap.get?_some_iff.mp ho).2
    · have h2 : b ∈ l := by
        rcases List.mem_cons.mp hm with q | q
        · exact absurd q.symm h1
        · exact q
      split
      · exact (Heap.get?_update_other _ _ h1).trans (patch_at hx ho l h2)
      · exact patch_at hx ho l h2
/-- what may change over a caught exception: the frames' slots alone -/
noncomputable def Soft (outer : List Env) (g g' : Heap) : Prop := (∀ b x, g.get? b = some x → b ∉ outer.filterMap (·.frame) → g'.get? b = some x) ∧ g.UpToSlots g'
theorem Soft.refl {outer : List Env} {g : Heap} : Soft outer g g := ⟨fun _ _ e _ => e, Heap.UpToSlots.refl g⟩
theorem Soft.trans {outer : List Env} {g g' g'' : Heap} (x : Soft outer g g') (y : Soft outer g' g'') : Soft outer g g'' := ⟨fun b o e hm => y.1 b o (x.1 b o e hm) hm, x.2.trans y.2⟩
section
variable {w : World} {A : Around} {base g h' : Heap} {outer : List Env} {p : Program} {loose : List Str} {mean : ExcName → Option Value} {mg mb : Str → Option Value}
theorem patched (K : Below A base outer g) (Xb : (Mine.hd.heap_39 w.params).In base) (Tb : Top p loose mean mg mb base) (P1 : ∀ b x, g.get? b = some x → b ∉ outer.filterMap (·.frame) → h'.get? b = some x) (P2 : g.UpToSlots h') :
    ∃ g', Below A base outer g' ∧ g'.StaysIn h' ∧ (Mine.hd.heap_39 w.params).In g' ∧ Top p loose mean mg mb g' ∧ Soft outer g g' ∧ (∀ b, g.get? b = none → g'.get? b = none) ∧ g'.objs.size = g.objs.size := by
  have fr : ∀ b, b ∈ outer.filterMap (·.frame) → ∃ x sl, g.get? b = some x ∧ (∀ vs, x.data ≠ .fields vs) ∧ h'.get? b = some { x with slots := sl } := fun b hb => by
    obtain ⟨_, x, hx, hn⟩ := K.frames.mem hb
    obtain ⟨sl, hs⟩ := P2 b x hx hn
    exact ⟨x, sl, hx, hn, hs⟩
  have at' : ∀ b x sl, b ∈ outer.filterMap (·.frame) → g.get? b = some x → h'.get? b = some { x with slots := sl } → (patch g h' (outer.filterMap (·.frame))).get? b = some { x with slots := sl } := fun b x sl hb hx hs => patch_at hx hs _ hb
  have soft : Soft outer g (patch g h' (outer.filterMap (·.frame))) := by
    refine ⟨fun b x e hm => (patch_other _ hm).trans e, fun b x e hn => ?_⟩
    by_cases hb : b ∈ outer.filterMap (·.frame)
    · obtain ⟨y, sl, e1, e2, e3⟩ := fr b hb
      rw [e] at e1; cases e1
      exact ⟨sl, at' b x sl hb e e3⟩
    · exact ⟨x.slots, (patch_other _ hb).trans e⟩
  have st : base.StaysIn (patch g h' (outer.filterMap (·.frame))) := fun b x e => soft.1 b x (K.stays b x e) fun hm => by
    rw [(K.frames.mem hm).1] at e; cases e
  refine ⟨_, ⟨K.stack, st, K.frames.of_keeps fun b o e hn => ?_⟩, fun b o e => ?_, Xb.keeps st, Tb.keeps st, soft, fun b e => ?_, patch_size _⟩
  · obtain ⟨sl, hs⟩ := soft.2 b o e hn
    exact ⟨_, hs, rfl⟩
  · by_cases hb : b ∈ outer.filterMap (·.frame)
    · obtain ⟨y, sl, e1, e2, e3⟩ := fr b hb
      rw [at' b y sl hb e1 e3] at e; cases e
      exact e3
    · rw [patch_other _ hb] at e
      exact P1 b o e hb
  · rw [patch_other _ fun hb => by obtain ⟨y, sl, e1, _⟩ := fr b hb; rw [e] at e1; cases e1]
    exact e
end
section
variable {w : World} {A : Around} {base g h' : Heap} {env : Env} {outer : List Env} {L e : Addr} {o : Obj} {a0 fl : Value} {m : Str → Option Value} {news : List (Addr × Obj)} {p : Program} {loose : List Str} {mean : ExcName → Option Value} {mg mb : Str → Option Value} {B : Heap}
/-- the state in which a handler is: the exception's object is told, and what was told is as it was -/
theorem held_state (K : Below A base outer g) (Xb : (Mine.hd.heap_39 w.params).In base) (Tb : Top p loose mean mg mb base) (hgL : g.objs.size ≤ L) (hf : env.frame = some L)
    (hg : ∀ b x, g.get? b = some x → b ∉ (env :: outer).filterMap (·.frame) → B.get? b = some x) (hl : ∀ q ∈ news, B.get? q.1 = some q.2 ∧ g.get? q.1 = none)
    (fx : XFly B (env :: outer) e o a0 fl h') (U : g.UpToSlots h') (S : h'.Ns L m) :
    ∃ g' vs, Below A base outer g' ∧ Fr g' L h' m ∧ (Mine.hd.heap_39 w.params).In g' ∧ Top p loose mean mg mb g' ∧ Soft outer g g' ∧ News g' L h' ((e, { o with data := .fields vs }) :: news) := by
  obtain ⟨f1, f2, f3, vs, T', oT, ts, he, _⟩ := fx
  have hL : g.get? L = none := Heap.get?_none_of_le hgL
  have nL : ∀ b x, g.get? b = some x → b ∉ outer.filterMap (·.frame) → b ∉ (env :: outer).filterMap (·.frame) := fun b x ex hm hm' => by
    rw [List.filterMap_cons, hf] at hm'
    rcases List.mem_cons.mp hm' with q | q
    · rw [q, hL] at ex; cases ex
    · exact hm q
  have BL : B.get? L = none := (f3.mem (by rw [List.filterMap_cons, hf]; exact .head _)).1
  obtain ⟨g', K', st, X', T', so, no, sz⟩ := patched K Xb Tb (fun b x ex hm => f1 b x (hg b x ex (nL b x ex hm))) U
  refine ⟨g', vs, K', ⟨S, st, by rw [sz]; exact hgL⟩, X', T', so, fun q hq => ?_⟩
  rcases List.mem_cons.mp hq with rfl | hq
  · refine ⟨he, fun q => ?_, no _ ?_⟩
    · obtain ⟨o', es, ep, q1, q2, _⟩ := S
      dsimp only at q
      rw [← q, he] at q1; cases q1; cases q2
    · cases ge : g.get? e with
      | none => rfl
      | some x =>
        by_cases hm : e ∈ (env :: outer).filterMap (·.frame)
        · obtain ⟨_, y, hy, hn⟩ := f3.mem hm
          rw [he] at hy; cases hy
          exact absurd rfl (hn vs)
        · rw [hg e x ge hm] at f2; cases f2
  · exact ⟨f1 _ _ (hl q hq).1, (fun z => by have := (hl q hq).1; rw [z, BL] at this; cases this), no _ (hl q hq).2⟩
end
end Mine
end

-- D22
section
theorem Mine.zz_D22 : True := by
  k_with_none
  trivial
set_option maxRecDepth 100000
set_option maxHeartbeats 4000000
namespace Mine
section
variable {w : World} {A₀ : Around} {E : Value → Shared → Prop} {base g h : Heap} {outer : List Env} {L a e dx : Addr} {o : Obj} {a0 : Value} {m : Str → Option Value} {name : Str} {scope : Scope} {cd : Value}
  {n : Str} {b₀ : Stmt} {suite : List Stmt} {pos np : Pos} {rest : List ExceptHandler} {Q : Flow → Shared → Prop} {news : List (Addr × Obj)} {h' : Heap} {gn : Array GenState} {dr : Drawn} {tk : Nat} {os : OsState}
  {p : Program} {loose : List Str} {mean : ExcName → Option Value} {mg mb : Str → Option Value} {x : Str}
theorem caught_X (K : Below A₀ base outer g) (hgL : g.objs.size ≤ L) (U : g.UpToSlots h') (S : h'.Ns L m) (R : RaisedY g base (envOf name scope L a cd :: outer) e o a0 news h') (hcls : o.cls = .ref 31)
    (Xb : (Mine.hd.heap_39 w.params).In base) (Tb : Top p loose mean mg mb base) (ex : nsIn (Mine.hd.heap_39 w.params) mainGlobals x = some (some (.ref 31)))
    (k : ∀ g' h' vs tk, Below A₀ base outer g' → Fr g' L h' (fun y => if y = n then some (.ref e) else m y) → News g' L h' ((e, { o with data := .fields vs }) :: news) → (Mine.hd.heap_39 w.params).In g' → Top p loose mean mg mb g' → Soft outer g g' →
      wpAny (model PG w) ((A₀.deeper (envOf name scope L a cd)).mark (some (.ref e))) (execs (b₀ :: suite) (envOf name scope L a cd))
        (fun f s₄ => wpAny (model PG w) (A₀.deeper (envOf name scope L a cd)) (do bindName (envOf name scope L a cd) n .none; unbindBehindTheSuite (envOf name scope L a cd) n pos) (fun _ s₅ => Q f s₅) E s₄)
        (AsSuiteRaised (model PG w) ((A₀.deeper (envOf name scope L a cd)).mark (some (.ref e))) (envOf name scope L a cd) n pos (notedBy (model PG w) ((A₀.deeper (envOf name scope L a cd)).mark (some (.ref e))) (envOf name scope L a cd) (cameBackBy (model PG w) (A₀.deeper (envOf name scope L a cd)) (envOf name scope L a cd) E)))
        ⟨h', gn, dr, tk, os⟩)
    (hk : scope.kind = .function := by rfl) (hlo : (envOf name scope L a cd).kindOf n = some .local := by rfl) (hx : (envOf name scope L a cd).kindOf x = some .globalImplicit := by rfl) (hd : (x == ("__debug__" : Str)) = false := by decide) :
    wpAny (model PG w) (A₀.deeper (envOf name scope L a cd)) (noteFrame (.ref e) (envOf name scope L a cd))
      (fun _ s₂ => wpAny (model PG w) (A₀.deeper (envOf name scope L a cd)) (setFlight (.ref e) none) (fun _ s₃ =>
        wpAny (model PG w) (A₀.deeper (envOf name scope L a cd)) (handleBy (.ref e) (envOf name scope L a cd) (.ExceptHandler (some (.Name x np)) (some n) (b₀ :: suite) pos :: rest)) Q E s₃) E s₂) E ⟨h', gn, dr, tk, os⟩ := by
  obtain ⟨B, hB, hg, hl, fx⟩ := R
  refine noteX (s := ⟨h', gn, dr, tk, os⟩) (Around.frames_deeper K.stack) rfl fx fun h₄ fx₄ u₄ => ?_
  refine landX fx₄ fun h₅ fx₅ u₅ => ?_
  obtain ⟨g₅, vs₅, K₅, F₅, X₅, T₅, so₅, N₅⟩ := held_state K Xb Tb hgL rfl hg hl fx₅ ((U.trans u₄).trans u₅) (u₅.ns (u₄.ns S))
  refine wpAny_handleBy_cons (codeAny_handlers_test (name_K F₅ X₅ (topRead_of T₅) ex ?_ hk hx hd)) (by intro q; cases q)
  refine wpAny_excMatches_sub_self (F₅.keep _ _ (X₅ 31 _ rfl)) (N₅ _ (.head _)).1 hcls (by decide +kernel) (codeAny_handlers_suite_as ?_)
  refine landX fx₅ fun h₆ fx₆ u₆ => ?_
  obtain ⟨g₆, vs₆, K₆, F₆, X₆, T₆, so₆, N₆⟩ := held_state K Xb Tb hgL rfl hg hl fx₆ (((U.trans u₄).trans u₅).trans u₆) (u₆.ns (u₅.ns (u₄.ns S)))
  refine stN F₆ N₆ (fun h₇ F₇ N₇ => ?_) hk hlo
  exact k g₆ _ _ _ K₆ F₇ N₇ X₆ T₆ so₆
end
section
variable {prog : Program} {w : World} {A A₀ : Around} {s : Shared} {K : Frag} {L : Addr} {h₀ base : Heap} {m mg mb : Str → Option Value} {news : List (Addr × Obj)} {p : Program} {loose : List Str} {mean : ExcName → Option Value}
/-- the call of a def, with its return as it is -/
theorem code_defY {env : Env} {outer : List Env} {R : Result → Shared → Prop} {name qual : Str} {params : Arguments} {body : List Stmt} {scope : Scope} {dV kV doc pm cdv ct oc : Value} {an od : Option Addr} {osl : Array (Option Value)} {f : Addr} {args : Args} {binds : List (Str × Value)}
    (B : Below A₀ base outer h₀) (F : Fr h₀ L s.heap m) (X₀ : K.In h₀) (N : News h₀ L s.heap news) (T : Top p loose mean mg mb h₀) (hA : A.frames = some (env :: outer)) (hf : env.frame = some L) (hke : env.scope.kind = .function)
    (ho : K.lookup f = some ⟨oc, od, .func (fnOf name qual params body scope dV kV doc pm an cdv ct), osl⟩) (hcd : codeIn K cdv qual = true) (hroom : A.depth < recursionLimit)
    (hbind : BindsTo s (fnOf name qual params body scope dV kV doc pm an cdv ct) args binds) (hloc : ∀ y ∈ binds, scope.names.lookup y.1 = some .local)
    (h : ∀ g L' h₁, Fr h₀ L g m → Fr g L' h₁ (fun y => binds.reverse.lookup y) → News g L' h₁ news → Below A base (env :: outer) g → K.In g → Top p loose mean mg mb g → (∀ p ∈ news, p.1 < L') →
      wpAny (model prog w) (A.deeper (envOf qual scope L' f cdv)) (execs body (envOf qual scope L' f cdv))
        (fun fl s' => R (.ok (.ret (match fl with | .ret v => v | _ => .none))) s')
        (fun e s' => wpAny (model prog w) (A.deeper (envOf qual scope L' f cdv)) (leaving (envOf qual scope L' f cdv) e) (fun _ s'' => R (.error e) s'') (fun e' s'' => R (.error e') s'') s')
        { s with heap := h₁, toks := s.toks + binds.length })
    (hco : scope.isCoroutine = false) (hgen : scope.isGenerator = false) (hk : scope.kind = .function)
    (hcell : ∀ x ∈ scope.names, x.2 ≠ .cell) : codeAny (model prog w) A (.call (.ref f) args) R s := by
  obtain ⟨FG, BG, st, _⟩ := groundX (R := R) B F N hA hf hke
  refine codeAny_call_def (fd := fnOf name qual params body scope dV kV doc pm an cdv ct) (body := body) (binds := binds) hroom ((X₀.keeps F.keep) _ _ ho) rfl (T.nolimit.keeps F.keep) (codeRec_of (X₀.keeps F.keep) hcd) rfl hbind hcell hloc (fun h₁ hns hk₁ => ?_) hco hgen hk
  exact h _ s.heap.objs.size h₁ FG ⟨hns, fun b o e => hk₁ b o (of_hideAll _ e), Nat.le_of_eq (hideAll_size _ _)⟩
    (fun p hp => ⟨hk₁ _ _ (N p hp).1, Nat.ne_of_lt (Heap.lt_size (N p hp).1), hideAll_none _ (List.mem_map_of_mem hp)⟩) BG (X₀.keeps st) (T.keeps st) (fun p hp => Heap.lt_size (N p hp).1)
end
section
variable {w : World} {A₀ : Around} {base h₀ g g' h : Heap} {env : Env} {outer : List Env} {L₀ L : Addr} {m₀ m : Str → Option Value} {news : List (Addr × Obj)} {p : Program} {loose : List Str} {mean : ExcName → Option Value} {mg mb : Str → Option Value}
theorem soft_exit (K : Below A₀ base outer h₀) (Xb : (Mine.hd.heap_39 w.params).In base) (Tb : Top p loose mean mg mb base) (FG : Fr h₀ L₀ g m₀) (so : Soft (env :: outer) g g') (F : Fr g' L h m) (N : News g' L h news) (hf : env.frame = some L₀) :
    ∃ h₁, Below A₀ base outer h₁ ∧ Fr h₁ L₀ h m₀ ∧ News h₁ L₀ h news ∧ (Mine.hd.heap_39 w.params).In h₁ ∧ Top p loose mean mg mb h₁ ∧ Soft outer h₀ h₁ := by
  have hL : h₀.get? L₀ = none := Heap.get?_none_of_le FG.above
  have step : ∀ b x, h₀.get? b = some x → b ∉ outer.filterMap (·.frame) → g'.get? b = some x := fun b x e hm => so.1 b x (FG.keep b x e) fun hm' => by
    rw [List.filterMap_cons, hf] at hm'
    rcases List.mem_cons.mp hm' with q | q
    · rw [q, hL] at e; cases e
    · exact hm q
  have up : h₀.UpToSlots g' := (Heap.UpToSlots.of_keeps FG.keep).trans so.2
  obtain ⟨h₁, K₁, st, X₁, T₁, so₁, no, sz⟩ := patched K Xb Tb (fun b x e hm => F.keep b x (step b x e hm)) (up.trans (Heap.UpToSlots.of_keeps F.keep))
  have nsg : g'.Ns L₀ m₀ := so.2.ns FG.ns
  refine ⟨h₁, K₁, ⟨nsg.keeps F.keep, st, by rw [sz]; exact FG.above⟩, fun q hq => ⟨(N q hq).1, fun z => ?_, no _ ?_⟩, X₁, T₁, so₁⟩
  · obtain ⟨o, _, _, ho, _⟩ := nsg
    rw [← z, (N q hq).2.2] at ho; cases ho
  · cases e : h₀.get? q.1 with
    | none => rfl
    | some x =>
      have : ∃ y, g'.get? q.1 = some y := by
        by_cases hm : q.1 ∈ outer.filterMap (·.frame)
        · obtain ⟨_, y, hy, hn⟩ := K.frames.mem hm
          obtain ⟨sl, hs⟩ := up _ _ hy hn
          exact ⟨_, hs⟩
        · exact ⟨_, step _ _ e hm⟩
      obtain ⟨y, hy⟩ := this
      rw [(N q hq).2.2] at hy; cases hy
end
/-- what a call's state is, for a call that catches inside -/
noncomputable abbrev CallS (w : World) (f : Addr) (D U : Nat) (news : List (Addr × Obj)) (vs : List Value) (post : (Value → List (Addr × Obj) → Prop) → Prop) : Prop :=
  ∀ (p : Program) (loose : List Str) (mean : ExcName → Option Value) (mg mb : Str → Option Value) (dp un : Nat) (gd : Option (List Code)) (cn : Str) (cs : Scope) (a : Addr) (ccd : Value) (cl : List (Str × Addr)) (outer : List Env) (A₀ : Around) (base h₀ : Heap) (L : Addr) (m : Str → Option Value) (s : Shared)
    (Q E : Value → Shared → Prop),
    Below A₀ base outer h₀ → Fr h₀ L s.heap m → (Mine.hd.heap_39 w.params).In h₀ → News h₀ L s.heap news → Top p loose mean mg mb h₀ → (Mine.hd.heap_39 w.params).In base → Top p loose mean mg mb base → cs.kind = .function → dp + D < recursionLimit → un + U < cLine →
    post (fun v news' => ∀ (g' h' : Heap) (tk' : Nat), Below A₀ base outer g' → Fr g' L h' m → News g' L h' news' → (Mine.hd.heap_39 w.params).In g' → Top p loose mean mg mb g' → Soft outer h₀ g' → Q v { s with heap := h', toks := tk' }) →
    wpAny (model PG w) (ktrTop dp un gd cn cs L a ccd cl outer) (call (.ref f) vs) Q E s
end Mine
end

-- D23
section
theorem Mine.zz_D23 : True := by
  k_with_none
  trivial
set_option maxRecDepth 100000
set_option maxHeartbeats 4000000
namespace Mine
theorem look_dict {od : Obj} {m : Str → Option Value} {n : Str} {v : Value} (D : DictIs od m) (hv : m n = some v) : lookIn n od = some (some v) := by
  obtain ⟨es, ep, hd, _, _, hf⟩ := D
  have q := hf n
  rw [hv] at q
  unfold nsFind findBy at q
  rw [← Array.find?_toList] at q
  unfold lookIn
  rw [hd]
  dsimp only
  obtain ⟨en, he, rfl⟩ := Option.map_eq_some_iff.mp q
  rw [show List.find? (fun x => x.key.isStr n) es.toList = some en from he]
theorem kind_find {w : World} {od : Obj} {v : Value} (hl : lookIn (Str.ofString "kind") od = some (some v)) : findObj (Mine.hd.heap_39 w.params) 31 (some od) (Str.ofString "kind") = some (.value v) := by
  obtain ⟨cd, hc, hdct⟩ : ∃ cd, clsIn (Mine.hd.heap_39 w.params) 31 = some cd ∧ cd.hasDict = true := ⟨_, rfl, rfl⟩
  have ha : findIn (Mine.hd.heap_39 w.params) (.ref 31) (Str.ofString "kind") = some none := by kernel_rfl
  unfold findObj
  rw [hc, Option.bind_some, ha, Option.bind_some]
  dsimp only
  rw [Option.bind_some, Option.bind_some]
  unfold PySem.W.ownOf
  rw [if_pos hdct]
  dsimp only
  rw [hl]
  rfl
theorem ga31 {w : World} : findIn (Mine.hd.heap_39 w.params) (.ref 31) "__getattribute__" = some (some (.builtin "BaseException.__getattribute__")) := by kernel_rfl
theorem gh31 {w : World} : findIn (Mine.hd.heap_39 w.params) (.ref 31) "__getattr__" = some none := by kernel_rfl
theorem mro31 {w : World} : mroIn (Mine.hd.heap_39 w.params) 31 (.type "BaseException") = some true := by kernel_rfl
section
variable {w : World} {A : Around} {E : Value → Shared → Prop} {h : Heap} {g : Array GenState} {d : Drawn} {t : Nat} {os : OsState} {x : Addr} {ox : Obj} {od : Option Obj} {name : Str} {v : Value} {expr : Bool}
theorem ownX_check {nameV : Value} {Q : Unit → Shared → Prop} (X : (Mine.hd.heap_39 w.params).In h) (I : InstAt h x ox 31 od) (hq : Q () ⟨h, g, d, t, os⟩) : wpAny (model PG w) A (checkBuiltinCall "BaseException.__getattribute__" ⟨[.ref x, nameV], []⟩) Q E ⟨h, g, d, t, os⟩ := by
  have c1 : builtinKind "BaseException.__getattribute__" = some .slot := by decide +kernel
  have c2 : splitId "BaseException.__getattribute__" = some ("BaseException", "__getattribute__") := by decide +kernel
  have c3 := PySem.F.args_bexc_ga (.ref x) nameV
  have L0 := I.type (M := model PG w)
  have L1 := looks_mroIn (M := model PG w) X mro31
  simp only [checkBuiltinCall, c1, c2]
  refine wpAny_bind ?_
  unfold isInstance
  refine wpAny_bind (L0.at ?_)
  refine L1.at ?_
  repeat (first | exact hq | assumption | wp_step)
theorem ownX_call {tk : Tok} {R : Result → Shared → Prop} (X : (Mine.hd.heap_39 w.params).In h) (I : InstAt h x ox 31 od) (hf : findObj (Mine.hd.heap_39 w.params) 31 od name = some (.value v)) (hq : R (.ok (.ret v)) ⟨h, g, d, t, os⟩) :
    codeAny (model PG w) A (.call (.builtin "BaseException.__getattribute__") ⟨[.ref x, .str name tk], []⟩) R ⟨h, g, d, t, os⟩ := by
  have L0 := I.type (M := model PG w)
  have L1 := looks_find (M := model PG w) X I hf
  refine codeAny_call_builtin PySem.F.attrBase_Exception.ga.plain PySem.F.entry_bexc_ga (ownX_check X I ?_)
  unfold Builtin.«object.__getattribute__»
  refine wpAny_bind (wpAny_pure ?_)
  refine wpAny_bind (wpAny_pure ?_)
  refine wpAny_bind (L0.at (wpAny_bind (L1.at ?_)))
  exact wpAny_pure hq
theorem ownX_get {Q : Value → Shared → Prop} (X : (Mine.hd.heap_39 w.params).In h) (I : InstAt h x ox 31 od) (hf : findObj (Mine.hd.heap_39 w.params) 31 od name = some (.value v)) (hh : handedIn v = true) (hq : Q v ⟨h, g, d, t + 1, os⟩) :
    wpAny (model PG w) A (getAttr (.ref x) name expr) Q E ⟨h, g, d, t, os⟩ := by
  have L0 := I.type (M := model PG w)
  have L1 := looks_findIn (M := model PG w) X ga31
  have L2 := looks_findIn (M := model PG w) X gh31
  have f3 := PySem.F.attrBase_Exception.ga.bind (.ref x)
  have hx0 : (expr && onTheHeap (Value.builtin "BaseException.__getattribute__")) = false := by cases expr <;> rfl
  have hx2 : (Value.builtin "BaseException.__getattribute__" == Value.builtin "object.__getattribute__") = false := by decide +kernel
  have hx1 : (onTheHeap (Value.ref 31) && Value.builtin "BaseException.__getattribute__" == Value.builtin "object.__getattribute__") = false := by rw [hx2]; rfl
  unfold getAttr getAttrBy
  refine wpAny_bind (wpAny_mkText (wpAny_holding (wpAny_bind (L0.at (wpAny_bind (L1.at ?_))))))
  dsimp only
  rw [if_neg (by rw [hx1]; decide)]
  repeat (any_goals (first | assumption | with_reducible refine L2.at ?_ | with_reducible refine L0.at ?_ | with_reducible refine L1.at ?_ | wp_step))
  refine ownX_call X I hf ?_
  repeat (any_goals (first | assumption | wp_step))
  show wpAny _ _ (handedOut v) _ _ _
  rw [handedOut_of hh]; exact wpAny_pure hq
end
section
variable {w : World} {A : Around} {E : Value → Shared → Prop} {s : Shared} {h₀ : Heap} {L e b dx : Addr} {m : Str → Option Value} {news : List (Addr × Obj)} {k t : Value} {od : Obj} {vs : Array Value} {expr : Bool} {Q : Value → Shared → Prop}
theorem kind_K (X : (Mine.hd.heap_39 w.params).In h₀) (F : Fr h₀ L s.heap m) (N : News h₀ L s.heap news) (he : (e, ({ (exD b dx) with data := .fields vs } : Obj)) ∈ news) (hd : (dx, od) ∈ news) (D : DictIs od (casMap k t)) (hh : handedIn k = true)
    (h : Q k { s with toks := s.toks + 1 }) : wpAny (model PG w) A (getAttr (.ref e) (Str.ofString "kind") expr) Q E s := by
  obtain ⟨hp, g, d, t', os⟩ := s
  refine ownX_get (X.keeps F.keep) (ox := { (exD b dx) with data := .fields vs }) (od := some od) ⟨(N _ he).1, rfl, rfl, (N _ hd).1⟩ (kind_find (look_dict D ?_)) hh h
  unfold casMap
  rw [if_neg (by decide)]
  exact if_pos rfl
end
end Mine
end

-- C19
section
theorem Mine.zz_C19 : True := by
  k_with_none
  trivial
set_option maxRecDepth 100000
set_option maxHeartbeats 8000000
namespace Mine
theorem refused_spec (w : World) (news) (f D U : Nat) (oc : Value) (od : Option Addr) (fd : FuncData) (sl : Array (Option Value)) (hfn : (f, (⟨oc, od, .func fd, sl⟩ : Obj)) ∈ news) (C : CallX w f D U news [] (failPost news (Str.ofString "domain"))) : CallS w 145 (D + 6) (U + 60) news [.ref f]
    (fun R => ∀ t news', SubOf news news' → R (.str (Str.ofString "domain") t) news') := by
  intro p loose mean mg mb dp un gd cn cs a ccd cl outer A₀ base h₀ L m s Q E B F X N T Xb Tb hk hd hu hret
  refine wpAny_call ?_
  k_dflt ((refine' code_defY ?k1 ?k2 ?k3 ?k4 ?k5 ?kA ?kF ?kK ?k6 ?k7 ?k8 ?k9 ?kB ?_ ?c2 ?c3 ?c4 ?c5; (case kA => exact rfl); (case kF => exact rfl); (case kK => assumption); (case k1 => k_asm); (case k2 => k_asm); (case k3 => k_asm); (case k4 => k_asm); (case k5 => k_asm); (case k6 => k_is); (case k7 => k_is); (case k8 => ktr_room); (case k9 => exact BindsTo.of_eq rfl); (case c5 => decide); (case kB => exact locs rfl); (case c2 => exact rfl); (case c3 => exact rfl); (case c4 => exact rfl); k_whole; intro gF LF hF FGF FF NF BF XF TF lF; (try dsimp only); (try k_fold)))
  k_with_none
  k_with "callWith ref" => (k_dflt (refine callWith_F0 (FnAt.of (by k_asm) hfn) ?_; dsimp only [List.nil_append]))
  k_with "call ref" => (((refine' CallX.use C ?k1 ?k2 ?k3 ?k4 ?k5 ?kK ?kd ?ku ?_; (case k1 => k_asm); (case k2 => k_asm); (case k3 => k_asm); (case k4 => k_asm); (case k5 => k_asm); (case kK => first | exact rfl | assumption); (case kd => ktr_room); (case ku => ktr_units))))
  k_steps
  rename RaisedY _ _ _ _ _ _ _ _ => R2
  rename Heap.UpToSlots _ _ => U2
  rename Heap.Ns _ _ _ => S2
  rename DictIs _ _ => D2
  rename (_, _) ∈ _ => dm
  rename SubOf _ _ => xs
  rename Apart _ _ => xe
  refine caught_X BF FF.above U2 S2 R2 rfl Xb Tb (by k_is) ?_
  intro g1 h1 vs tk1 K1 F1 N1 X1 T1 so1
  clear FF NF BF XF TF
  k_with_none
  k_with "getAttr" => (k_dflt (refine kind_K X1 (by k_asm) (by k_asm) (.head _) (.tail _ dm) D2 rfl ?_))
  k_steps
  rename Fr g1 LF _ _ => F9
  rename News g1 LF _ _ => N9
  obtain ⟨h2, K2, F2, N2, X2, T2, so2⟩ := soft_exit B Xb Tb FGF so1 F9 N9 rfl
  exact hret _ _ (fun p hp => .tail _ (xs p hp)) h2 _ _ K2 F2 N2 X2 T2 so2
end Mine
end

-- C20
section
theorem Mine.zz_C20 : True := by
  k_with_none
  trivial
set_option maxRecDepth 100000
set_option maxHeartbeats 8000000
namespace Mine
noncomputable abbrev bxO (c : Nat) (l : List Value) : Obj := W.listOf l.toArray c
theorem set1_K {cb : Nat} {w : World} {A : Around} {E : Value → Shared → Prop} {s : Shared} {h₀ : Heap} {L b : Addr} {m : Str → Option Value} {rest : List (Addr × Obj)} {v0 v1 v : Value} {t : Tok} {Q : Unit → Shared → Prop} (F : Fr h₀ L s.heap m) (N : News h₀ L s.heap ((b, bxO cb [v0, v1]) :: rest)) (hne : ∀ p ∈ rest, p.1 ≠ b)
    (h : ∀ h', Fr h₀ L h' m → News h₀ L h' ((b, bxO cb [v0, v]) :: rest) → Q () { s with heap := h' }) : wpAny (model PG w) A (setItem (.ref b) (.int 1 t) v) Q E s := by
  have z := N _ (.head _)
  refine ki_setAt (items := #[v0, v1]) (n := cb) z.1 (by decide) (by decide) (show (1 : Int) < 2 from by decide) (h _ (F.change (Heap.SameBut.update ..) z.2.1 z.2.2) ?_)
  exact ki_turn (pre := []) (its := #[v0, v1]) (n := cb) (n' := cb) _ N (fun _ hp => nomatch hp) hne rfl rfl
theorem take_core (w : World) (rest) (cb cc : Nat) (b l : Addr) (vs : List Value) (ns : List Int) (hi : IntsAre vs ns) (k : Int) (t tm : Tok) (many : Nat) (hbl : b ≠ l) (hne : ∀ p ∈ rest, p.1 ≠ b) (hv : vs.length ≤ 8) (hk0 : 0 ≤ k) (hk1 : k ≤ 100) (hm : 1 ≤ many) (hm2 : many ≤ 100) :
    Call w 138 3 80 ((b, bxO cb [.ref l, .int k t]) :: (l, bxO cc vs) :: rest) [.ref b, .int (many : Int) tm]
    (fun R => ∀ r t t', 0 ≤ r → r < (many : Int) → R (.int r t) ((b, bxO cb [.ref l, .int (k + 1) t']) :: (l, bxO cc vs) :: rest)) := by
  intro p loose mean mg mb dp un gd cn cs a ccd cl outer A₀ base h₀ L m s Q E B F X N T hk hd hu hret
  have hne' : ∀ p ∈ (l, bxO cc vs) :: rest, p.1 ≠ b := fun p hp => (List.mem_cons.mp hp).elim (fun e => e ▸ hbl.symm) (hne p)
  refine wpAny_call ?_
  k_dflt ktr_enter
  k_with_none
  k_with "my set" => (k_dflt (refine' set1_K ?F ?N ?k ?_; (case F => k_asm); (case N => k_asm); (case k => exact hne')); intro hS FS NS; (try k_sweep))
  k_with "call builtin:len" => (k_dflt (rename News _ _ hS _ => NS; refine len_list (l := l) (PySem.IsL.isList (n := cc) (NS (l, bxO cc vs) (by (((repeat (first | with_reducible assumption | with_reducible exact List.mem_cons_self | with_reducible refine List.mem_cons_of_mem _ ?_)); done)))).1) (by rw [List.size_toArray]; omega) ?_))
  k_with "subscriptTail" => (k_dflt (rename News _ _ hS _ => NS; (with_unfolding_all refine' item_anyK (PySem.IsL.isList (n := cc) (NS (l, bxO cc vs) (by (((repeat (first | with_reducible assumption | with_reducible exact List.mem_cons_self | with_reducible refine List.mem_cons_of_mem _ ?_)); done)))).1) hi ?k3 ?k4 ?k5 ?_ ?k6); (case k3 => omega); (case k4 => (have := hi.length; simp only [List.size_toArray] at *; omega)); (case k5 => omega); (case k6 => with_unfolding_all rfl); intro ti))
  k_steps
  · exact hret _ _ _ (Int.fmod_nonneg_of_pos _ (by omega)) (Int.fmod_lt_of_pos _ (by omega)) _ _ (by k_asm) (by k_asm)
  · exact hret _ _ _ (Int.fmod_nonneg_of_pos _ (by omega)) (Int.fmod_lt_of_pos _ (by omega)) _ _ (by k_asm) (by k_asm)
/-- `news` with the object at `b` changed -/
noncomputable def SetAt (news news' : List (Addr × Obj)) (b : Addr) (o : Obj) : Prop := (b, o) ∈ news' ∧ ∀ p ∈ news, p.1 ≠ b → p ∈ news'
/-- the law's box, that stands at `k` -/
noncomputable def BoxAt (news : List (Addr × Obj)) (b : Addr) (k : Int) : Prop := ∃ l vs ns t cb cc, b ≠ l ∧ vs.length ≤ 8 ∧ IntsAre vs ns ∧ (b, bxO cb [.ref l, .int k t]) ∈ news ∧ (l, bxO cc vs) ∈ news
theorem take_spec (w : World) (news) (b : Addr) (tm : Tok) (k many : Int) (S : BoxAt news b k) (hk0 : 0 ≤ k) (hk1 : k ≤ 100) (hm : 1 ≤ many) (hm2 : many ≤ 100) : Call w 138 3 80 news [.ref b, .int many tm]
    (fun R => ∀ r t news' , 0 ≤ r → r < many → BoxAt news' b (k + 1) → (∀ p ∈ news, p.1 ≠ b → p ∈ news') → R (.int r t) news') := by
  obtain ⟨l, vs, ns, t, cb, cc, hbl, hv, hi, hb, hl⟩ := S
  obtain ⟨M, rfl⟩ : ∃ M : Nat, many = (M : Int) := ⟨many.toNat, by omega⟩
  intro p loose mean mg mb dp un gd cn cs a ccd cl outer A₀ base h₀ L m s Q E B F X N T hk hd hu hret
  refine take_core w (news.filter fun p => decide (p.1 ≠ b)) cb cc b l vs ns hi k t tm M hbl (fun p hp => of_decide_eq_true (List.mem_filter.mp hp).2) hv hk0 hk1 (by omega) (by omega) p loose mean mg mb dp un gd cn cs a ccd cl outer A₀ base h₀ L m s Q E B F X (fun p hp => N p ?_) T hk hd hu ?_
  · rcases List.mem_cons.mp hp with rfl | hp
    · exact hb
    rcases List.mem_cons.mp hp with rfl | hp
    · exact hl
    · exact (List.mem_filter.mp hp).1
  · intro r t1 t2 h1 h2
    exact hret r t1 _ h1 h2 ⟨l, vs, ns, t2, cb, cc, hbl, hv, hi, .head _, .tail _ (.head _)⟩ fun p hp hne => .tail _ (.tail _ (List.mem_filter.mpr ⟨hp, decide_eq_true hne⟩))
theorem take_upd (w : World) (news) (g : Obj → List (Addr × Obj)) (cb cc : Nat) (b l : Addr) (vs : List Value) (ns : List Int) (k : Int) (t tm : Tok) (many : Int) (hi : IntsAre vs ns) (hbl : b ≠ l) (hv : vs.length ≤ 8) (U : UpdF b (bxO cb [.ref l, .int k t]) news g) (hl : (l, bxO cc vs) ∈ news) (hk0 : 0 ≤ k) (hk1 : k ≤ 100) (hm : 1 ≤ many) (hm2 : many ≤ 100) : Call w 138 3 80 news [.ref b, .int many tm]
    (fun R => ∀ r t t', 0 ≤ r → r < many → R (.int r t) (g (bxO cb [.ref l, .int (k + 1) t']))) := by
  obtain ⟨M, rfl⟩ : ∃ M : Nat, many = (M : Int) := ⟨many.toNat, by omega⟩
  obtain ⟨own, post, rfl, hg, ho, hp⟩ := U.split
  intro p loose mean mg mb dp un gd cn cs a ccd cl outer A₀ base h₀ L m s Q E B F X N T hk hd hu hret
  refine take_core w (own ++ post) cb cc b l vs ns hi k t tm M hbl (fun p hp' => (List.mem_append.mp hp').elim (ho p) (hp p)) hv hk0 hk1 (by omega) (by omega) p loose mean mg mb dp un gd cn cs a ccd cl outer A₀ base h₀ L m s Q E B F X (fun p hp' => N p ?_) T hk hd hu ?_
  · rcases List.mem_cons.mp hp' with rfl | hp'
    · exact List.mem_append_right _ (.head _)
    rcases List.mem_cons.mp hp' with rfl | hp'
    · exact hl
    · exact (List.mem_append.mp hp').elim (List.mem_append_left _) fun h => List.mem_append_right _ (.tail _ h)
  · intro r t1 t2 h1 h2 h' tk' F' N'
    refine hret r t1 t2 h1 h2 h' tk' F' fun p hp' => N' p ?_
    rw [hg] at hp'
    rcases List.mem_append.mp hp' with q | q
    · exact .tail _ (.tail _ (List.mem_append_left _ q))
    rcases List.mem_cons.mp q with rfl | q
    · exact .head _
    · exact .tail _ (.tail _ (List.mem_append_right _ q))
end Mine
end

-- D24
section
theorem Mine.zz_D24 : True := by
  k_with_none
  trivial
set_option maxRecDepth 100000
set_option maxHeartbeats 4000000
namespace Mine
open PyProof.Rows.LCg
section
variable {w : World} {A : Around} {E : Value → Shared → Prop} {s : Shared} {h₀ : Heap} {L d : Addr} {m : Str → Option Value} {news : List (Addr × Obj)} {l : PSum}
theorem ns_ne {h : Heap} {a C : Addr} {oC : Obj} {m₂ : Str → Option Value} {vs : List Value} {k : Nat} (N : News h₀ L h news) (ha : (a, tupO vs k) ∈ news) (hC : (C, oC) ∈ news) (hn : NsObj oC m₂) : a ≠ C := by
  rintro rfl
  have := (N _ ha).1.symm.trans (N _ hC).1
  have e := Option.some.inj this
  obtain ⟨es, ep, hd, _⟩ := hn
  dsimp only at e
  rw [← e] at hd
  cases hd
theorem stp_mapN {h : Heap} {C : Addr} {oC o' : Obj} {m₂ : Str → Option Value} (N : News h₀ L h news) (hC : (C, oC) ∈ news) (hn : NsObj oC m₂) : Stp w C news (news.map fun p => if p.1 = C then (C, o') else p) := by
  have keep : ∀ p ∈ news, p.1 ≠ C → p ∈ news.map fun p => if p.1 = C then (C, o') else p := fun p hp hpd => List.mem_map.mpr ⟨p, hp, by simp [hpd]⟩
  exact ⟨fun b l n H => H.imp id fun e => keep _ e (ns_ne N e hC hn), keep⟩
theorem stp_filterN {h : Heap} {C : Addr} {oC : Obj} {m₂ : Str → Option Value} (N : News h₀ L h news) (hC : (C, oC) ∈ news) (hn : NsObj oC m₂) : Stp w C news (news.filter fun p => decide (p.1 ≠ C)) := by
  have keep : ∀ p ∈ news, p.1 ≠ C → p ∈ news.filter fun p => decide (p.1 ≠ C) := fun p hp hpd => List.mem_filter.mpr ⟨hp, by simpa using hpd⟩
  exact ⟨fun b l n H => H.imp id fun e => keep _ e (ns_ne N e hC hn), keep⟩

/-- what a turn of a dict comprehension leaves -/
noncomputable def DEnd (w : World) (s : Shared) (h₀ : Heap) (L : Addr) (m : Str → Option Value) (n₁ : List (Addr × Obj)) (a0 a1 : PSum) (P : List (Addr × Obj) → Prop) (kv vv : Value) (s₅ : Shared) : Prop :=
  ∃ a r k c h' tk n₂, kv = .ref a ∧ vv = .ref r ∧ s₅ = { s with heap := h', toks := tk } ∧ Fr h₀ L h' m ∧ News h₀ L h' n₂ ∧ (∀ p ∈ n₁, p ∈ n₂) ∧ KindAt w n₂ a k ∧ RatAt w n₂ r c ∧ a1 = putL a0 k c ∧ P n₂
noncomputable def DSkip (s : Shared) (h₀ : Heap) (L : Addr) (m : Str → Option Value) (n₁ : List (Addr × Obj)) (a0 a1 : PSum) (P : List (Addr × Obj) → Prop) (s₅ : Shared) : Prop :=
  ∃ h' tk n₂, s₅ = { s with heap := h', toks := tk } ∧ Fr h₀ L h' m ∧ News h₀ L h' n₂ ∧ (∀ p ∈ n₁, p ∈ n₂) ∧ a1 = a0 ∧ P n₂
noncomputable def DTest (b : Bool) (T F : Prop) : Prop := if b = true then T else F

theorem dcomp {I : Addr} {n : Nat} {st : Nat → Obj → Prop} {item : Nat → Value → Prop} {base : Heap → Prop} {kx vx iter : PySem.Expr} {ifs : List PySem.Expr} {x : Str} {px : Pos} {scope : Scope} {cl : List (Str × Addr)} {pos : Pos} {env : Env} {o0 : Obj}
    {RR : Value → Addr → Result → Shared → Prop} (W : ItOk w A I n st item base) (self : ∀ (s : Shared) (o : Obj) (Q : Value → Shared → Prop) (E : Value → Shared → Prop), s.heap.get? I = some o → st 0 o → Q (.ref I) s → wpAny (model PG w) A (pyIter (.ref I)) Q E s) (hu : A.units + 2 < cLine) (X : (Mine.hd.heap_39 w.params).In h₀) (hb : h₀.NoLimit)
    (hcell : ∀ y ∈ scope.names, y.2 ≠ .cell) (hkind : scope.kind = .function) (hx : scope.names.lookup x = some .local)
    (F : Fr h₀ L s.heap m) (N : News h₀ L s.heap news) (hI : (I, o0) ∈ news) (h0 : st 0 o0) (acc : Nat → PSum) (ha0 : acc 0 = []) (hsz : ∀ i, i ≤ n → (acc i).length ≤ 100000)
    (P : Nat → List (Addr × Obj) → Prop) (P0 : P 0 news) (stable : ∀ i n₁ n₂ d, I ≤ d → P i n₁ → Stp w d n₁ n₂ → P i n₂) (hbase : ∀ i n₁ h, P i n₁ → Fr h₀ L h m → News h₀ L h n₁ → base h)
    (turn : ∀ i v C oC oI D m₂ n₁ h tk E', i < n → item i v → P i n₁ → (I, oI) ∈ n₁ → (C, oC) ∈ n₁ → NsObj oC m₂ → m₂ x = some v → Fr h₀ L h m → News h₀ L h ((I, oI) :: (C, oC) :: n₁) → SumAt w n₁ D (acc i) →
      wpAny (model PG w) A (forIn ifs true fun c r => if r = true then do let ok ← isTrue c (compEnvC scope cl C env) (eval c (compEnvC scope cl C env)); pure (ForInStep.yield ok) else pure (ForInStep.yield r))
        (fun ok s₃ => DTest ok (wpAny (model PG w) A (eval kx (compEnvC scope cl C env)) (fun kv s₄ => wpAny (model PG w) A (eval vx (compEnvC scope cl C env)) (fun vv s₅ => DEnd w s h₀ L m n₁ (acc i) (acc (i + 1)) (P (i + 1)) kv vv s₅) E' s₄) E' s₃)
          (DSkip s h₀ L m n₁ (acc i) (acc (i + 1)) (P (i + 1)) s₃)) E' { s with heap := h, toks := tk })
    (hRR : ∀ D C h tk m' n₁, Fr h₀ L h m → News h₀ L h n₁ → (∀ p ∈ n₁, p.1 ≠ C) → SumAt w n₁ D (acc n) → P n n₁ → (∀ p ∈ news, p.1 < D) → h.Ns C m' → h₀.get? C = none → C ≠ L → RR (.ref D) C (.ok .next) { s with heap := h, toks := tk }) :
    wpAny (model PG w) A newDict (fun acc s₃ => wpAny (model PG w) A (newFunctionEnv scope env.globals cl [] env.qual none .none (some env)) (fun cenv s₄ =>
      codeAny (model PG w) A (.compStart (.DictComp kx vx [⟨.Name x px, iter, ifs, 0⟩] scope pos) 0 (.ref I) acc { cenv with scope := relabel scope env }) (RR acc cenv.locals) s₄) E s₃) E s := by
  refine newDict_sum F N hb fun D h1 F1 N1 lD S1 => ?_
  refine wpAny_newFunctionEnv hcell (by intro y hy; simp at hy) (fun h₁ hns₁ hsb₁ => ?_) hkind
  dsimp only at hns₁ hsb₁ ⊢
  generalize hCe : h1.objs.size = C at hns₁ hsb₁ ⊢
  have Cn : h1.get? C = none := Heap.get?_none_of_le (Nat.le_of_eq hCe)
  have hIlt : I < s.heap.objs.size := Heap.lt_size (N _ hI).1
  have old : ∀ b o, h1.get? b = some o → h₁.get? b = some o := fun b o e => hsb₁.extBut b o (fun q => by rw [q, Cn] at e; cases e) (Heap.get?_push_of_some _ e)
  have hC₀ : h₀.get? C = none := by
    cases e : h₀.get? C with
    | none => rfl
    | some o => rw [F1.keep _ _ e] at Cn; cases Cn
  have hCL : C ≠ L := fun q => by
    obtain ⟨o, _, _, e, _⟩ := F1.ns
    rw [← q, Cn] at e; cases e
  obtain ⟨oC, hoC, nC⟩ := ns_obj hns₁
  have lC : ∀ p ∈ (D, dictO [] 0) :: news, p.1 < C := fun p hp => hCe ▸ Heap.lt_size (N1 p hp).1
  have hDC : D ≠ C := Nat.ne_of_lt (lC _ (.head _))
  have hID : I < D := lD _ hI
  have hIC : I < C := lC _ (.tail _ hI)
  have N2 : News h₀ L h₁ ((C, oC) :: (D, dictO [] 0) :: news) := fun p hp => by
    rcases List.mem_cons.mp hp with rfl | hp
    · exact ⟨hoC, hCL, hC₀⟩
    · exact ⟨old _ _ (N1 p hp).1, (N1 p hp).2⟩
  have loop : ∀ s₃ : Shared, s₃ = { s with heap := h₁, toks := s.toks + ([] : List (Str × Value)).length } →
      codeAny (model PG w) A (.compLoop (.DictComp kx vx [⟨.Name x px, iter, ifs, 0⟩] scope pos) 0 (.ref I) (.ref D) (compEnvC scope cl C env)) (RR (.ref D) C) s₃ := by
    rintro s₃ rfl
    refine codeAny_compLoop_testsD (fun k s' => ∃ i h tk n₁ oI oC m', s' = { s with heap := h, toks := tk } ∧ i ≤ n ∧ k = n + 1 - i ∧ Fr h₀ L h m ∧ News h₀ L h n₁ ∧ (I, oI) ∈ n₁ ∧ st i oI ∧ (C, oC) ∈ n₁ ∧ NsObj oC m' ∧ SumAt w n₁ D (acc i) ∧ P i n₁) ?_ (n + 1)
      ⟨0, h₁, _, _, o0, oC, _, rfl, Nat.zero_le _, rfl, F1.keeps old, N2, .tail _ (.tail _ hI), h0, .head _, nC, ha0 ▸ S1.mono allIn1, stable 0 _ _ D (Nat.le_of_lt hID) P0 (Stp.of fun p hp => .tail _ (.tail _ hp))⟩
    rintro k _ ⟨i, h, tk, n₁, oI, oC, m', rfl, hi, rfl, F, N, hI, hst, hC, nC, S, p1⟩
    have hbs := hbase _ _ _ p1 F N
    have hcl := W.cls _ _ hst
    rcases Nat.lt_or_ge i n with hlt | hge
    · refine W.next i _ oI _ _ hlt (N _ hI).1 hst hbs fun v h2 oI2 tk2 hv ho2 hst2 hs2 => ?_
      have Na : News h₀ L h2 (n₁.map fun p => if p.1 = I then (I, oI2) else p) := N.replace hs2 ho2
      have sa : Stp w I n₁ (n₁.map fun p => if p.1 = I then (I, oI2) else p) := stp_map N hI hcl.1
      have Fa : Fr h₀ L h2 m := F.change hs2 (N _ hI).2.1 (N _ hI).2.2
      have hIa : (I, oI2) ∈ (n₁.map fun p => if p.1 = I then (I, oI2) else p) := List.mem_map.mpr ⟨_, hI, by simp⟩
      have hCa := sa.2 _ hC (Nat.ne_of_gt hIC)
      have Sa := S.stp sa (Nat.ne_of_gt hID)
      have pa := stable _ _ _ I (Nat.le_refl _) p1 sa
      generalize (n₁.map fun p => if p.1 = I then (I, oI2) else p) = na at Na sa hIa hCa Sa pa
      refine wpAny_assign_Name (wpAny_storeName_local (lookup_relabel_local hx) (nC.ns (Na _ hCa).1) (fun h3 hn3 hs3 => ?_) (by simp [compEnvC, relabel, hkind]))
      obtain ⟨oC3, hoC3, nC3⟩ := ns_obj hn3
      have Nb : News h₀ L h3 (na.map fun p => if p.1 = C then (C, oC3) else p) := Na.replace hs3 hoC3
      have sb : Stp w C na (na.map fun p => if p.1 = C then (C, oC3) else p) := stp_mapN Na hCa nC
      have Fb : Fr h₀ L h3 m := Fa.change hs3 hCL hC₀
      have hCb : (C, oC3) ∈ (na.map fun p => if p.1 = C then (C, oC3) else p) := List.mem_map.mpr ⟨_, hCa, by simp⟩
      have hIb := sb.2 _ hIa (Nat.ne_of_lt hIC)
      have Sb := Sa.stp sb hDC
      have pb := stable _ _ _ C (Nat.le_of_lt hIC) pa sb
      generalize (na.map fun p => if p.1 = C then (C, oC3) else p) = nb at Nb sb hIb hCb Sb pb
      refine wpAny_mono (turn i v C oC3 oI2 D _ nb h3 _ _ hlt hv pb hIb hCb nC3 (by simp) Fb (fun p hp => ?_) Sb) (fun ok s₃ h₃ => ?_) fun _ _ e => e
      · rcases List.mem_cons.mp hp with rfl | hp
        · exact Nb _ hIb
        rcases List.mem_cons.mp hp with rfl | hp
        · exact Nb _ hCb
        · exact Nb p hp
      · cases ok with
        | false =>
          obtain ⟨h4, tk4, n4, rfl, F4, N4, sub, ea, p4⟩ := (show DSkip s h₀ L m nb (acc i) (acc (i + 1)) (P (i + 1)) s₃ from h₃)
          exact ⟨n + 1 - (i + 1), by omega, i + 1, h4, tk4, n4, oI2, oC3, _, rfl, hlt, rfl, F4, N4, sub _ hIb, hst2, sub _ hCb, nC3, ea ▸ Sb.mono sub, p4⟩
        | true =>
          refine wpAny_mono (show wpAny _ _ _ _ _ _ from h₃) (fun kv s₄ h₄ => wpAny_mono h₄ (fun vv s₅ h₅ => ?_) fun _ _ e => e) fun _ _ e => e
          obtain ⟨a, r, k, c, h4, tk4, n4, rfl, rfl, rfl, F4, N4, sub, K, R, ea, p4⟩ := h₅
          refine dictSet_sum hu X F4 N4 (Sb.mono sub) K R (hsz i hi) fun h6 tk6 n6 F6 N6 S6 st6 => ?_
          exact ⟨n + 1 - (i + 1), by omega, i + 1, h6, tk6, n6, oI2, oC3, _, rfl, hlt, rfl, F6, N6, st6.2 _ (sub _ hIb) (Nat.ne_of_lt hID), hst2, st6.2 _ (sub _ hCb) (Ne.symm hDC), nC3, ea ▸ S6, stable _ _ _ D (Nat.le_of_lt hID) p4 st6⟩
    · obtain rfl : i = n := Nat.le_antisymm hi hge
      refine W.stop _ oI _ _ (N _ hI).1 hst hbs fun h2 tk2 hs2 => ?_
      have fI : ∀ p ∈ n₁.filter (fun p => decide (p.1 ≠ I)), p ∈ n₁ ∧ p.1 ≠ I := fun p hp => ⟨(List.mem_filter.mp hp).1, of_decide_eq_true (List.mem_filter.mp hp).2⟩
      have Na : News h₀ L h2 (n₁.filter fun p => decide (p.1 ≠ I)) := fun p hp => ⟨hs2 _ _ (fI p hp).2 (N p (fI p hp).1).1, (N p (fI p hp).1).2⟩
      have sa : Stp w I n₁ (n₁.filter fun p => decide (p.1 ≠ I)) := stp_filter N hI hcl.1
      have hCa := sa.2 _ hC (Nat.ne_of_gt hIC)
      have Sa := S.stp sa (Nat.ne_of_gt hID)
      have pa := stable _ _ _ I (Nat.le_refl _) p1 sa
      have Fa : Fr h₀ L h2 m := by
        obtain ⟨oL, a1, a2, hoL, a3⟩ := F.ns
        refine ⟨⟨oL, a1, a2, hs2 _ _ (N _ hI).2.1.symm hoL, a3⟩, fun b o eb => hs2 _ _ ?_ (F.keep b o eb), F.above⟩
        rintro rfl
        rw [(N _ hI).2.2] at eb; cases eb
      generalize (n₁.filter fun p => decide (p.1 ≠ I)) = na at Na sa hCa Sa pa
      have sb : Stp w C na (na.filter fun p => decide (p.1 ≠ C)) := stp_filterN Na hCa nC
      exact hRR D C h2 tk2 m' _ Fa (fun p hp => Na p (List.mem_filter.mp hp).1) (fun p hp => of_decide_eq_true (List.mem_filter.mp hp).2) (Sa.stp sb hDC) (stable _ _ _ C (Nat.le_of_lt hIC) pa sb) lD (nC.ns (Na _ hCa).1) hC₀ hCL
  exact codeAny_compStart_dict (loop _ rfl) (self _ _ _ _ (N2 _ (.tail _ (.tail _ hI))).1 h0 (loop _ rfl))
end
end Mine
end

-- D25
section
theorem Mine.zz_D25 : True := by
  k_with_none
  trivial
set_option maxRecDepth 100000
set_option maxHeartbeats 4000000
namespace Mine
open PyProof.Rows.LCg
section
variable {w : World} {A : Around} {E : Value → Shared → Prop} {s : Shared} {env : Env}
/-- a dict comprehension over range(n) -/
noncomputable def SrcR (w : World) (A : Around) (env : Env) (kx vx : PySem.Expr) (x : Str) (scope : Scope) (cl : List (Str × Addr)) (Q : Value → Shared → Prop) (xv : Value) (s₁ : Shared) : Prop :=
  ∃ (h₀ : Heap) (L : Addr) (m : Str → Option Value) (news : List (Addr × Obj)) (r : Addr) (n : Nat) (t u v : Tok) (acc : Nat → PSum) (P : Nat → List (Addr × Obj) → Prop),
    xv = .ref r ∧ A.handled = none ∧ A.units + 2 < cLine ∧ (Mine.hd.heap_39 w.params).In h₀ ∧ h₀.NoLimit ∧ Fr h₀ L s₁.heap m ∧ News h₀ L s₁.heap news ∧ IsRange s₁.heap r 0 (n : Int) 1 t u v ∧ n ≤ 100000 ∧ acc 0 = [] ∧ (∀ i, i ≤ n → (acc i).length ≤ 100000) ∧
    P 0 news ∧ (∀ i n₁ n₂ d, (∀ p ∈ news, p.1 < d) → P i n₁ → Stp w d n₁ n₂ → P i n₂) ∧
    (∀ (i : Nat) t C oC I oI D m₂ n₁ h tk E', i < n → P i n₁ → (I, oI) ∈ n₁ → (C, oC) ∈ n₁ → NsObj oC m₂ → m₂ x = some (.int (i : Int) t) → Fr h₀ L h m → News h₀ L h ((I, oI) :: (C, oC) :: n₁) → SumAt w n₁ D (acc i) →
      wpAny (model PG w) A (eval kx (compEnvC scope cl C env)) (fun kv s₄ => wpAny (model PG w) A (eval vx (compEnvC scope cl C env)) (fun vv s₅ => DEnd w s₁ h₀ L m n₁ (acc i) (acc (i + 1)) (P (i + 1)) kv vv s₅) E' s₄) E' { s₁ with heap := h, toks := tk }) ∧
    (∀ D h tk n₁, Fr h₀ L h m → News h₀ L h n₁ → SumAt w n₁ D (acc n) → P n n₁ → (∀ p ∈ news, p.1 < D) → Q (.ref D) { s₁ with heap := h, toks := tk })
theorem small_range {n : Nat} (hn : n ≤ 1000000) : Builtin.Range.rangeSize 0 (n : Int) 1 = (n : Int) ∧ Builtin.Range.small 0 (n : Int) 1 = true := by
  have hz : Builtin.Range.rangeSize 0 (n : Int) 1 = (n : Int) := by
    unfold Builtin.Range.rangeSize
    simp
    intro h; omega
  refine ⟨hz, ?_⟩
  unfold Builtin.Range.small
  rw [hz]
  simp
  have f : ∀ z : Int, 0 ≤ z → z ≤ 1000000 → Builtin.Range.rangeFitsLong z = true := fun z h1 h2 => by
    unfold Builtin.Range.rangeFitsLong
    simp
    omega
  exact ⟨⟨⟨⟨f 0 (by omega) (by omega), f n (by omega) (by omega)⟩, f 1 (by omega) (by omega)⟩, f n (by omega) (by omega)⟩, .inr (f n (by omega) (by omega))⟩
theorem DictComp_range {kx vx iter : PySem.Expr} {x : Str} {px : Pos} {scope : Scope} {cl : List (Str × Addr)} {pos : Pos} {Q : Value → Shared → Prop}
    (hclos : closureFor scope env = pure cl) (hcell : ∀ y ∈ scope.names, y.2 ≠ .cell) (hkind : scope.kind = .function)
    (hnames : ∀ y ∈ scope.names, y.2 = .local → scope.names.lookup y.1 = some .local) (hx : scope.names.lookup x = some .local)
    (h : wpAny (model PG w) A (eval iter env) (SrcR w A env kx vx x scope cl Q) E s)
    (hs : ∀ x, foldedSetIterable iter env x = pure x) :
    wpAny (model PG w) A (eval (.DictComp kx vx [⟨.Name x px, iter, [], 0⟩] scope pos) env) Q E s := by
  rw [arm_eval_DictComp]
  refine wpAny_comprehension_free (use := none) rfl hs hclos hkind hnames (wpAny_mono h (fun xv s₁ h₁ => ?_) fun _ _ e => e)
  obtain ⟨h₀, L, m, news, r, n, t, u, v, acc, P, rfl, hA, hu, X, hb, F, N, hr, hn, ha0, hsz, P0, stable, turn, fin⟩ := h₁
  obtain ⟨hz, hsm⟩ := small_range (n := n) (by omega)
  refine wpAny_pyIter_range hr hsm ?_
  rw [hz]
  have fresh : ∀ p ∈ news, p.1 < s₁.heap.objs.size := fun p hp => Heap.lt_size (N p hp).1
  refine dcomp (s := { s₁ with heap := s₁.heap.push (riO 0 n 1) }) (RR := fun acc C => compPost (model PG w) A E none Q acc C) (range_ok hA) (fun s o Q E ho hs hQ => ?_) hu X hb hcell hkind hx (F.push _) (News.push F N (riO 0 n 1) rfl) (.head _) (by simp) acc ha0 hsz P
    (stable 0 _ _ s₁.heap.objs.size fresh P0 (Stp.of allIn1)) (fun i n₁ n₂ d hd p1 st => stable i n₁ n₂ d (fun p hp => Nat.lt_of_lt_of_le (fresh p hp) hd) p1 st) (fun _ _ _ _ _ _ => trivial) ?_ ?_
  · subst hs
    exact wpAny_pyIter_rangeiter (x := ((0 : Nat) : Int)) (left := (n : Int) - ((0 : Nat) : Int)) (step := 1) ho hQ
  · rintro i v C oC oI D m₂ n₁ h tk E' hi ⟨t, rfl⟩ p1 hI hC nC hm F1 N1 S1
    refine wpAny_tests_nil ?_
    exact turn i t C oC _ oI D m₂ n₁ h tk E' hi p1 hI hC nC hm F1 N1 S1
  · intro D C h tk m' n₁ F1 N1 hne S1 p1 lt hn' hC₀ hCL
    refine ⟨m', hn', fun h'' hs'' => fin D h'' tk n₁ (F1.change hs'' hCL hC₀) (fun p hp => ⟨hs''.extBut _ _ (hne p hp) (N1 p hp).1, (N1 p hp).2⟩) S1 p1 fun p hp => lt p (.tail _ hp)⟩
end
end Mine
end

-- D26
section
theorem Mine.zz_D26 : True := by
  k_with_none
  trivial
set_option maxRecDepth 100000
set_option maxHeartbeats 4000000
namespace Mine
section
variable {w : World} {A : Around} {E : Value → Shared → Prop} {s : Shared} {h₀ : Heap} {L a b : Addr} {m : Str → Option Value} {news : List (Addr × Obj)} {la lb : PSum}
theorem same_sum {nm : String} {Q : Bool → Shared → Prop} (hu : A.units + 2 < cLine) (X : (Mine.hd.heap_39 w.params).In h₀) (F : Fr h₀ L s.heap m) (N : News h₀ L s.heap news) (Sa : SumAt w news a la) (Sb : SumAt w news b lb)
    (hl : la.length = lb.length) (hs : ∀ e ∈ la, e ∈ lb) (h : Q true s) : wpAny (model PG w) A (Builtin.Dict.samePairs nm a b) Q E s := by
  obtain ⟨loa, es, ep, ha, ys, rfl, hy, rfl, hn⟩ := Sa
  obtain ⟨lob, es', ep', hb, ys', rfl, hy', rfl, hn'⟩ := Sb
  have hoa := (N _ ha).1
  have hob := (N _ hb).1
  have hlen : ys.length = ys'.length := by simpa using hl
  unfold Builtin.Dict.samePairs Builtin.Dict.showsAll
  rw [if_neg (show ¬ (a == sysModules) = true by rw [loa]; exact Bool.false_ne_true), if_neg (show ¬ (b == sysModules) = true by rw [lob]; exact Bool.false_ne_true)]
  refine wpAny_bind (wpAny_pure (wpAny_bind (wpAny_pure ?_)))
  refine wpAny_bind (wpAny_dictEntries hoa rfl ?_)
  dsimp only
  refine wpAny_bind (wpAny_dictEntries hob rfl ?_)
  rw [if_neg (by simp [hlen])]
  refine wpAny_bind (wpAny_dictEpoch hoa rfl ?_)
  refine wpAny_bind ?_
  rw [Std.Legacy.Range.forIn_eq_forIn_range']
  simp only [Std.Legacy.Range.size, Nat.sub_zero, Nat.add_sub_cancel, Nat.div_one, List.size_toArray, List.length_map]
  refine wpAny_forIn_list _ (fun rest q s' => s' = s ∧ q = (none, ()) ∧ ∃ i, rest = List.range' i (ys.length - i) ∧ i ≤ ys.length) _ ?_ ?_ _ _ ⟨rfl, rfl, 0, by simp, Nat.zero_le _⟩
  · rintro x rest q s' ⟨rfl, rfl, i, hr, hi⟩
    have hlt : i < ys.length := by
      rcases Nat.lt_or_ge i ys.length with h | h
      · exact h
      · rw [Nat.sub_eq_zero_of_le h] at hr; simp at hr
    obtain ⟨rfl, hrest⟩ : x = i ∧ rest = List.range' (i + 1) (ys.length - (i + 1)) := by
      have e : ys.length - i = (ys.length - (i + 1)) + 1 := by omega
      rw [e, List.range'_succ] at hr
      injection hr with h1 h2
      exact ⟨h1, h2⟩
    refine wpAny_bind (wpAny_dictEntries hoa rfl ?_)
    obtain ⟨y, hyx⟩ : ∃ y, ys[x]? = some y := ⟨_, List.getElem?_eq_getElem hlt⟩
    have hye : ((ys.map Ye.x).map (entryOfKey (gk w))).toArray[x]? = some (entryOfKey (gk w) y.x) := by
      simp [List.getElem?_map, hyx]
    rw [hye]
    have hym := List.mem_of_getElem? hyx
    show wpAny _ _ (holding [Value.ref y.a, Value.ref y.r] _ >>= _) _ _ _
    refine wpAny_bind (wpAny_holding (wpAny_bind (wpAny_dictFind_heap (knd := gk w) (k := y.k) (xs := ys'.map Ye.x) (by show A.units + 1 < cLine; omega) ((hy y hym).1.isGK X F N) hob rfl (by rw [List.toList_toArray]) (fun z hz => ?_) (by rw [List.map_map]; exact hn') (fun hno => ?_) (fun j p hj => ?_))))
    · obtain ⟨y', hy1, rfl⟩ := List.mem_map.mp hz
      exact (hy' y' hy1).1.isGK X F N
    · exfalso
      have := hs y.l (List.mem_map.mpr ⟨y, hym, rfl⟩)
      obtain ⟨y', hy1, e⟩ := List.mem_map.mp this
      obtain ⟨j, hj, hj'⟩ := List.getElem_of_mem hy1
      refine hno j (y'.a, .ref y'.r) ?_
      rw [List.getElem?_map, List.getElem?_eq_getElem hj, hj']
      have ek : y'.k = y.k := congrArg Prod.fst e
      show some (y'.k, y'.a, Value.ref y'.r) = _
      rw [ek]
    · rw [List.getElem?_map] at hj
      obtain ⟨y', hy1, e⟩ := Option.map_eq_some_iff.mp hj
      have e1 : y'.k = y.k := congrArg Prod.fst e
      have hym' := List.mem_of_getElem? hy1
      have ec : y'.c = y.c := by
        obtain ⟨y2, hy2, e2⟩ := List.mem_map.mp (hs y.l (List.mem_map.mpr ⟨y, hym, rfl⟩))
        have ek : y2.k = y'.k := (congrArg Prod.fst e2 : y2.k = y.k).trans e1.symm
        have : y2 = y' := by
          obtain ⟨i2, h2, h2'⟩ := List.getElem_of_mem hy2
          obtain ⟨i3, h3, h3'⟩ := List.getElem_of_mem hym'
          have := (List.getElem?_inj (i := i2) (j := i3) (l := ys'.map Ye.k) (by simpa using h2) hn').mp (by rw [List.getElem?_map, List.getElem?_map, List.getElem?_eq_getElem h2, List.getElem?_eq_getElem h3, h2', h3']; simp [ek])
          subst this
          exact h2'.symm.trans h3'
        subst this
        exact congrArg Prod.snd e2
      refine wpAny_bind (wpAny_dictEntries hob rfl ?_)
      have hye' : ((ys'.map Ye.x).map (entryOfKey (gk w))).toArray[j]? = some (entryOfKey (gk w) y'.x) := by
        simp [List.getElem?_map, hy1]
      rw [hye']
      show wpAny _ _ (holding [Value.ref y'.r] (eqBool (.ref y.r) (.ref y'.r))) _ _ _
      refine wpAny_holding (wpAny_eqBool_tuple (by omega) (isGK_rat (hy y hym).2 X F N) (isGK_rat (hy' y' hym').2 X F N) ?_)
      rw [decide_eq_true (by rw [ec])]
      show wpAny _ _ (if (!true) = true then _ else _) _ _ _
      rw [if_neg (by decide)]
      refine wpAny_bind (wpAny_dictEpoch hoa rfl ?_)
      rw [if_neg (by simp)]
      exact wpAny_pure ⟨rfl, rfl, x + 1, hrest, hlt⟩
  · rintro q s' ⟨rfl, rfl, i, hr, hi⟩
    exact wpAny_pure h
theorem SumAt.dictIs {h : Heap} (N : News h₀ L h news) (S : SumAt w news a la) : ∃ o, h.get? a = some o ∧ o.cls = .type "dict" := let ⟨_, _, _, q, _⟩ := S; ⟨_, (N _ q).1, rfl⟩
theorem sum_eq_call {Q : Value → Shared → Prop} (hu : A.units + 3 < cLine) (X : (Mine.hd.heap_39 w.params).In h₀) (F : Fr h₀ L s.heap m) (N : News h₀ L s.heap news) (Sa : SumAt w news a la) (Sb : SumAt w news b lb)
    (hl : la.length = lb.length) (hs : ∀ e ∈ la, e ∈ lb) (h : Q (.bool true) s) : wpAny (model PG w) A (richCompare .Eq (.ref a) (.ref b)) Q E s := by
  have Ta : s.TypeIs (.ref a) "dict" := Sa.dictIs N
  have Tb : s.TypeIs (.ref b) "dict" := Sb.dictIs N
  refine wpAny_richCompare_same_room (op := .Eq) Ta Tb PySem.F.slot_dict_eq (wpAny_call_entry PySem.F.slot_dict_eq Ta PySem.F.entry_dict_eq ?_ (PySem.F.args_dict_eq_2 _ _)) (by omega)
  show wpAny _ _ (Builtin.Dict.dictSlotArgs "__eq__" ⟨[.ref a, .ref b], []⟩ >>= _) _ _ s
  refine wpAny_bind ?_
  unfold Builtin.Dict.dictSlotArgs
  refine wpAny_bind (wpAny_notOrdered_dict Ta ?_)
  show wpAny _ _ (pure (Value.ref a, Value.ref b)) _ _ s
  refine wpAny_pure ?_
  refine wpAny_bind (wpAny_isInstance (T := "dict") Tb PySem.F.sub_dict_dict ?_)
  simp only [Bool.not_true, Bool.false_eq_true, if_false]
  refine wpAny_bind (wpAny_pure (wpAny_bind (wpAny_pure ?_)))
  refine wpAny_bind (same_sum (by show A.units + 1 + 2 < cLine; omega) X F N Sa Sb hl hs ?_)
  exact wpAny_pure ⟨_, rfl, (fun x => nomatch x), h⟩
theorem sum_eq {Q : Value → Shared → Prop} (hu : A.units + 3 < cLine) (X : (Mine.hd.heap_39 w.params).In h₀) (F : Fr h₀ L s.heap m) (N : News h₀ L s.heap news) (Sa : SumAt w news a la) (Sb : SumAt w news b lb)
    (hl : la.length = lb.length) (hs : ∀ e ∈ la, e ∈ lb) (h : Q (.bool true) s) : wpAny (model PG w) A (compareOp .Eq (.ref a) (.ref b)) Q E s := cmp_ofEq (sum_eq_call hu X F N Sa Sb hl hs h)
theorem sum_eqBool {Q : Bool → Shared → Prop} (hu : A.units + 3 < cLine) (X : (Mine.hd.heap_39 w.params).In h₀) (F : Fr h₀ L s.heap m) (N : News h₀ L s.heap news) (Sa : SumAt w news a la) (Sb : SumAt w news b lb)
    (hl : la.length = lb.length) (hs : ∀ e ∈ la, e ∈ lb) (h : Q true s) : wpAny (model PG w) A (eqBool (.ref a) (.ref b)) Q E s := by
  unfold eqBool
  try with_reducible refine wpAny_holding ?_
  show wpAny _ _ (if (Value.ref a == Value.ref b) = true then _ else _) Q E s
  by_cases hab : (Value.ref a == Value.ref b) = true
  · rw [if_pos hab]
    exact wpAny_bind (wpAny_rule (wpAny_pure h))
  · rw [if_neg hab]
    exact wpAny_bind (sum_eq_call hu X F N Sa Sb hl hs (wpAny_truthy_bool h))
theorem pair_eq {p q a1 b1 a2 b2 : Addr} {l1 l2 k1 k2 : PSum} {Q : Value → Shared → Prop} (hu : A.units + 4 < cLine) (X : (Mine.hd.heap_39 w.params).In h₀) (F : Fr h₀ L s.heap m) (N : News h₀ L s.heap news) (P1 : PairAt w news p a1 b1) (P2 : PairAt w news q a2 b2)
    (S1 : SumAt w news a1 l1) (S2 : SumAt w news a2 l2) (T1 : SumAt w news b1 k1) (T2 : SumAt w news b2 k2)
    (hl : l1.length = l2.length) (hs : ∀ e ∈ l1, e ∈ l2) (hl' : k1.length = k2.length) (hs' : ∀ e ∈ k1, e ∈ k2) (h : Q (.bool true) s) : wpAny (model PG w) A (compareOp .Eq (.ref p) (.ref q)) Q E s := by
  obtain ⟨n1, H1⟩ := P1
  obtain ⟨n2, H2⟩ := P2
  have g1 := H1.get X F N
  have g2 := H2.get X F N
  have Tp : s.TypeIs (.ref p) "tuple" := ⟨_, g1, rfl⟩
  have Tq : s.TypeIs (.ref q) "tuple" := ⟨_, g2, rfl⟩
  refine cmp_ofEq (wpAny_richCompare_same_room (op := .Eq) Tp Tq PySem.F.slot_tuple_eq (wpAny_call_entry PySem.F.slot_tuple_eq Tp PySem.F.entry_tuple_eq ?_ (PySem.F.args_tuple_eq_2 _ _)) (by omega))
  show wpAny _ _ (isInstance (.ref q) (.type "tuple") >>= _) _ _ s
  refine wpAny_bind (wpAny_isInstance Tq isSubtype_tuple_tuple ?_)
  simp only [Bool.not_true, Bool.false_eq_true, if_false]
  refine wpAny_bind (wpAny_tupleItemsOf g1 rfl ?_)
  refine wpAny_bind (wpAny_tupleItemsOf g2 rfl ?_)
  refine wpAny_bind ?_
  show wpAny _ _ (forIn [(Value.ref a1, Value.ref a2), (Value.ref b1, Value.ref b2)] _ _) _ _ _
  rw [List.forIn_cons]
  refine wpAny_bind (wpAny_bind (sum_eqBool (by show A.units + 1 + 3 < cLine; omega) X F N S1 S2 hl hs ?_))
  simp only [Bool.not_true, Bool.false_eq_true, if_false]
  refine wpAny_pure ?_
  dsimp only
  rw [List.forIn_cons]
  refine wpAny_bind (wpAny_bind (sum_eqBool (by show A.units + 1 + 3 < cLine; omega) X F N T1 T2 hl' hs' ?_))
  simp only [Bool.not_true, Bool.false_eq_true, if_false]
  refine wpAny_pure ?_
  dsimp only
  rw [List.forIn_nil]
  refine wpAny_pure ?_
  exact wpAny_pure ⟨_, rfl, (fun x => nomatch x), h⟩
end
end Mine
end

-- D27
section
theorem Mine.zz_D27 : True := by
  k_with_none
  trivial
set_option maxRecDepth 100000
set_option maxHeartbeats 4000000
namespace Mine
section
variable {prog : Program} {w : World} {A A₀ : Around} {s : Shared} {K : Frag} {L : Addr} {h₀ base : Heap} {m mg mb : Str → Option Value} {news : List (Addr × Obj)} {p : Program} {loose : List Str} {mean : ExcName → Option Value}
/-- the call of a def with cells, with its return as it is -/
theorem code_defCY {env : Env} {outer : List Env} {R : Result → Shared → Prop} {name qual : Str} {params : Arguments} {body : List Stmt} {scope : Scope} {dV kV doc pm cdv ct oc : Value} {an od : Option Addr} {osl : Array (Option Value)} {f : Addr} {args : Args} {binds : List (Str × Value)}
    (B : Below A₀ base outer h₀) (F : Fr h₀ L s.heap m) (X₀ : K.In h₀) (N : News h₀ L s.heap news) (T : Top p loose mean mg mb h₀) (hA : A.frames = some (env :: outer)) (hf : env.frame = some L) (hke : env.scope.kind = .function)
    (ho : K.lookup f = some ⟨oc, od, .func (fnOf name qual params body scope dV kV doc pm an cdv ct), osl⟩) (hcd : codeIn K cdv qual = true) (hroom : A.depth < recursionLimit)
    (hbind : BindsTo s (fnOf name qual params body scope dV kV doc pm an cdv ct) args binds) (hkind : (binds.all fun y => scope.names.lookup y.1 == some .local || scope.names.lookup y.1 == some .cell) = true)
    (hnd : ((cellsFrom 0 scope.names []).map (·.1)).Nodup)
    (h : ∀ g L' h₁ tk cells, Fr h₀ L g m → Fr g L' h₁ (bindL (envOfC qual scope L' f cdv).kindOf binds fun _ => none) → News g L' h₁ (cells ++ news) →
      CellsAre (bindC (envOfC qual scope L' f cdv).kindOf binds fun _ => none) (cellsFrom (L' + 1) scope.names []) cells → Below A base (env :: outer) g → K.In g → Top p loose mean mg mb g → (∀ p ∈ news, p.1 < L') →
      (∀ v s', LeaveK h₀ L m g R v s' → R (.ok (.ret v)) s') →
      wpAny (model prog w) (A.deeper (envOfC qual scope L' f cdv)) (execs body (envOfC qual scope L' f cdv))
        (fun fl s' => R (.ok (.ret (match fl with | .ret v => v | _ => .none))) s')
        (fun e s' => wpAny (model prog w) (A.deeper (envOfC qual scope L' f cdv)) (leaving (envOfC qual scope L' f cdv) e) (fun _ s'' => R (.error e) s'') (fun e' s'' => R (.error e') s'') s')
        { s with heap := h₁, toks := tk })
    (hco : scope.isCoroutine = false) (hgen : scope.isGenerator = false) (hk : scope.kind = .function) : codeAny (model prog w) A (.call (.ref f) args) R s := by
  obtain ⟨FG, BG, st, lv⟩ := groundX (R := R) B F N hA hf hke
  refine codeAny_call_function hroom ((X₀.keeps F.keep) _ _ ho) rfl hco hgen rfl (codeRec_of (X₀.keeps F.keep) hcd) (hbind _ _ _ _ ?_)
  refine wpAny_newFunctionEnv_cells hk (kindsX hkind _) fun env' he s' x => ?_
  subst he
  refine ⟨(T.nolimit.keeps F.keep).keeps x.toInCall.keep, codeAny_func ?_⟩
  obtain ⟨h₁, tk, rfl, _⟩ := x.done
  have hk₁ := x.toInCall.keep
  obtain ⟨cells, NC, Y⟩ := Cl.news (h₀ := s.heap) (Nat.le_refl _) fun n c hm => ⟨x.cell n c (lookup_of_mem_nodup (cellsFrom_names scope.names 0 (s.heap.objs.size + 1) [] [] rfl ▸ hnd) hm), x.above n c hm⟩
  refine h _ s.heap.objs.size h₁ tk cells FG ⟨x.toInCall.ns, fun b o e => hk₁ b o (of_hideAll _ e), Nat.le_of_eq (hideAll_size _ _)⟩ (fun p hp => ?_) Y BG (X₀.keeps st) (T.keeps st) (fun p hp => Heap.lt_size (N p hp).1) lv
  rcases List.mem_append.mp hp with hp | hp
  · refine ⟨(NC p hp).1, (NC p hp).2.1, ?_⟩
    cases q : (hideAll s.heap (news.map (·.1))).get? p.1 with
    | none => rfl
    | some o => have := of_hideAll _ q; rw [(NC p hp).2.2] at this; cases this
  · exact ⟨hk₁ _ _ (N p hp).1, Nat.ne_of_lt (Heap.lt_size (N p hp).1), hideAll_none _ (List.mem_map_of_mem hp)⟩
end
end Mine
end

-- D28
section
theorem Mine.zz_D28 : True := by
  k_with_none
  trivial
set_option maxRecDepth 100000
set_option maxHeartbeats 4000000
namespace Mine
section
variable {w : World} {h₀ h : Heap} {L d : Addr} {n0 news : List (Addr × Obj)}
/-- the ledger again, with `n0` in front -/
theorem relist (N : News h₀ L h news) (n0 : List (Addr × Obj)) (h0 : ∀ p ∈ n0, p ∈ news) : ∃ ext, News h₀ L h (n0 ++ ext) ∧ (∀ p ∈ news, p ∈ n0 ++ ext) ∧ (∀ p ∈ ext, ∀ q ∈ n0, p.1 ≠ q.1) := by
  refine ⟨news.filter fun p => decide (∀ q ∈ n0, p.1 ≠ q.1), fun p hp => ?_, fun p hp => ?_, fun p hp => of_decide_eq_true (List.mem_filter.mp hp).2⟩
  · rcases List.mem_append.mp hp with hp | hp
    · exact N p (h0 p hp)
    · exact N p (List.mem_filter.mp hp).1
  · by_cases hq : ∀ q ∈ n0, p.1 ≠ q.1
    · exact List.mem_append_right _ (List.mem_filter.mpr ⟨hp, decide_eq_true hq⟩)
    · have : ∃ q ∈ n0, p.1 = q.1 := by
        refine Classical.byContradiction fun hno => hq fun q hq' e => hno ⟨q, hq', e⟩
      obtain ⟨q, hq', e⟩ := this
      have e1 := (N p hp).1
      have e2 := (N q (h0 q hq')).1
      rw [e, e2] at e1
      have : p = q := by
        obtain ⟨p1, p2⟩ := p
        obtain ⟨q1, q2⟩ := q
        dsimp only at e e1
        cases e; cases e1; rfl
      exact this ▸ List.mem_append_left _ hq'
/-- as `SumMade`, with the ledger of before the display in front -/
noncomputable def SumMadeR (w : World) (h₀ : Heap) (L : Addr) (m : Str → Option Value) (d : Addr) (n0 : List (Addr × Obj)) (Q : Value → Shared → Prop) (vs : List (Value × Value)) (s₁ : Shared) : Prop :=
  ∃ (ps : PSum) (news : List (Addr × Obj)), Fr h₀ L s₁.heap m ∧ News h₀ L s₁.heap news ∧ SumAt w news d [] ∧ PairsAre w news vs ps ∧ (∀ p ∈ n0, p ∈ news) ∧
    ∀ h' tk ext, Fr h₀ L h' m → News h₀ L h' (n0 ++ ext) → SumAt w (n0 ++ ext) d (putAll ps []) → (∀ p ∈ ext, ∀ q ∈ n0, p.1 ≠ q.1) → Q (.ref d) { s₁ with heap := h', toks := tk }
theorem Dict_sumR {A : Around} {E : Value → Shared → Prop} {s : Shared} {env : Env} {m : Str → Option Value} {keys : List (Option PySem.Expr)} {values : List PySem.Expr} {pos : Pos} {Q : Value → Shared → Prop} (hu : A.units + 2 < cLine) (X : (Mine.hd.heap_39 w.params).In h₀) (F : Fr h₀ L s.heap m) (N : News h₀ L s.heap n0) (hb : h₀.NoLimit)
    (hall : keys.all (·.isSome) = true) (hl : keys.length = values.length) (h0 : keys ≠ []) (hlen : keys.length ≤ 15)
    (h : ∀ d h', Fr h₀ L h' m → News h₀ L h' ((d, dictO [] 0) :: n0) → (∀ p ∈ n0, p.1 < d) → SumAt w ((d, dictO [] 0) :: n0) d [] →
      wpAny (model PG w) A (evalPairs (pairTrees keys values env pos)) (fun vs s₁ => SumMadeR w h₀ L m d n0 Q vs s₁) E { s with heap := h' }) :
    wpAny (model PG w) A (eval (.Dict keys values pos) env) Q E s := by
  refine Dict_sum hu X F N hb hall hl h0 hlen fun d h' F' N' l' S' => wpAny_mono (h d h' F' N' l' S') (fun vs s₁ h₁ => ?_) fun _ _ e => e
  obtain ⟨ps, news, F1, N1, S1, hp, sub, k⟩ := h₁
  refine ⟨ps, news, F1, N1, S1, hp, fun h2 tk n2 F2 N2 S2 st => ?_⟩
  obtain ⟨ext, N3, sub3, ne3⟩ := relist N2 n0 fun p hp => st.2 p (sub p hp) (Nat.ne_of_lt (l' p hp))
  exact k h2 tk ext F2 N3 (S2.mono sub3) ne3
end
end Mine
end

-- D46
section
theorem Mine.zz_D46 : True := by
  k_with_none
  trivial
set_option maxRecDepth 100000
set_option maxHeartbeats 4000000
namespace Mine
/-- a goal under a lid: what elaborates a term of it does not reckon the goal out -/
structure Sealed (P : Prop) : Prop where
  out : P
theorem sealOut {P : Prop} (h : Sealed P) : P := h.out
section
variable {w : World} {h₀ h : Heap} {L d : Addr} {n0 news : List (Addr × Obj)}
theorem Dict_sumS {A : Around} {E : Value → Shared → Prop} {s : Shared} {env : Env} {m : Str → Option Value} {keys : List (Option PySem.Expr)} {values : List PySem.Expr} {pos : Pos} {Q : Value → Shared → Prop} (hu : A.units + 2 < cLine) (X : (Mine.hd.heap_39 w.params).In h₀) (F : Fr h₀ L s.heap m) (N : News h₀ L s.heap n0) (hb : h₀.NoLimit)
    (hall : keys.all (·.isSome) = true) (hl : keys.length = values.length) (h0 : keys ≠ []) (hlen : keys.length ≤ 15)
    (h : ∀ d h', Fr h₀ L h' m → News h₀ L h' ((d, dictO [] 0) :: n0) → (∀ p ∈ n0, p.1 < d) → SumAt w ((d, dictO [] 0) :: n0) d [] →
      wpAny (model PG w) A (evalPairs (pairTrees keys values env pos)) (fun vs s₁ => SumMadeR w h₀ L m d n0 Q vs s₁) E { s with heap := h' }) :
    Sealed (wpAny (model PG w) A (eval (.Dict keys values pos) env) Q E s) := ⟨Dict_sumR hu X F N hb hall hl h0 hlen h⟩
end
end Mine
end

-- C22
section
theorem Mine.zz_C22 : True := by
  k_with_none
  trivial
set_option maxRecDepth 100000
set_option maxHeartbeats 8000000
namespace Mine
theorem pickE {r : Int} (h0 : 0 ≤ r) (h1 : r < 3) : ∃ E : Nat, (E = 1 ∨ E = 1001 ∨ E = 5000) ∧ ([1, 1001, 5000] : List Int).getD r.toNat 0 = (E : Int) := by
  obtain rfl | rfl | rfl : r = 0 ∨ r = 1 ∨ r = 2 := by omega
  · exact ⟨1, .inl rfl, rfl⟩
  · exact ⟨1001, .inr (.inl rfl), rfl⟩
  · exact ⟨5000, .inr (.inr rfl), rfl⟩
theorem pickP {r : Int} (h0 : 0 ≤ r) (h1 : r < 4) : ∃ P : Nat, (P = 1 ∨ P = 2 ∨ P = 3 ∨ P = 200) ∧ ([2, 3, 1, 200] : List Int).getD r.toNat 0 = (P : Int) := by
  obtain rfl | rfl | rfl | rfl : r = 0 ∨ r = 1 ∨ r = 2 ∨ r = 3 := by omega
  · exact ⟨2, .inr (.inl rfl), rfl⟩
  · exact ⟨3, .inr (.inr (.inl rfl)), rfl⟩
  · exact ⟨1, .inl rfl, rfl⟩
  · exact ⟨200, .inr (.inr (.inr rfl)), rfl⟩
theorem pickN {r : Int} (h0 : 0 ≤ r) (h1 : r < 3) : ∃ n : Int, (n = 1 ∨ n = -2 ∨ n = 5) ∧ ([1, -2, 5] : List Int).getD r.toNat 0 = n := by
  obtain rfl | rfl | rfl : r = 0 ∨ r = 1 ∨ r = 2 := by omega
  · exact ⟨1, .inl rfl, rfl⟩
  · exact ⟨-2, .inr (.inl rfl), rfl⟩
  · exact ⟨5, .inr (.inr rfl), rfl⟩
section
variable {w : World} {A : Around} {E : Value → Shared → Prop} {s : Shared} {h₀ : Heap} {L x : Addr} {news : List (Addr × Obj)} {t1 t2 t3 t4 u : Tok} {n : Nat} {r : Int} {value slice : PySem.Expr} {Q : Value → Shared → Prop}
theorem ints3 {a b c : Int} : IntsAre [.int a t1, .int b t2, .int c t3] [a, b, c] := by l_ints
theorem ints4 {a b c d : Int} : IntsAre [.int a t1, .int b t2, .int c t3, .int d t4] [a, b, c, d] := by l_ints
theorem sub_E (N : News h₀ L s.heap news) (hm : (x, W.listOf #[.int 1 t1, .int 1001 t2, .int 5000 t3] n) ∈ news) (h0 : 0 ≤ r) (h1 : r < 3) (h : ∀ (E : Nat) t, E = 1 ∨ E = 1001 ∨ E = 5000 → Q (.int (E : Int) t) s)
    (hs : subscripted slice false (.ref x) (.int r u) = operate [.ref x, .int r u] (getItem (.ref x) (.int r u))) : wpAny (model PG w) A (subscriptTail value slice (.ref x) (.int r u)) Q E s := by
  obtain ⟨E, hE, e⟩ := pickE h0 h1
  exact item_anyK (PySem.IsL.isList (n := n) (N _ hm).1) ints3 h0 (show r < (3 : Int) from h1) (by omega) (fun t => e ▸ h E t hE) hs
theorem sub_P (N : News h₀ L s.heap news) (hm : (x, W.listOf #[.int 2 t1, .int 3 t2, .int 1 t3, .int 200 t4] n) ∈ news) (h0 : 0 ≤ r) (h1 : r < 4) (h : ∀ (P : Nat) t, P = 1 ∨ P = 2 ∨ P = 3 ∨ P = 200 → Q (.int (P : Int) t) s)
    (hs : subscripted slice false (.ref x) (.int r u) = operate [.ref x, .int r u] (getItem (.ref x) (.int r u))) : wpAny (model PG w) A (subscriptTail value slice (.ref x) (.int r u)) Q E s := by
  obtain ⟨E, hE, e⟩ := pickP h0 h1
  exact item_anyK (PySem.IsL.isList (n := n) (N _ hm).1) ints4 h0 (show r < (4 : Int) from h1) (by omega) (fun t => e ▸ h E t hE) hs
theorem sub_N (N : News h₀ L s.heap news) (hm : (x, W.listOf #[.int 1 t1, .int (-2) t2, .int 5 t3] n) ∈ news) (h0 : 0 ≤ r) (h1 : r < 3) (h : ∀ (z : Int) t, z = 1 ∨ z = -2 ∨ z = 5 → Q (.int z t) s)
    (hs : subscripted slice false (.ref x) (.int r u) = operate [.ref x, .int r u] (getItem (.ref x) (.int r u))) : wpAny (model PG w) A (subscriptTail value slice (.ref x) (.int r u)) Q E s := by
  obtain ⟨E, hE, e⟩ := pickN h0 h1
  exact item_anyK (PySem.IsL.isList (n := n) (N _ hm).1) ints3 h0 (show r < (3 : Int) from h1) (by omega) (fun t => e ▸ h E t hE) hs
end
end Mine
end

-- D29
section
theorem Mine.zz_D29 : True := by
  k_with_none
  trivial
set_option maxRecDepth 100000
set_option maxHeartbeats 4000000
namespace Mine
theorem insL_new {l : PSum} {k : GK} {c : Int} (h : getL l k = none) (hc : c ≠ 0) : insL l k c = l ++ [(k, c)] := by
  unfold insL putL
  rw [h]
  simp [hc]
theorem insL_old {l : PSum} {k : GK} {a c d : Int} (h : getL l k = some a) (e : a + c = d) (hd : d ≠ 0) : insL l k c = l.map fun e => if e.1 = k then (e.1, d) else e := by
  unfold insL putL
  rw [h]
  simp only [Option.getD_some, e, hd, if_false, Option.isSome_some, if_true]
section
variable {M N : Int} (hM : M ≠ 0) (hN : N ≠ 0)
noncomputable abbrev twoL (M N : Int) : PSum := [((1, 0), M), ((0, 0), N)]
include hM hN
theorem mulIn_two (e : GK × Int) (acc : PSum) : mulIn e (twoL M N) acc = insL (insL acc (addK e.1 (1, 0)) (e.2 * M)) (addK e.1 (0, 0)) (e.2 * N) := rfl
theorem pow1L : powL (twoL M N) 1 = twoL M N := by
  show insL (insL [] (addK (0, 0) (1, 0)) (1 * M)) (addK (0, 0) (0, 0)) (1 * N) = _
  rw [Int.one_mul, Int.one_mul, show insL [] (addK (0, 0) (1, 0)) M = [((1, 0), M)] from insL_new rfl hM]
  exact insL_new (by simp [getL, addK]) hN
theorem pow2L : powL (twoL M N) 2 = [((2, 0), M * M), ((1, 0), 2 * (M * N)), ((0, 0), N * N)] := by
  show mulL (powL (twoL M N) 1) (twoL M N) = _
  rw [pow1L hM hN]
  have hMN := Int.mul_ne_zero hM hN
  show insL (insL (insL (insL [] (addK (1, 0) (1, 0)) (M * M)) (addK (1, 0) (0, 0)) (M * N)) (addK (0, 0) (1, 0)) (N * M)) (addK (0, 0) (0, 0)) (N * N) = _
  rw [show insL [] (addK (1, 0) (1, 0)) (M * M) = [((2, 0), M * M)] from insL_new rfl (Int.mul_ne_zero hM hM),
    show insL [((2, 0), M * M)] (addK (1, 0) (0, 0)) (M * N) = [((2, 0), M * M), ((1, 0), M * N)] from insL_new (by simp [getL, addK]) hMN,
    show insL [((2, 0), M * M), ((1, 0), M * N)] (addK (0, 0) (1, 0)) (N * M) = [((2, 0), M * M), ((1, 0), 2 * (M * N))] from
      (insL_old (a := M * N) (d := 2 * (M * N)) (by simp [getL, addK]) (by rw [Int.mul_comm N M]; omega) (by omega)).trans (by simp [addK])]
  exact insL_new (by simp [getL, addK]) (Int.mul_ne_zero hN hN)
theorem pow3L : powL (twoL M N) 3 = [((3, 0), M * M * M), ((2, 0), 3 * (M * M * N)), ((1, 0), 3 * (M * N * N)), ((0, 0), N * N * N)] := by
  show mulL (powL (twoL M N) 2) (twoL M N) = _
  rw [pow2L hM hN]
  have hMN := Int.mul_ne_zero hM hN
  have hMMN := Int.mul_ne_zero (Int.mul_ne_zero hM hM) hN
  have hMNN := Int.mul_ne_zero hMN hN
  have e1 : 2 * (M * N) * M = 2 * (M * M * N) := by rw [Int.mul_assoc, Int.mul_assoc M N M, Int.mul_comm N M, Int.mul_assoc]
  have e2 : 2 * (M * N) * N = 2 * (M * N * N) := by rw [Int.mul_assoc]
  have e3 : N * N * M = M * N * N := by rw [Int.mul_comm, ← Int.mul_assoc]
  show insL (insL (insL (insL (insL (insL [] (addK (2, 0) (1, 0)) (M * M * M)) (addK (2, 0) (0, 0)) (M * M * N)) (addK (1, 0) (1, 0)) (2 * (M * N) * M)) (addK (1, 0) (0, 0)) (2 * (M * N) * N)) (addK (0, 0) (1, 0)) (N * N * M)) (addK (0, 0) (0, 0)) (N * N * N) = _
  rw [e1, e2, e3, show insL [] (addK (2, 0) (1, 0)) (M * M * M) = [((3, 0), M * M * M)] from insL_new rfl (Int.mul_ne_zero (Int.mul_ne_zero hM hM) hM),
    show insL [((3, 0), M * M * M)] (addK (2, 0) (0, 0)) (M * M * N) = [((3, 0), M * M * M), ((2, 0), M * M * N)] from insL_new (by simp [getL, addK]) hMMN,
    show insL [((3, 0), M * M * M), ((2, 0), M * M * N)] (addK (1, 0) (1, 0)) (2 * (M * M * N)) = [((3, 0), M * M * M), ((2, 0), 3 * (M * M * N))] from
      (insL_old (a := M * M * N) (d := 3 * (M * M * N)) (by simp [getL, addK]) (by omega) (by omega)).trans (by simp [addK]),
    show insL [((3, 0), M * M * M), ((2, 0), 3 * (M * M * N))] (addK (1, 0) (0, 0)) (2 * (M * N * N)) = [((3, 0), M * M * M), ((2, 0), 3 * (M * M * N)), ((1, 0), 2 * (M * N * N))] from insL_new (by simp [getL, addK]) (by omega),
    show insL [((3, 0), M * M * M), ((2, 0), 3 * (M * M * N)), ((1, 0), 2 * (M * N * N))] (addK (0, 0) (1, 0)) (M * N * N) = [((3, 0), M * M * M), ((2, 0), 3 * (M * M * N)), ((1, 0), 3 * (M * N * N))] from
      (insL_old (a := 2 * (M * N * N)) (d := 3 * (M * N * N)) (by simp [getL, addK]) (by omega) (by omega)).trans (by simp [addK])]
  exact insL_new (by simp [getL, addK]) (Int.mul_ne_zero (Int.mul_ne_zero hN hN) hN)
end
/-- Pascal's rows -/
noncomputable def rowL : Nat → List Int
  | 1 => [1, 1]
  | 2 => [1, 2, 1]
  | 3 => [1, 3, 3, 1]
  | _ => []
noncomputable def dueE (n : Nat) (M N : Int) (i : Nat) : GK × Int := (((i : Int), 0), (rowL n).getD i 0 * M ^ i * N ^ (n - i))
noncomputable def dueL (n : Nat) (M N : Int) (i : Nat) : PSum := (List.range i).map (dueE n M N)
theorem dueL_succ (n : Nat) (M N : Int) (i : Nat) : dueL n M N (i + 1) = putL (dueL n M N i) ((i : Int), 0) ((rowL n).getD i 0 * M ^ i * N ^ (n - i)) := by
  have h : getL (dueL n M N i) ((i : Int), 0) = none := by
    unfold getL dueL
    rw [Option.map_eq_none_iff, List.find?_eq_none]
    intro e he
    obtain ⟨j, hj, rfl⟩ := List.mem_map.mp he
    have := List.mem_range.mp hj
    simp [dueE]
    omega
  unfold putL
  rw [h]
  simp [dueL, List.range_succ, dueE]
theorem pow_due {n : Nat} {M N : Int} (hM : M ≠ 0) (hN : N ≠ 0) (h1 : 1 ≤ n) (h3 : n ≤ 3) : (powL (twoL M N) n).length = (dueL n M N (n + 1)).length ∧ (∀ e ∈ powL (twoL M N) n, e ∈ dueL n M N (n + 1)) := by
  obtain rfl | rfl | rfl : n = 1 ∨ n = 2 ∨ n = 3 := by omega
  · rw [pow1L hM hN]
    refine ⟨rfl, fun e he => ?_⟩
    simp [dueL, dueE, rowL, List.range_succ, Int.pow_succ] at he ⊢
    rcases he with rfl | rfl <;> simp
  · rw [pow2L hM hN]
    refine ⟨rfl, fun e he => ?_⟩
    simp [dueL, dueE, rowL, List.range_succ, Int.pow_succ] at he ⊢
    rcases he with rfl | rfl | rfl <;> simp [Int.mul_assoc]
  · rw [pow3L hM hN]
    refine ⟨rfl, fun e he => ?_⟩
    simp [dueL, dueE, rowL, List.range_succ, Int.pow_succ] at he ⊢
    rcases he with rfl | rfl | rfl | rfl <;> simp [Int.mul_assoc]
/-- the law's numbers -/
noncomputable def LongOk (M : Int) : Prop := 2 ≤ M ∧ M.natAbs < 2 ^ 5001 ∧ (2 < M → 2 ^ 1001 ≤ M.natAbs)
theorem long_ok {E : Nat} (h : E = 1 ∨ E = 1001 ∨ E = 5000) : LongOk ((2 : Int) ^ E) := by
  have e : ((2 : Int) ^ E) = ((2 ^ E : Nat) : Int) := by rw [Int.natCast_pow]; rfl
  have ea : ((2 : Int) ^ E).natAbs = 2 ^ E := by rw [e]; rfl
  have h1 : 1 ≤ E := by omega
  refine ⟨?_, ?_, ?_⟩
  · have : 2 ^ 1 ≤ 2 ^ E := Nat.pow_le_pow_right (by decide) h1
    rw [e]; omega
  · rw [ea]; exact Nat.pow_lt_pow_right (by decide) (by omega)
  · intro h2
    rw [ea]
    refine Nat.pow_le_pow_right (by decide) ?_
    rcases h with rfl | h | h
    · exact absurd h2 (by decide)
    · omega
    · omega
theorem pow_bits {M : Int} (h : M.natAbs < 2 ^ 5001) (i : Nat) (hi : i ≤ 3) : Builtin.Int.intBits (M ^ i) ≤ 20000 := by
  refine intBits_le_iff.mpr ?_
  rw [Int.natAbs_pow]
  have h1 : M.natAbs ^ i ≤ (2 ^ 5001) ^ i := Nat.pow_le_pow_left (Nat.le_of_lt h) i
  have h2 : (2 ^ 5001) ^ i = 2 ^ (5001 * i) := (Nat.pow_mul 2 5001 i).symm
  rw [h2] at h1
  exact Nat.lt_of_le_of_lt h1 (Nat.pow_lt_pow_right (by decide) (by omega))
theorem long_bits {M : Int} (h : M.natAbs < 2 ^ 5001) : Builtin.Int.intBits M ≤ 5001 := intBits_le_iff.mpr h
theorem bitsI_le {c : Int} {m : Nat} (h : c.natAbs < 2 ^ m) (hm : 1 ≤ m) : bitsI c ≤ m := by
  unfold bitsI
  have h0 : max c.natAbs 1 ≠ 0 := by omega
  have : (max c.natAbs 1).log2 < m := (Nat.log2_lt h0).mpr (by
    have : 1 < 2 ^ m := Nat.one_lt_two_pow (by omega)
    omega)
  omega
theorem bitsI_ge {c : Int} {m : Nat} (h : 2 ^ m ≤ c.natAbs) : m + 1 ≤ bitsI c := by
  unfold bitsI
  have h1 : 1 ≤ 2 ^ m := Nat.one_le_two_pow
  have h0 : max c.natAbs 1 ≠ 0 := by omega
  have := (Nat.le_log2 h0).mpr (show 2 ^ m ≤ max c.natAbs 1 by omega)
  omega
theorem far_200 {M : Int} (h : LongOk M) (h2 : 2 < M) : 200000 < 200 * bitsI M := by
  have := bitsI_ge (h.2.2 h2)
  omega
theorem bits20 {x : Int} {m : Nat} (h : x.natAbs < 2 ^ m) (hm : m ≤ 20000) : Builtin.Int.intBits x ≤ 2 ^ 20 := Nat.le_trans (intBits_le_iff.mpr h) (Nat.le_trans hm (by decide))
theorem lt_mul {x y : Int} {a b : Nat} (hx : x.natAbs < 2 ^ a) (hy : y.natAbs < 2 ^ b) : (x * y).natAbs < 2 ^ (a + b) := by
  rw [Int.natAbs_mul, Nat.pow_add]
  exact Nat.mul_lt_mul'' hx hy
theorem pow_muls {n : Nat} {M N : Int} (hM : LongOk M) (hN : N = 1 ∨ N = -2 ∨ N = 5) (h3 : n ≤ 3) : (∀ i, i < n → (powL (twoL M N) i).length ≤ 100) ∧ ∀ i, i < n → ∀ e ∈ powL (twoL M N) i, ∀ f ∈ twoL M N, e.2 * f.2 ≠ 0 ∧ IntMulOk e.2 f.2 := by
  have m0 : M ≠ 0 := by have := hM.1; omega
  have n0 : N ≠ 0 := by omega
  have bM : M.natAbs < 2 ^ 5001 := hM.2.1
  have bN : N.natAbs < 2 ^ 3 := by rcases hN with rfl | rfl | rfl <;> decide
  have key : ∀ c : Int, c ≠ 0 → c.natAbs < 2 ^ 15000 → ∀ f ∈ twoL M N, c * f.2 ≠ 0 ∧ IntMulOk c f.2 := by
    intro c c0 cb f hf
    have hf' : f.2 ≠ 0 ∧ f.2.natAbs < 2 ^ 5001 := by
      rcases List.mem_cons.mp hf with rfl | hf
      · exact ⟨m0, bM⟩
      · rw [List.mem_singleton.mp hf]
        exact ⟨n0, Nat.lt_of_lt_of_le bN (Nat.pow_le_pow_right (by decide) (by decide))⟩
    exact ⟨Int.mul_ne_zero c0 hf'.1, .of_bits (bits20 cb (by decide)) (bits20 hf'.2 (by decide))⟩
  have up : ∀ {x : Int} {a : Nat}, x.natAbs < 2 ^ a → a ≤ 15000 → x.natAbs < 2 ^ 15000 := fun h ha => Nat.lt_of_lt_of_le h (Nat.pow_le_pow_right (by decide) ha)
  have b2 : (2 : Int).natAbs < 2 ^ 2 := by decide
  have p1 := pow1L m0 n0
  have p2 := pow2L m0 n0
  constructor
  · intro i hi
    obtain rfl | rfl | rfl : i = 0 ∨ i = 1 ∨ i = 2 := by omega
    · exact (by decide : 1 ≤ 100)
    · rw [p1]; exact (by decide : 2 ≤ 100)
    · rw [p2]; exact (by decide : 3 ≤ 100)
  · intro i hi e he
    obtain rfl | rfl | rfl : i = 0 ∨ i = 1 ∨ i = 2 := by omega
    · rw [List.mem_singleton.mp he]
      exact key 1 (by decide) (up (a := 1) (by decide) (by decide))
    · rw [p1] at he
      rcases List.mem_cons.mp he with rfl | he
      · exact key M m0 (up bM (by decide))
      · rw [List.mem_singleton.mp he]
        exact key N n0 (up bN (by decide))
    · rw [p2] at he
      rcases List.mem_cons.mp he with rfl | he
      · exact key _ (Int.mul_ne_zero m0 m0) (up (lt_mul bM bM) (by decide))
      rcases List.mem_cons.mp he with rfl | he
      · exact key _ (Int.mul_ne_zero (by decide) (Int.mul_ne_zero m0 n0)) (up (lt_mul b2 (lt_mul bM bN)) (by decide))
      · rw [List.mem_singleton.mp he]
        exact key _ (Int.mul_ne_zero n0 n0) (up (lt_mul bN bN) (by decide))
end Mine
end

-- D30
section
theorem Mine.zz_D30 : True := by
  k_with_none
  trivial
set_option maxRecDepth 100000
set_option maxHeartbeats 4000000
namespace Mine
theorem x_at (w : World) (news) : KindAt w news 128 (1, 0) := ⟨_, _, _, _, _, .inl rfl, .inl rfl, ⟨_, _, _, .inl rfl⟩⟩
theorem still2_at (w : World) (news) : KindAt w news 131 (0, 0) := ⟨_, _, _, _, _, .inl rfl, .inl rfl, ⟨_, _, _, .inl rfl⟩⟩
/-- no tuple -/
noncomputable def NoTup (o : Obj) : Prop := ∀ vs k, o ≠ tupO vs k
theorem NoTup.cell {o : Obj} {v : Option Value} (h : o.data = .cell v) : NoTup o := fun vs k e => by rw [e] at h; cases h
theorem NoTup.lst {its : Array Value} {n : Nat} : NoTup (W.listOf its n) := fun vs k e => by
  have : Value.type "list" = Value.type "tuple" := congrArg Obj.cls e
  exact absurd this (by decide)
section
variable {w : World} {h₀ h : Heap} {L : Addr} {n : List (Addr × Obj)}
theorem SumAt.thin {n' : List (Addr × Obj)} {d : Addr} {l : PSum} (S : SumAt w n d l) (hd : ∀ o, (d, o) ∈ n → (d, o) ∈ n') (ht : ∀ a vs k, (a, tupO vs k) ∈ n → (a, tupO vs k) ∈ n') : SumAt w n' d l :=
  let ⟨lo, es, ep, q, r⟩ := S
  ⟨lo, es, ep, hd _ q, r.tk fun a vs k H => H.imp id fun e => ht a vs k e⟩
/-- six mutable entries in front -/
theorem six_out {c1 c2 c3 c4 c5 c6 : Addr} {o1 o2 o3 o4 o5 o6 : Obj} (N : News h₀ L h n) (m1 : (c1, o1) ∈ n) (m2 : (c2, o2) ∈ n) (m3 : (c3, o3) ∈ n) (m4 : (c4, o4) ∈ n) (m5 : (c5, o5) ∈ n) (m6 : (c6, o6) ∈ n)
    (t1 : NoTup o1) (t2 : NoTup o2) (t3 : NoTup o3) (t4 : NoTup o4) (t5 : NoTup o5) (t6 : NoTup o6) :
    ∃ rest, News h₀ L h ((c1, o1) :: (c2, o2) :: (c3, o3) :: (c4, o4) :: (c5, o5) :: (c6, o6) :: rest) ∧ (∀ p ∈ rest, p.1 ≠ c1) ∧ (∀ p ∈ rest, p.1 ≠ c2) ∧ (∀ p ∈ rest, p.1 ≠ c3) ∧ (∀ p ∈ rest, p.1 ≠ c4) ∧ (∀ p ∈ rest, p.1 ≠ c5) ∧ (∀ p ∈ rest, p.1 ≠ c6) ∧
      (∀ p ∈ n, p.1 ≠ c1 → p.1 ≠ c2 → p.1 ≠ c3 → p.1 ≠ c4 → p.1 ≠ c5 → p.1 ≠ c6 → p ∈ rest) ∧
      (∀ d l, SumAt w n d l → d ≠ c1 → d ≠ c2 → d ≠ c3 → d ≠ c4 → d ≠ c5 → d ≠ c6 → SumAt w rest d l) := by
  have mem : ∀ p, p ∈ n.filter (fun p => decide (p.1 ≠ c1 ∧ p.1 ≠ c2 ∧ p.1 ≠ c3 ∧ p.1 ≠ c4 ∧ p.1 ≠ c5 ∧ p.1 ≠ c6)) ↔ p ∈ n ∧ p.1 ≠ c1 ∧ p.1 ≠ c2 ∧ p.1 ≠ c3 ∧ p.1 ≠ c4 ∧ p.1 ≠ c5 ∧ p.1 ≠ c6 := fun p => by
    rw [List.mem_filter, decide_eq_true_iff]
  have uniq : ∀ {a b : Addr} {o o' : Obj}, (a, o) ∈ n → (b, o') ∈ n → NoTup o' → ∀ vs k, o = tupO vs k → a ≠ b := fun ha hb ht vs k e q => by
    subst q
    have := (N _ ha).1.symm.trans (N _ hb).1
    exact ht vs k ((Option.some.inj this).symm.trans e)
  refine ⟨_, fun p hp => ?_, fun p hp => ((mem p).mp hp).2.1, fun p hp => ((mem p).mp hp).2.2.1, fun p hp => ((mem p).mp hp).2.2.2.1, fun p hp => ((mem p).mp hp).2.2.2.2.1, fun p hp => ((mem p).mp hp).2.2.2.2.2.1, fun p hp => ((mem p).mp hp).2.2.2.2.2.2,
    fun p hp a1 a2 a3 a4 a5 a6 => (mem p).mpr ⟨hp, a1, a2, a3, a4, a5, a6⟩, fun d l S a1 a2 a3 a4 a5 a6 => S.thin (fun o ho => (mem _).mpr ⟨ho, a1, a2, a3, a4, a5, a6⟩) fun a vs k ha => (mem _).mpr ⟨ha, ?_, ?_, ?_, ?_, ?_, ?_⟩⟩
  · iterate 6
      rcases List.mem_cons.mp hp with rfl | hp
      · exact N _ (by assumption)
    exact N _ ((mem p).mp hp).1
  · exact uniq ha m1 t1 vs k rfl
  · exact uniq ha m2 t2 vs k rfl
  · exact uniq ha m3 t3 vs k rfl
  · exact uniq ha m4 t4 vs k rfl
  · exact uniq ha m5 t5 vs k rfl
  · exact uniq ha m6 t6 vs k rfl
theorem six_next {rest : List (Addr × Obj)} {c1 c2 c3 c4 c5 c6 : Addr} {o1 o2 o3 o4 o5 o6 : Obj} (N : News h₀ L h n) (m1 : (c1, o1) ∈ n) (m2 : (c2, o2) ∈ n) (m3 : (c3, o3) ∈ n) (m4 : (c4, o4) ∈ n) (m5 : (c5, o5) ∈ n) (m6 : (c6, o6) ∈ n)
    (t1 : NoTup o1) (t2 : NoTup o2) (t3 : NoTup o3) (t4 : NoTup o4) (t5 : NoTup o5) (t6 : NoTup o6) (hold : ∀ p ∈ rest, p ∈ n)
    (q1 : ∀ p ∈ rest, p.1 ≠ c1) (q2 : ∀ p ∈ rest, p.1 ≠ c2) (q3 : ∀ p ∈ rest, p.1 ≠ c3) (q4 : ∀ p ∈ rest, p.1 ≠ c4) (q5 : ∀ p ∈ rest, p.1 ≠ c5) (q6 : ∀ p ∈ rest, p.1 ≠ c6) :
    ∃ r, (∀ p ∈ rest, p ∈ r) ∧ News h₀ L h ((c1, o1) :: (c2, o2) :: (c3, o3) :: (c4, o4) :: (c5, o5) :: (c6, o6) :: r) ∧ (∀ p ∈ r, p.1 ≠ c1) ∧ (∀ p ∈ r, p.1 ≠ c2) ∧ (∀ p ∈ r, p.1 ≠ c3) ∧ (∀ p ∈ r, p.1 ≠ c4) ∧ (∀ p ∈ r, p.1 ≠ c5) ∧ (∀ p ∈ r, p.1 ≠ c6) ∧
      (∀ p ∈ n, p.1 ≠ c1 → p.1 ≠ c2 → p.1 ≠ c3 → p.1 ≠ c4 → p.1 ≠ c5 → p.1 ≠ c6 → p ∈ r) ∧
      (∀ d l, SumAt w n d l → d ≠ c1 → d ≠ c2 → d ≠ c3 → d ≠ c4 → d ≠ c5 → d ≠ c6 → SumAt w r d l) := by
  obtain ⟨r, NR, r1, r2, r3, r4, r5, r6, keep, thin⟩ := six_out (w := w) N m1 m2 m3 m4 m5 m6 t1 t2 t3 t4 t5 t6
  exact ⟨r, fun p hp => keep p (hold p hp) (q1 p hp) (q2 p hp) (q3 p hp) (q4 p hp) (q5 p hp) (q6 p hp), NR, r1, r2, r3, r4, r5, r6, keep, thin⟩
end
theorem put_two (M Z : Int) : putAll [((1, 0), M), ((0, 0), Z)] [] = twoL M Z := by simp [putAll, putL, getL]
theorem put_one (k : GK) (c : Int) : putAll [(k, c)] [] = [(k, c)] := by simp [putAll, putL, getL]
end Mine
end

-- C23
section
theorem Mine.zz_C23 : True := by
  k_with_none
  trivial
set_option maxRecDepth 100000
set_option maxHeartbeats 8000000
namespace Mine
section
variable {w : World} {A : Around} {E : Value → Shared → Prop} {s : Shared} {h₀ : Heap} {L x : Addr} {m : Str → Option Value} {news : List (Addr × Obj)} {u : Tok} {value slice : PySem.Expr} {Q : Value → Shared → Prop}
/-- the row that the law picks -/
noncomputable def RowAt (news : List (Addr × Obj)) (a : Addr) (n : Nat) : Prop := ∃ vs k, (a, W.listOf vs k) ∈ news ∧ IntsAre vs.toList (rowL n)
theorem ints2 {t1 t2 : Tok} {a b : Int} : IntsAre [.int a t1, .int b t2] [a, b] := by l_ints
theorem sub_row {a0 a1 a2 a3 : Addr} {k1 k2 k3 k4 : Nat} {t1 t2 t3 t4 t5 t6 t7 t8 t9 : Tok} {n : Nat} (N : News h₀ L s.heap news) (hm : (x, W.listOf #[.ref a0, .ref a1, .ref a2, .ref a3] k4) ∈ news) (m1 : (a1, W.listOf #[.int 1 t1, .int 1 t2] k1) ∈ news)
    (m2 : (a2, W.listOf #[.int 1 t3, .int 2 t4, .int 1 t5] k2) ∈ news) (m3 : (a3, W.listOf #[.int 1 t6, .int 3 t7, .int 3 t8, .int 1 t9] k3) ∈ news) (h1 : 1 ≤ n) (h3 : n ≤ 3)
    (h : ∀ a, RowAt [(a1, W.listOf #[.int 1 t1, .int 1 t2] k1), (a2, W.listOf #[.int 1 t3, .int 2 t4, .int 1 t5] k2), (a3, W.listOf #[.int 1 t6, .int 3 t7, .int 3 t8, .int 1 t9] k3)] a n → Q (.ref a) s) (hs : subscripted slice false (.ref x) (.int (n : Int) u) = operate [.ref x, .int (n : Int) u] (getItem (.ref x) (.int (n : Int) u))) : wpAny (model PG w) A (subscriptTail value slice (.ref x) (.int (n : Int) u)) Q E s := by
  have hl : s.heap.IsList x #[.ref a0, .ref a1, .ref a2, .ref a3] := PySem.IsL.isList (n := k4) (N _ hm).1
  obtain rfl | rfl | rfl : n = 1 ∨ n = 2 ∨ n = 3 := by omega
  · exact tail_any hl.typeIs slot_list_getitem.lookup (wpAny_getItem_list hl (by decide) (by decide) (x := .ref a1) rfl (h a1 ⟨_, _, .head _, ints2⟩)) hs
  · exact tail_any hl.typeIs slot_list_getitem.lookup (wpAny_getItem_list hl (by decide) (by decide) (x := .ref a2) rfl (h a2 ⟨_, _, .tail _ (.head _), ints3⟩)) hs
  · exact tail_any hl.typeIs slot_list_getitem.lookup (wpAny_getItem_list hl (by decide) (by decide) (x := .ref a3) rfl (h a3 ⟨_, _, .tail _ (.tail _ (.head _)), ints4⟩)) hs
theorem RowAt.to {p1 p2 p3 : Addr × Obj} {a : Addr} {n : Nat} {news' : List (Addr × Obj)} (R : RowAt [p1, p2, p3] a n) (h1 : p1 ∈ news') (h2 : p2 ∈ news') (h3 : p3 ∈ news') : RowAt news' a n := by
  obtain ⟨vs, k, hm, hi⟩ := R
  refine ⟨vs, k, ?_, hi⟩
  rcases List.mem_cons.mp hm with e | hm
  · exact e ▸ h1
  rcases List.mem_cons.mp hm with e | hm
  · exact e ▸ h2
  · exact (List.mem_singleton.mp hm) ▸ h3
theorem RowAt.mono {a : Addr} {n : Nat} {news news' : List (Addr × Obj)} (R : RowAt news a n) (h : ∀ p ∈ news, p ∈ news') : RowAt news' a n := let ⟨vs, k, hm, hi⟩ := R; ⟨vs, k, h _ hm, hi⟩
theorem row_at {a : Addr} {n i : Nat} (N : News h₀ L s.heap news) (R : RowAt news a n) (h1 : 1 ≤ n) (h3 : n ≤ 3) (hi : i < n + 1) (h : ∀ t, Q (.int ((rowL n).getD i 0) t) s)
    (hs : subscripted slice false (.ref a) (.int (i : Int) u) = operate [.ref a, .int (i : Int) u] (getItem (.ref a) (.int (i : Int) u))) : wpAny (model PG w) A (subscriptTail value slice (.ref a) (.int (i : Int) u)) Q E s := by
  obtain ⟨vs, k, hm, hv⟩ := R
  have hlen : (rowL n).length = n + 1 := by
    obtain rfl | rfl | rfl : n = 1 ∨ n = 2 ∨ n = 3 := by omega
    all_goals rfl
  exact item_anyK (PySem.IsL.isList (n := k) (N _ hm).1) hv (by omega) (by rw [hlen]; omega) (by omega) (fun t => by simpa using h t) hs
theorem min_P {P : Nat} {tP t3 : Tok} (hh : A.handled = none) (F : Fr h₀ L s.heap m) (N : News h₀ L s.heap news) (hP : P = 1 ∨ P = 2 ∨ P = 3 ∨ P = 200)
    (h : ∀ (n : Nat) t h' tk, 1 ≤ n → n ≤ 3 → Fr h₀ L h' m → News h₀ L h' news → Q (.int (n : Int) t) { s with heap := h', toks := tk }) : wpAny (model PG w) A (call (.builtin "min") [.int (P : Int) tP, .int 3 t3]) Q E s := by
  refine min_two_N hh F N fun h' tk F' N' => ?_
  obtain ⟨n, hn, e⟩ : ∃ n : Nat, (1 ≤ n ∧ n ≤ 3) ∧ (if (3 : Int) < (P : Int) then (3 : Int) else (P : Int)) = (n : Int) := by
    by_cases c : (3 : Int) < (P : Int)
    · exact ⟨3, by decide, by rw [if_pos c]; rfl⟩
    · exact ⟨P, by omega, by rw [if_neg c]⟩
  rw [e]
  exact h n _ h' tk hn.1 hn.2 F' N'
theorem rowD_bits {n i : Nat} (h1 : 1 ≤ n) (h3 : n ≤ 3) (hi : i < n + 1) : Builtin.Int.intBits ((rowL n).getD i 0) ≤ 64 := by
  obtain rfl | rfl | rfl : n = 1 ∨ n = 2 ∨ n = 3 := by omega
  · obtain rfl | rfl : i = 0 ∨ i = 1 := by omega
    all_goals decide
  · obtain rfl | rfl | rfl : i = 0 ∨ i = 1 ∨ i = 2 := by omega
    all_goals decide
  · obtain rfl | rfl | rfl | rfl : i = 0 ∨ i = 1 ∨ i = 2 ∨ i = 3 := by omega
    all_goals decide
theorem Z_small {Z : Int} (hZ : Z = 1 ∨ Z = -2 ∨ Z = 5) : Z.natAbs < 2 ^ 64 := by rcases hZ with rfl | rfl | rfl <;> decide
theorem Zpow_bits {Z : Int} (hZ : Z = 1 ∨ Z = -2 ∨ Z = 5) {k : Nat} (hk : k ≤ 3) : Builtin.Int.intBits (Z ^ k) ≤ 64 := by
  obtain rfl | rfl | rfl | rfl : k = 0 ∨ k = 1 ∨ k = 2 ∨ k = 3 := by omega
  all_goals (rcases hZ with rfl | rfl | rfl <;> decide)
theorem long_fit {M : Int} (h : LongOk M) {i : Int} (h0 : 0 ≤ i) (h3 : i ≤ 3) : (Builtin.Int.intBits M : Int) * i ≤ 2 ^ 27 := by
  have hb : Builtin.Int.intBits M ≤ 5001 := long_bits h.2.1
  have h1 : (Builtin.Int.intBits M : Int) * i ≤ 5001 * 3 := Int.mul_le_mul (by omega) h3 h0 (by decide)
  exact Int.le_trans h1 (by decide)
theorem ldKN {M : Model} {sc : Scope} {env : Env} {nm : Str} {pos : Pos} {C c : Addr} {cl : List (Str × Addr)} {o : Obj} {v : Value} (N : News h₀ L s.heap news) (hk : (compEnvC sc cl C env).scope.kind = .function)
    (hl : (compEnvC sc cl C env).kindOf nm = some .cell) (hc : cl.lookup nm = some c) (hm : (c, o) ∈ news) (hd : o.data = .cell (some v)) (h : Q v s) (hb : (nm == ("__debug__" : Str)) = false) :
    wpAny M A (eval (.Name nm pos) (compEnvC sc cl C env)) Q E s := wpAny_Name (wpAny_loadName_cell hk hl hc ⟨o, (N _ hm).1, hd⟩ h) hb
end
theorem PairAt.mono {w : World} {news news' : List (Addr × Obj)} {q a b : Addr} (P : PairAt w news q a b) (h : ∀ p ∈ news, p ∈ news') : PairAt w news' q a b := let ⟨n, H⟩ := P; ⟨n, H.imp id fun e => h _ e⟩
noncomputable def TestIs (c : Bool) (s : Shared) (b : Bool) (s' : Shared) : Prop := b = c ∧ ∃ tk, s' = { s with toks := tk }
theorem TestIs.intro {c b : Bool} {s : Shared} {tk : Nat} (h : b = c) : TestIs c s b { s with toks := tk } := ⟨h, tk, rfl⟩
theorem If_known {M : Model} {A : Around} {E : Value → Shared → Prop} {s : Shared} {env : Env} {test : PySem.Expr} {body orelse : List Stmt} {pos : Pos} {Q : Flow → Shared → Prop} (p : Prop) [Decidable p]
    (key : wpAny M A (isTrue test env (eval test env)) (TestIs (decide p) s) E s) (h1 : p → ∀ tk, wpAny M A (execs body env) Q E { s with toks := tk }) (h2 : ¬ p → ∀ tk, wpAny M A (execs orelse env) Q E { s with toks := tk }) :
    wpAny M A (exec (.If test body orelse pos) env) Q E s := by
  refine wpAny_If (wpAny_mono key (fun b s' h => ?_) fun _ _ e => e)
  obtain ⟨rfl, tk, rfl⟩ := h
  by_cases hp : p
  · rw [decide_eq_true hp]; exact h1 hp tk
  · rw [decide_eq_false hp]; exact h2 hp tk
end Mine
end

-- D31
section
theorem Mine.zz_D31 : True := by
  k_with_none
  trivial
set_option maxRecDepth 100000
set_option maxHeartbeats 4000000
namespace Mine
open PyProof.Rows.LCg
section
variable {w : World} {A : Around} {E : Value → Shared → Prop} {s : Shared} {env : Env}
/-- a dict comprehension over range(n), stored under a name -/
noncomputable def SrcRA (w : World) (A : Around) (env : Env) (kx vx : PySem.Expr) (x y : Str) (scope : Scope) (cl : List (Str × Addr)) (Q : Flow → Shared → Prop) (xv : Value) (s₁ : Shared) : Prop :=
  ∃ (h₀ : Heap) (L : Addr) (m : Str → Option Value) (news : List (Addr × Obj)) (r : Addr) (n : Nat) (t u v : Tok) (acc : Nat → PSum) (P : Nat → List (Addr × Obj) → Prop),
    xv = .ref r ∧ A.handled = none ∧ A.units + 2 < cLine ∧ (Mine.hd.heap_39 w.params).In h₀ ∧ h₀.NoLimit ∧ Fr h₀ L s₁.heap m ∧ News h₀ L s₁.heap news ∧ IsRange s₁.heap r 0 (n : Int) 1 t u v ∧ n ≤ 100000 ∧ acc 0 = [] ∧ (∀ i, i ≤ n → (acc i).length ≤ 100000) ∧
    P 0 news ∧ (∀ i n₁ n₂ d, (∀ p ∈ news, p.1 < d) → P i n₁ → Stp w d n₁ n₂ → P i n₂) ∧
    (∀ (i : Nat) t C oC I oI D m₂ n₁ h tk E', i < n → P i n₁ → (I, oI) ∈ n₁ → (C, oC) ∈ n₁ → NsObj oC m₂ → m₂ x = some (.int (i : Int) t) → Fr h₀ L h m → News h₀ L h ((I, oI) :: (C, oC) :: n₁) → SumAt w n₁ D (acc i) →
      wpAny (model PG w) A (eval kx (compEnvC scope cl C env)) (fun kv s₄ => wpAny (model PG w) A (eval vx (compEnvC scope cl C env)) (fun vv s₅ => DEnd w s₁ h₀ L m n₁ (acc i) (acc (i + 1)) (P (i + 1)) kv vv s₅) E' s₄) E' { s₁ with heap := h, toks := tk }) ∧
    (env.locals = L) ∧ (∀ D h tk n₁, Fr h₀ L h (fun z => if z = y then some (.ref D) else m z) → News h₀ L h n₁ → SumAt w n₁ D (acc n) → P n n₁ → (∀ p ∈ news, p.1 < D) → Q .next { s₁ with heap := h, toks := tk })
theorem Assign_DictComp_range {kx vx iter : PySem.Expr} {x y : Str} {px py : Pos} {scope : Scope} {cl : List (Str × Addr)} {pos spos : Pos} {Q : Flow → Shared → Prop}
    (hsw : swapsWith (.DictComp kx vx [⟨.Name x px, iter, [], 0⟩] scope pos) (some (.Name y py)) spos.line env = pure true)
    (hy : env.kindOf y = some .local) (hpk : (env.scope.kind == .class || (env.scope.kind == .module && env.locals != env.globals)) = false)
    (hclos : closureFor scope env = pure cl) (hcell : ∀ y ∈ scope.names, y.2 ≠ .cell) (hkind : scope.kind = .function)
    (hnames : ∀ y ∈ scope.names, y.2 = .local → scope.names.lookup y.1 = some .local) (hx : scope.names.lookup x = some .local)
    (h : wpAny (model PG w) A (eval iter env) (SrcRA w A env kx vx x y scope cl Q) E s)
    (hs : ∀ x, foldedSetIterable iter env x = pure x) :
    wpAny (model PG w) A (exec (.Assign [.Name y py] (.DictComp kx vx [⟨.Name x px, iter, [], 0⟩] scope pos) spos) env) Q E s := by
  rw [exec_Assign_Name_used _ _ _ _ hsw]
  refine wpAny_bind (wpAny_standAt (wpAny_bind ?_))
  show wpAny _ A (do let _ ← comprehension (.DictComp kx vx [⟨.Name x px, iter, [], 0⟩] scope pos) scope env _ newDict false (eval iter env) (some (assign (.Name y py) env))) _ _ s
  refine wpAny_bind (wpAny_mono (wpAny_comprehension_free (use := some (assign (.Name y py) env)) (Q := fun _ s' => Q .next s') rfl hs hclos hkind hnames (wpAny_mono h (fun xv s₁ h₁ => ?_) fun _ _ e => e)) (fun _ s' hq => wpAny_pure (wpAny_pure hq)) fun _ _ e => e)
  obtain ⟨h₀, L, m, news, r, n, t, u, v, acc, P, rfl, hA, hu, X, hb, F, N, hr, hn, ha0, hsz, P0, stable, turn, hL, fin⟩ := h₁
  obtain ⟨hz, hsm⟩ := small_range (n := n) (by omega)
  refine wpAny_pyIter_range hr hsm ?_
  rw [hz]
  have fresh : ∀ p ∈ news, p.1 < s₁.heap.objs.size := fun p hp => Heap.lt_size (N p hp).1
  refine dcomp (s := { s₁ with heap := s₁.heap.push (riO 0 n 1) }) (RR := fun acc C => compPost (model PG w) A E (some (assign (.Name y py) env)) (fun _ s' => Q .next s') acc C) (range_ok hA) (fun s o Q E ho hs hQ => ?_) hu X hb hcell hkind hx (F.push _) (News.push F N (riO 0 n 1) rfl) (.head _) (by simp) acc ha0 hsz P
    (stable 0 _ _ s₁.heap.objs.size fresh P0 (Stp.of allIn1)) (fun i n₁ n₂ d hd p1 st => stable i n₁ n₂ d (fun p hp => Nat.lt_of_lt_of_le (fresh p hp) hd) p1 st) (fun _ _ _ _ _ _ => trivial) ?_ ?_
  · subst hs
    exact wpAny_pyIter_rangeiter (x := ((0 : Nat) : Int)) (left := (n : Int) - ((0 : Nat) : Int)) (step := 1) ho hQ
  · rintro i v C oC oI D m₂ n₁ h tk E' hi ⟨t, rfl⟩ p1 hI hC nC hm F1 N1 S1
    refine wpAny_tests_nil ?_
    exact turn i t C oC _ oI D m₂ n₁ h tk E' hi p1 hI hC nC hm F1 N1 S1
  · intro D C h tk m' n₁ F1 N1 hne S1 p1 lt hn' hC₀ hCL
    show wpAny _ A (assign (.Name y py) env (.ref D)) _ _ _
    refine wpAny_assign_Name (wpAny_storeName_local hy (hL ▸ F1.ns) (fun h₂ hn₂ hs₂ => ?_) hpk)
    rw [hL] at hn₂ hs₂
    refine ⟨m', hn'.sameBut hs₂ hCL, fun h₃ hs₃ => fin D h₃ _ n₁ ((F1.set hn₂ hs₂).change hs₃ hCL hC₀) (fun p hp => ⟨hs₃.extBut _ _ (hne p hp) ((N1.set hs₂) p hp).1, (N1 p hp).2⟩) S1 p1 fun p hp => lt p (.tail _ hp)⟩
theorem srcRA_of {kx vx : PySem.Expr} {x y : Str} {scope : Scope} {cl : List (Str × Addr)} {Q : Flow → Shared → Prop} {s₁ : Shared} {h₀ : Heap} {L : Addr} {m : Str → Option Value} {news : List (Addr × Obj)} {r : Addr} {z : Int} {t u v : Tok} (n : Nat) (acc : Nat → PSum)
    (hA : A.handled = none) (hu : A.units + 2 < cLine) (X : (Mine.hd.heap_39 w.params).In h₀) (hb : h₀.NoLimit) (F : Fr h₀ L s₁.heap m) (N : News h₀ L s₁.heap news) (hr : IsRange s₁.heap r 0 z 1 t u v) (hz : z = (n : Int)) (hn : n ≤ 100000) (ha0 : acc 0 = []) (hlen : ∀ i, (acc i).length = i) (hL : env.locals = L)
    (turn : ∀ (i : Nat) t C oC I oI D m₂ n₁ h tk E', i < n → (∀ p ∈ news, p ∈ n₁) → (I, oI) ∈ n₁ → (C, oC) ∈ n₁ → NsObj oC m₂ → m₂ x = some (.int (i : Int) t) → Fr h₀ L h m → News h₀ L h ((I, oI) :: (C, oC) :: n₁) → SumAt w n₁ D (acc i) →
      wpAny (model PG w) A (eval kx (compEnvC scope cl C env)) (fun kv s₄ => wpAny (model PG w) A (eval vx (compEnvC scope cl C env)) (fun vv s₅ => DEnd w s₁ h₀ L m n₁ (acc i) (acc (i + 1)) (fun n' => ∀ p ∈ news, p ∈ n') kv vv s₅) E' s₄) E' { s₁ with heap := h, toks := tk })
    (fin : ∀ D h tk n₁, Fr h₀ L h (fun z => if z = y then some (.ref D) else m z) → News h₀ L h n₁ → SumAt w n₁ D (acc n) → (∀ p ∈ news, p ∈ n₁) → (∀ p ∈ news, p.1 < D) → Q .next { s₁ with heap := h, toks := tk }) :
    SrcRA w A env kx vx x y scope cl Q (.ref r) s₁ :=
  ⟨h₀, L, m, news, r, n, t, u, v, acc, fun _ n' => ∀ p ∈ news, p ∈ n', rfl, hA, hu, X, hb, F, N, hz ▸ hr, hn, ha0, fun i hi => by rw [hlen]; omega, fun _ hp => hp,
    fun i n₁ n₂ d hd hp st p hpn => st.2 p (hp p hpn) (Nat.ne_of_lt (hd p hpn)), turn, hL, fin⟩
end
end Mine
end

-- D32
section
theorem Mine.zz_D32 : True := by
  k_with_none
  trivial
set_option maxRecDepth 100000
set_option maxHeartbeats 4000000
namespace Mine
open PyProof.Rows.LCg
section
variable {M : Model} {A : Around} {E : Value → Shared → Prop} {s : Shared} {h₀ : Heap} {L c P : Addr} {m mg mb : Str → Option Value} {news : List (Addr × Obj)} {p : Program} {loose : List Str} {mean : ExcName → Option Value} {name qual : Str} {params : Arguments} {body : PySem.Expr} {scope : Scope} {ps : Array Value} {pos : Pos} {firstLine : Nat} {clos : List (Str × Addr)} {env : Env}
/-- a lambda is made for the first time: the code table grows -/
theorem lam_new {Q : Value → Shared → Prop} (F : Fr h₀ L s.heap m) (N : News h₀ L s.heap news) (T : Top p loose mean mg mb h₀) (C : CodeHd h₀ c P) (hcd : env.code = .ref c) (hge : env.globals = mainGlobals) (hP : (P, tabObj ps) ∈ news) (ht : TriplesOk ps.toList) (hnf : codeAmong pos ps.toList = none)
    (hcl : closureFor scope env = pure clos)
    (h : ∀ f c' oc vs t ctv h' tk, Fr h₀ L h' m →
      News h₀ L h' ((f, kla_obj name qual params body scope clos ((mg "__name__").getD .none) c' ctv) :: (c', oc) :: (news.map fun q => if q.1 = P then (P, tabObj (ps ++ #[rawInt pos.line, rawInt pos.col, .ref c'])) else q)) →
      oc.data = .fields vs → vs[1]? = some (.str qual t) → (∀ q ∈ news, q.1 < c') → c' < f → Q (.ref f) { s with heap := h', toks := tk }) :
    wpAny M A (makeFunction name qual params (.expr body) scope env [] [] [] pos firstLine) Q E s := by
  have hm := N (P, tabObj ps) hP
  have hgs := T.g.keeps F.keep
  obtain ⟨bm, ob, b1, b2, b3, b4, b5, b6⟩ := T.bmain
  have hgP : mainGlobals ≠ P := fun q => by
    obtain ⟨o, es, ep, e, hd, _⟩ := hgs
    rw [q, hm.1] at e; cases e; cases hd
  have hbP : bm ≠ P := fun q => by
    have e := F.keep _ _ b3
    rw [q, hm.1] at e; cases e; cases b4
  have hbG : bm ≠ mainGlobals := fun q => by
    obtain ⟨o, es, ep, e, hd, _⟩ := T.g
    rw [q, e] at b3; cases b3; rw [hd] at b6; cases b6
  refine kla_makeFunction (mg := mg) hcl hge hgs hcd (C.keeps F.keep) hm.1 ht hnf hgP ⟨bm, ob, b1, b2, hbG, hbP, F.keep _ _ b3, b4, b5, b6⟩ fun c' ctv h' tk hx hge' hlt hrec htb => ?_
  obtain ⟨c₂, oc, vs, t, e2, hoc, hd, hv⟩ := hrec
  cases e2
  have hLs : L < s.heap.objs.size := F.ns.lt
  have fresh : ∀ b, L < b → h₀.get? b = none := fun b hb => Heap.get?_none_of_le (Nat.le_trans F.above (Nat.le_of_lt hb))
  have hLP : L ≠ P := hm.2.1.symm
  have hP₀ : ∀ b o, h₀.get? b = some o → b ≠ P := fun b o e q => by rw [q, hm.2.2] at e; cases e
  have hLc : L < c' := Nat.lt_of_lt_of_le hLs hge'
  have hLf : L < h'.objs.size := Nat.lt_trans hLc hlt
  refine h h'.objs.size c' oc vs t ctv _ tk ?_ (fun q hq => ?_) hd hv (fun q hq => Nat.lt_of_lt_of_le (Heap.lt_size (N q hq).1) hge') hlt
  · obtain ⟨oL, es, ep, hoL, r⟩ := F.ns
    exact ⟨⟨oL, es, ep, Heap.get?_push_of_some _ (hx _ _ hLP hoL), r⟩, fun b o e => Heap.get?_push_of_some _ (hx _ _ (hP₀ b o e) (F.keep b o e)), F.above⟩
  · rcases List.mem_cons.mp hq with rfl | hq
    · exact ⟨Heap.get?_push_size _ rfl, Nat.ne_of_gt hLf, fresh _ hLf⟩
    rcases List.mem_cons.mp hq with rfl | hq
    · exact ⟨Heap.get?_push_of_some _ hoc, Nat.ne_of_gt hLc, fresh _ hLc⟩
    · obtain ⟨q0, hq0, rfl⟩ := List.mem_map.mp hq
      by_cases e : q0.1 = P
      · rw [if_pos e]
        exact ⟨Heap.get?_push_of_some _ htb, hm.2⟩
      · rw [if_neg e]
        exact ⟨Heap.get?_push_of_some _ (hx _ _ e (N q0 hq0).1), (N q0 hq0).2⟩
/-- it is made again: the code is there -/
theorem lam_again {Q : Value → Shared → Prop} {c' : Addr} (F : Fr h₀ L s.heap m) (N : News h₀ L s.heap news) (T : Top p loose mean mg mb h₀) (C : CodeHd h₀ c P) (hcd : env.code = .ref c) (hge : env.globals = mainGlobals) (hP : (P, tabObj ps) ∈ news) (ht : TriplesOk ps.toList) (hf : codeAmong pos ps.toList = some (.ref c'))
    (hcl : closureFor scope env = pure clos)
    (h : ∀ f ctv h' tk, Fr h₀ L h' m → News h₀ L h' ((f, kla_obj name qual params body scope clos ((mg "__name__").getD .none) c' ctv) :: news) → (∀ q ∈ news, q.1 < f) → Q (.ref f) { s with heap := h', toks := tk }) :
    wpAny M A (makeFunction name qual params (.expr body) scope env [] [] [] pos firstLine) Q E s := by
  have hm := N (P, tabObj ps) hP
  have hgs := T.g.keeps F.keep
  obtain ⟨bm, ob, b1, b2, b3, b4, b5, b6⟩ := T.bmain
  have hbP : bm ≠ P := fun q => by
    have e := F.keep _ _ b3
    rw [q, hm.1] at e; cases e; cases b4
  have hbG : bm ≠ mainGlobals := fun q => by
    obtain ⟨o, es, ep, e, hd, _⟩ := T.g
    rw [q, e] at b3; cases b3; rw [hd] at b6; cases b6
  refine kla_makeFunctionHit (mg := mg) hcl hge hgs hcd (C.keeps F.keep) hm.1 ht hf ⟨bm, ob, b1, b2, hbG, hbP, F.keep _ _ b3, b4, b5, b6⟩ fun ctv h' tk hk hsz => ?_
  have hLs : L < h'.objs.size := Nat.lt_of_lt_of_le F.ns.lt hsz
  have fresh : ∀ b, L < b → h₀.get? b = none := fun b hb => Heap.get?_none_of_le (Nat.le_trans F.above (Nat.le_of_lt hb))
  refine h h'.objs.size ctv _ tk ⟨(F.ns.keeps hk).push _, fun b o e => Heap.get?_push_of_some _ (hk b o (F.keep b o e)), F.above⟩ (fun q hq => ?_) (fun q hq => Nat.lt_of_lt_of_le (Heap.lt_size (N q hq).1) hsz)
  rcases List.mem_cons.mp hq with rfl | hq
  · exact ⟨Heap.get?_push_size _ rfl, Nat.ne_of_gt hLs, fresh _ hLs⟩
  · exact ⟨Heap.get?_push_of_some _ (hk _ _ (N q hq).1), (N q hq).2⟩
end
section
variable {M : Model} {A : Around} {E : Value → Shared → Prop} {s : Shared}
/-- the names of a comprehension one of which is a cell -/
theorem compEnv_cell {scope : Scope} {cl : List (Str × Addr)} {env : Env} {x : Str} {Q : Env → Shared → Prop}
    (hone : ∀ (z : Addr) acc, cellsFrom z scope.names acc = (x, z) :: acc) (hpush : ∀ h : Heap, pushCells h scope.names = h.push { cls := .type "cell", data := .cell none })
    (h : ∀ cenv, ({ cenv with scope := relabel scope env } : Env) = compEnvC scope ((x, s.heap.objs.size + 1) :: cl) s.heap.objs.size env → cenv.locals = s.heap.objs.size →
      Q cenv { s with heap := (s.heap.push { cls := .type "dict", data := .dict #[] }).push { cls := .type "cell", data := .cell none } }) :
    wpAny M A (newFunctionEnv scope env.globals cl [] env.qual none .none (some env)) Q E s := by
  simp only [newFunctionEnv, Option.isSome_some, if_true]
  refine wpAny_bind (wpAny_alloc ?_)
  refine wpAny_bind (wpAny_layCells _ (fun name kind cells => by cases hkc : kind == NameKind.cell <;> simp [hkc]) _ _ _ _ ?_)
  rw [hone, hpush]
  dsimp only
  rw [List.forIn_nil]
  refine wpAny_bind (wpAny_pure (wpAny_pure ?_))
  rw [show ({ s with heap := s.heap.push { cls := .type "dict", data := .dict #[] } } : Shared).heap.objs.size = s.heap.objs.size + 1 from Heap.size_push ..]
  exact h _ rfl rfl
end
end Mine
end

-- D33
section
theorem Mine.zz_D33 : True := by
  k_with_none
  trivial
set_option maxRecDepth 100000
set_option maxHeartbeats 4000000
namespace Mine
open PyProof.Rows.LCg
section
variable {w : World} {A : Around} {E : Value → Shared → Prop} {s : Shared} {g₀ : Heap} {L : Addr} {m : Str → Option Value} {news : List (Addr × Obj)}
/-- one object was changed, of whatever kind -/
noncomputable def Chg (d : Addr) (n n' : List (Addr × Obj)) : Prop := ∀ p ∈ n, p.1 ≠ d → p ∈ n'
theorem chg_map {n : List (Addr × Obj)} {d : Addr} {o' : Obj} : Chg d n (n.map fun p => if p.1 = d then (d, o') else p) := fun p hp hpd => List.mem_map.mpr ⟨p, hp, by simp [hpd]⟩
theorem chg_at {n : List (Addr × Obj)} {d : Addr} {o o' : Obj} (h : (d, o) ∈ n) : (d, o') ∈ (n.map fun p => if p.1 = d then (d, o') else p) := List.mem_map.mpr ⟨_, h, by simp⟩
/-- what a turn leaves -/
noncomputable def CellEnd (s : Shared) (L : Addr) (m : Str → Option Value) (I C W D : Addr) (oI : Obj) (ys : List Value) (P : Heap → List (Addr × Obj) → List Value → Prop) (y : Value) (s₄ : Shared) : Prop :=
  ∃ g' h' tk' n₂ oC oW v m', s₄ = { s with heap := h', toks := tk' } ∧ Fr g' L h' m ∧ News g' L h' n₂ ∧ (I, oI) ∈ n₂ ∧ (C, oC) ∈ n₂ ∧ NsObj oC m' ∧ (W, oW) ∈ n₂ ∧ oW.data = .cell v ∧ (D, lst ys) ∈ n₂ ∧ P g' n₂ (ys ++ [y])

theorem cell_comp {I : Addr} {n : Nat} {st : Nat → Obj → Prop} {item : Nat → Value → Prop} {base : Heap → Prop} {elt iter : PySem.Expr} {x : Str} {px : Pos} {scope : Scope} {cl : List (Str × Addr)} {pos : Pos} {env : Env} {o0 : Obj}
    {RR : Value → Addr → Result → Shared → Prop} (W : ItOk w A I n st item base) (self : ∀ (s : Shared) (o : Obj) (Q : Value → Shared → Prop) (E : Value → Shared → Prop), s.heap.get? I = some o → st 0 o → Q (.ref I) s → wpAny (model PG w) A (pyIter (.ref I)) Q E s)
    (hone : ∀ (z : Addr) acc, cellsFrom z scope.names acc = (x, z) :: acc) (hpush : ∀ h : Heap, pushCells h scope.names = h.push { cls := .type "cell", data := .cell none }) (hkind : scope.kind = .function)
    (hxc : ∀ cl' C, (compEnvC scope cl' C env).kindOf x = some .cell) (hn : n ≤ 1000)
    (F : Fr g₀ L s.heap m) (N : News g₀ L s.heap news) (hI : (I, o0) ∈ news) (h0 : st 0 o0)
    (P : Nat → Heap → List (Addr × Obj) → List Value → Prop) (P0 : P 0 g₀ news []) (stable : ∀ i g n₁ n₂ ys (d : Nat), @LE.le Nat _ I d → d ≤ s.heap.objs.size + 2 → P i g n₁ ys → Chg d n₁ n₂ → P i g n₂ ys) (hbase : ∀ i g n₁ ys h, P i g n₁ ys → Fr g L h m → News g L h n₁ → base h)
    (turn : ∀ i v C W D oI oC oW g m' n₁ ys h tk E', i < n → item i v → ys.length = i → P i g n₁ ys → (I, oI) ∈ n₁ → (C, oC) ∈ n₁ → NsObj oC m' → (W, oW) ∈ n₁ → oW.data = .cell (some v) → (D, lst ys) ∈ n₁ → I < D → D < C → C < W → Fr g L h m → News g L h n₁ →
      wpAny (model PG w) A (eval elt (compEnvC scope ((x, W) :: cl) C env)) (CellEnd s L m I C W D oI ys (P (i + 1))) E' { s with heap := h, toks := tk })
    (hRR : ∀ D C h tk m' g n₁ ys, Fr g L h m → News g L h n₁ → (D, lst ys) ∈ n₁ → (∀ p ∈ n₁, p.1 ≠ C) → ys.length = n → P n g n₁ ys → h.Ns C m' → g.get? C = none → C ≠ L → RR (.ref D) C (.ok .next) { s with heap := h, toks := tk }) :
    wpAny (model PG w) A (newList []) (fun acc s₃ => wpAny (model PG w) A (newFunctionEnv scope env.globals cl [] env.qual none .none (some env)) (fun cenv s₄ =>
      codeAny (model PG w) A (.compStart (.ListComp elt [⟨.Name x px, iter, [], 0⟩] scope pos) 0 (.ref I) acc { cenv with scope := relabel scope env }) (RR acc cenv.locals) s₄) E s₃) E s := by
  have hIs : @LT.lt Nat _ I s.heap.objs.size := Heap.lt_size (N _ hI).1
  refine wpAny_newObj_type ?_
  refine compEnv_cell hone hpush fun cenv hce hcl => ?_
  rw [hce, hcl]
  have e1 : (s.heap.push { cls := .type "list", dict := none, data := .seq ([] : List Value).toArray }).objs.size = s.heap.objs.size + 1 := Heap.size_push ..
  dsimp only
  rw [e1]
  have F1 : Fr g₀ L (s.heap.push (lst [])) m := F.push _
  have N1 := News.push F N (lst []) rfl
  have F2 := F1.push ({ cls := .type "dict", data := .dict #[] } : Obj)
  have N2 := News.push F1 N1 ({ cls := .type "dict", data := .dict #[] } : Obj) rfl
  have F3 := F2.push ({ cls := .type "cell", data := .cell none } : Obj)
  have N3 := News.push F2 N2 ({ cls := .type "cell", data := .cell none } : Obj) rfl
  have e2 : ((s.heap.push (lst [])).push { cls := .type "dict", data := .dict #[] }).objs.size = s.heap.objs.size + 1 + 1 := by rw [Heap.size_push, Heap.size_push]
  rw [e2] at N3
  have e1' : (s.heap.push (lst [])).objs.size = s.heap.objs.size + 1 := Heap.size_push ..
  rw [e1'] at N3
  have H3 : (((s.heap.push (lst [])).push { cls := .type "dict", data := .dict #[] }).push { cls := .type "cell", data := .cell none }) = (((s.heap.push { cls := .type "list", dict := none, data := .seq ([] : List Value).toArray }).push { cls := .type "dict", data := .dict #[] }).push { cls := .type "cell", data := .cell none }) := rfl
  generalize hD : s.heap.objs.size = D at *
  have hDC : D < D + 1 := Nat.lt_succ_self _
  have hCW : D + 1 < D + 1 + 1 := Nat.lt_succ_self _
  rw [H3] at F3 N3
  have loop : ∀ s₃ : Shared, (∃ h tk, s₃ = { s with heap := h, toks := tk } ∧ Fr g₀ L h m ∧ News g₀ L h ((D + 1 + 1, { cls := .type "cell", data := .cell none }) :: (D + 1, { cls := .type "dict", data := .dict #[] }) :: (D, lst []) :: news)) →
      codeAny (model PG w) A (.compLoop (.ListComp elt [⟨.Name x px, iter, [], 0⟩] scope pos) 0 (.ref I) (.ref D) (compEnvC scope ((x, D + 1 + 1) :: cl) (D + 1) env)) (RR (.ref D) (D + 1)) s₃ := by
    rintro s₃ ⟨h1, tk1, rfl, F1, N1⟩
    refine codeAny_compLoop_tests (fun k s' => ∃ i g h tk n₁ oI oC oW v m' ys, s' = { s with heap := h, toks := tk } ∧ i ≤ n ∧ k = n + 1 - i ∧ ys.length = i ∧ Fr g L h m ∧ News g L h n₁ ∧ (I, oI) ∈ n₁ ∧ st i oI ∧ (D + 1, oC) ∈ n₁ ∧ NsObj oC m' ∧ (D + 1 + 1, oW) ∈ n₁ ∧ oW.data = .cell v ∧ (D, lst ys) ∈ n₁ ∧ P i g n₁ ys) ?_ (n + 1)
      ⟨0, g₀, h1, tk1, _, o0, _, _, none, fun _ => none, [], rfl, Nat.zero_le _, rfl, rfl, F1, N1, .tail _ (.tail _ (.tail _ hI)), h0, .tail _ (.head _), ⟨#[], 0, rfl, (fun e he => absurd he (by simp)), fun _ => rfl⟩, .head _, rfl, .tail _ (.tail _ (.head _)), stable 0 _ _ _ _ (D + 1) (by omega) (by omega) P0 (fun p hp _ => .tail _ (.tail _ (.tail _ hp)))⟩
    rintro k _ ⟨i, g, h, tk, n₁, oI, oC, oW, v0, m', ys, rfl, hi, rfl, hyl, F, N, hI, hst, hC, nC, hW, dW, hDm, p1⟩
    have hbs := hbase _ _ _ _ _ p1 F N
    rcases Nat.lt_or_ge i n with hlt | hge
    · refine W.next i _ oI _ _ hlt (N _ hI).1 hst hbs fun v h2 oI2 tk2 hv ho2 hst2 hs2 => ?_
      have Na : News g L h2 (n₁.map fun p => if p.1 = I then (I, oI2) else p) := N.replace hs2 ho2
      have Fa : Fr g L h2 m := F.change hs2 (N _ hI).2.1 (N _ hI).2.2
      have sa : Chg I n₁ (n₁.map fun p => if p.1 = I then (I, oI2) else p) := chg_map
      have hIa : (I, oI2) ∈ (n₁.map fun p => if p.1 = I then (I, oI2) else p) := chg_at hI
      have hCa := sa _ hC (by show @Ne Nat (D + 1) (I); omega)
      have hWa := sa _ hW (by show @Ne Nat (D + 1 + 1) (I); omega)
      have hDa := sa _ hDm (by show @Ne Nat (D) (I); omega)
      have pa := stable _ _ _ _ _ I (Nat.le_refl _) (by omega) p1 sa
      generalize (n₁.map fun p => if p.1 = I then (I, oI2) else p) = na at Na sa hIa hCa hWa hDa pa
      refine wpAny_assign_Name (wpAny_storeName_cell (c := D + 1 + 1) (by simp [compEnvC, relabel, hkind]) (hxc _ _) (by simp [compEnvC]) ⟨oW, (Na _ hWa).1, dW⟩ (fun h3 hv3 hs3 => ?_))
      obtain ⟨oW3, hoW3, dW3⟩ := hv3
      have Nb : News g L h3 (na.map fun p => if p.1 = D + 1 + 1 then (D + 1 + 1, oW3) else p) := Na.replace hs3 hoW3
      have Fb : Fr g L h3 m := Fa.change hs3 (Na _ hWa).2.1 (Na _ hWa).2.2
      have sb : Chg (D + 1 + 1) na (na.map fun p => if p.1 = D + 1 + 1 then (D + 1 + 1, oW3) else p) := chg_map
      have hWb : (D + 1 + 1, oW3) ∈ (na.map fun p => if p.1 = D + 1 + 1 then (D + 1 + 1, oW3) else p) := chg_at hWa
      have hIb := sb _ hIa (by show @Ne Nat (I) (D + 1 + 1); omega)
      have hCb := sb _ hCa (by show @Ne Nat (D + 1) (D + 1 + 1); omega)
      have hDb := sb _ hDa (by show @Ne Nat (D) (D + 1 + 1); omega)
      have pb := stable _ _ _ _ _ (D + 1 + 1) (by omega) (by omega) pa sb
      generalize (na.map fun p => if p.1 = D + 1 + 1 then (D + 1 + 1, oW3) else p) = nb at Nb sb hIb hCb hWb hDb pb
      refine wpAny_tests_nil ?_
      simp only [if_true]
      refine wpAny_mono (turn i v (D + 1) (D + 1 + 1) D oI2 oC oW3 g m' nb ys h3 _ _ hlt hv hyl pb hIb hCb nC hWb dW3 hDb hIs hDC hCW Fb Nb) (fun y s₄ h₄ => ?_) fun _ _ e => e
      obtain ⟨g4, h4, tk4, n4, oC4, oW4, v4, m4, rfl, F4, N4, hI4, hC4, nC4, hW4, dW4, hD4, p4⟩ := h₄
      refine append_at (hsz := by rw [sizeLine_eq, List.size_toArray]; omega) (N4 _ hD4).1 fun h5 hs5 ho5 => ?_
      have Nc : News g4 L h5 (n4.map fun p => if p.1 = D then (D, lst (ys ++ [y])) else p) := N4.replace hs5 (ho5.trans (congrArg some (lst_snoc ys y)))
      have Fc : Fr g4 L h5 m := F4.change hs5 (N4 _ hD4).2.1 (N4 _ hD4).2.2
      have sc : Chg D n4 (n4.map fun p => if p.1 = D then (D, lst (ys ++ [y])) else p) := chg_map
      exact ⟨n + 1 - (i + 1), by omega, i + 1, g4, h5, tk4, _, oI2, oC4, oW4, v4, m4, ys ++ [y], rfl, hlt, rfl, by rw [List.length_append, hyl]; rfl, Fc, Nc, sc _ hI4 (by show @Ne Nat (I) (D); omega), hst2, sc _ hC4 (by show @Ne Nat (D + 1) (D); omega), nC4, sc _ hW4 (by show @Ne Nat (D + 1 + 1) (D); omega), dW4, chg_at hD4, stable _ _ _ _ _ D (Nat.le_of_lt hIs) (by omega) p4 sc⟩
    · obtain rfl : i = n := Nat.le_antisymm hi hge
      refine W.stop _ oI _ _ (N _ hI).1 hst hbs fun h2 tk2 hs2 => ?_
      have keep : ∀ p ∈ n₁.filter (fun p => decide (p.1 ≠ I ∧ p.1 ≠ D + 1)), p ∈ n₁ ∧ p.1 ≠ I ∧ p.1 ≠ D + 1 := fun p hp => ⟨(List.mem_filter.mp hp).1, of_decide_eq_true (List.mem_filter.mp hp).2⟩
      have Fa : Fr g L h2 m := by
        obtain ⟨oL, a1, a2, hoL, a3⟩ := F.ns
        refine ⟨⟨oL, a1, a2, hs2 _ _ (N _ hI).2.1.symm hoL, a3⟩, fun b o eb => hs2 _ _ ?_ (F.keep b o eb), F.above⟩
        rintro rfl
        rw [(N _ hI).2.2] at eb; cases eb
      have s1 : Chg I n₁ (n₁.filter fun p => decide (p.1 ≠ I)) := fun p hp hpd => List.mem_filter.mpr ⟨hp, by simpa using hpd⟩
      have s2 : Chg (D + 1) (n₁.filter fun p => decide (p.1 ≠ I)) (n₁.filter fun p => decide (p.1 ≠ I ∧ p.1 ≠ D + 1)) := fun p hp hpd => List.mem_filter.mpr ⟨(List.mem_filter.mp hp).1, decide_eq_true ⟨of_decide_eq_true (List.mem_filter.mp hp).2, hpd⟩⟩
      have pz := stable _ _ _ _ _ (D + 1) (by omega) (by omega) (stable _ _ _ _ _ I (Nat.le_refl _) (by omega) p1 s1) s2
      refine hRR D (D + 1) h2 tk2 m' g _ ys Fa (fun p hp => ⟨hs2 _ _ (keep p hp).2.1 (N p (keep p hp).1).1, (N p (keep p hp).1).2⟩) (List.mem_filter.mpr ⟨hDm, decide_eq_true ⟨by show @Ne Nat (D) (I); omega, by show @Ne Nat (D) (D + 1); omega⟩⟩) (fun p hp => (keep p hp).2.2) hyl pz (nC.ns (hs2 _ _ (by show @Ne Nat (D + 1) (I); omega) (N _ hC).1)) (N _ hC).2.2 (N _ hC).2.1
  exact codeAny_compStart_list (loop _ ⟨_, _, rfl, F3, N3⟩) (self _ _ _ _ (N3 _ (.tail _ (.tail _ (.tail _ hI)))).1 h0 (loop _ ⟨_, _, rfl, F3, N3⟩))
end
end Mine
end

-- D34
section
theorem Mine.zz_D34 : True := by
  k_with_none
  trivial
set_option maxRecDepth 100000
set_option maxHeartbeats 4000000
namespace Mine
open PyProof.Rows.LCg
section
variable {w : World} {A : Around} {E : Value → Shared → Prop} {s : Shared} {env : Env}
/-- the source of a list comprehension whose variable is a cell -/
noncomputable def SrcC (w : World) (A : Around) (env : Env) (elt : PySem.Expr) (x : Str) (scope : Scope) (cl : List (Str × Addr)) (Q : Value → Shared → Prop) (it : Value) (s : Shared) : Prop :=
  ∃ (I : Addr) (n : Nat) (st : Nat → Obj → Prop) (item : Nat → Value → Prop) (base : Heap → Prop) (o0 : Obj) (g₀ : Heap) (L : Addr) (m : Str → Option Value) (news : List (Addr × Obj)) (P : Nat → Heap → List (Addr × Obj) → List Value → Prop),
    it = .ref I ∧ ItOk w A I n st item base ∧ (∀ (s : Shared) (o : Obj) (Q : Value → Shared → Prop) (E : Value → Shared → Prop), s.heap.get? I = some o → st 0 o → Q (.ref I) s → wpAny (model PG w) A (pyIter (.ref I)) Q E s) ∧ n ≤ 1000 ∧
    Fr g₀ L s.heap m ∧ News g₀ L s.heap news ∧ (I, o0) ∈ news ∧ st 0 o0 ∧ P 0 g₀ news [] ∧ (∀ i g n₁ n₂ ys (d : Nat), @LE.le Nat _ I d → d ≤ s.heap.objs.size + 2 → P i g n₁ ys → Chg d n₁ n₂ → P i g n₂ ys) ∧ (∀ i g n₁ ys h, P i g n₁ ys → Fr g L h m → News g L h n₁ → base h) ∧
    (∀ i v C W D oI oC oW g m' n₁ ys h tk E', i < n → item i v → ys.length = i → P i g n₁ ys → (I, oI) ∈ n₁ → (C, oC) ∈ n₁ → NsObj oC m' → (W, oW) ∈ n₁ → oW.data = .cell (some v) → (D, lst ys) ∈ n₁ → I < D → D < C → C < W → Fr g L h m → News g L h n₁ →
      wpAny (model PG w) A (eval elt (compEnvC scope ((x, W) :: cl) C env)) (CellEnd s L m I C W D oI ys (P (i + 1))) E' { s with heap := h, toks := tk }) ∧
    (∀ D h tk g n₁ ys, Fr g L h m → News g L h n₁ → (D, lst ys) ∈ n₁ → ys.length = n → P n g n₁ ys → Q (.ref D) { s with heap := h, toks := tk })
theorem ListComp_cell {elt iter : PySem.Expr} {x : Str} {px : Pos} {scope : Scope} {cl : List (Str × Addr)} {pos : Pos} {Q : Value → Shared → Prop}
    (hclos : closureFor scope env = pure cl) (hkind : scope.kind = .function) (hnames : ∀ y ∈ scope.names, y.2 = .local → scope.names.lookup y.1 = some .local)
    (hone : ∀ (z : Addr) acc, cellsFrom z scope.names acc = (x, z) :: acc) (hpush : ∀ h : Heap, pushCells h scope.names = h.push { cls := .type "cell", data := .cell none })
    (hxc : ∀ cl' C, (compEnvC scope cl' C env).kindOf x = some .cell)
    (h : wpAny (model PG w) A (eval iter env) (fun xv s₁ => wpAny (model PG w) A (pyIter xv) (SrcC w A env elt x scope cl Q) E s₁) E s)
    (hs : ∀ x, foldedSetIterable iter env x = pure x) :
    wpAny (model PG w) A (eval (.ListComp elt [⟨.Name x px, iter, [], 0⟩] scope pos) env) Q E s := by
  rw [eval_ListComp]
  refine wpAny_comprehension_free (use := none) rfl hs hclos hkind hnames (wpAny_mono h (fun xv s₁ h₁ => wpAny_mono h₁ (fun it s₂ h₂ => ?_) fun _ _ e => e) fun _ _ e => e)
  obtain ⟨I, n, st, item, base, o0, g₀, L, m, news, P, rfl, W, self, hn, F, N, hI, h0, P0, stable, hbase, turn, fin⟩ := h₂
  refine cell_comp (RR := fun acc C => compPost (model PG w) A E none Q acc C) W self hone hpush hkind hxc hn F N hI h0 P P0 stable hbase turn ?_
  intro D C h tk m' g n₁ ys F1 N1 hD hne hl p1 hn' hC₀ hCL
  exact ⟨m', hn', fun h'' hs'' => fin D h'' tk g n₁ ys (F1.change hs'' hCL hC₀) (fun p hp => ⟨hs''.extBut _ _ (hne p hp) (N1 p hp).1, (N1 p hp).2⟩) hD hl p1⟩
noncomputable abbrev tiO (t : Addr) (i : Nat) : Obj := { cls := .type "tuple_iterator", data := .fields #[.ref t, .int i 0] }
theorem tup_ok {I t : Addr} {items : Array Value} (hA : A.handled = none) : ItOk w A I items.size (fun i o => o.cls = .type "tuple_iterator" ∧ o.data = .fields #[.ref t, .int i 0]) (fun i v => items[i]? = some v) (fun h => h.IsTuple t items) where
  cls := fun i o h => ⟨fun e => by rw [h.1] at e; injection e with e; exact absurd e (by decide), fun e => by rw [h.1] at e; injection e with e; exact absurd e (by decide)⟩
  next := fun i s o Q E hi ho hs hb hQ => by
    obtain ⟨x, hx⟩ : ∃ x, items[i]? = some x := ⟨_, Array.getElem?_eq_getElem hi⟩
    refine wpAny_pyNext_tuple_item ⟨o, ho, hs.1, hs.2⟩ hb hx fun h' hit hsb => ?_
    obtain ⟨o', ho', hc', hd'⟩ := hit
    exact hQ x h' o' _ hx ho' ⟨hc', hd'⟩ hsb
  stop := fun s o Q E ho hs hb hQ => wpAny_pyNext_tuple_end hA ⟨o, ho, hs.1, hs.2⟩ hb (Array.getElem?_eq_none (Nat.le_refl _)) fun h' hsb => hQ h' s.toks hsb
end
end Mine
end

-- D35
section
theorem Mine.zz_D35 : True := by
  k_with_none
  trivial
set_option maxRecDepth 100000
set_option maxHeartbeats 4000000
namespace Mine
theorem code149 {w : World} {h : Heap} (X : (Mine.hd.heap_39 w.params).In h) : CodeHd h 149 147 := ⟨_, _, _, _, _, _, _, _, _, X 149 _ rfl, rfl, rfl, rfl, rfl, rfl, rfl, rfl, rfl, by decide⟩
theorem code154 {w : World} {h : Heap} (X : (Mine.hd.heap_39 w.params).In h) : CodeHd h 154 152 := ⟨_, _, _, _, _, _, _, _, _, X 154 _ rfl, rfl, rfl, rfl, rfl, rfl, rfl, rfl, rfl, by decide⟩
end Mine
end

-- D36
section
theorem Mine.zz_D36 : True := by
  k_with_none
  trivial
set_option maxRecDepth 100000
set_option maxHeartbeats 4000000
namespace Mine
open PyProof.Rows.LCg
section
variable {w : World} {A : Around} {E : Value → Shared → Prop} {s : Shared} {env : Env} {g₀ : Heap} {L : Addr} {m : Str → Option Value} {news : List (Addr × Obj)}
/-- what is so between two turns -/
noncomputable abbrev TurnP (news : List (Addr × Obj)) (T : Addr) (G : Heap → Prop) (Y : Nat → List Value → Prop) (R : Nat → List (Addr × Obj) → Prop) (i : Nat) (g : Heap) (n : List (Addr × Obj)) (ys : List Value) : Prop := G g ∧ (∀ p ∈ news, p.1 ≠ T → p ∈ n) ∧ Y i ys ∧ R i n
theorem srcC_tup {t T : Addr} {v0 v1 : Value} {k : Nat} {elt : PySem.Expr} {x : Str} {scope : Scope} {cl : List (Str × Addr)} {Q : Value → Shared → Prop} (G : Heap → Prop) (Y : Nat → List Value → Prop) (R : Nat → Nat → List (Addr × Obj) → Prop)
    (hh : A.handled = none) (F : Fr g₀ L s.heap m) (N : News g₀ L s.heap news) (ht : (t, tupO [v0, v1] k) ∈ news) (htT : t ≠ T) (G0 : G g₀) (Y0 : Y 0 []) (R0 : ∀ n, (∀ p ∈ news, p ∈ n) → R s.heap.objs.size 0 n)
    (Rst : ∀ i n n' (d : Nat), s.heap.objs.size ≤ d → d ≤ s.heap.objs.size + 3 → R s.heap.objs.size i n → Chg d n n' → R s.heap.objs.size i n')
    (turn : ∀ i v C W D oI oC oW (I : Addr) g m' n₁ ys h tk E', I = s.heap.objs.size → (i = 0 ∧ v = v0 ∨ i = 1 ∧ v = v1) → ys.length = i → G g → (∀ p ∈ news, p.1 ≠ T → p ∈ n₁) → Y i ys → R s.heap.objs.size i n₁ → (I, oI) ∈ n₁ → (C, oC) ∈ n₁ → NsObj oC m' → (W, oW) ∈ n₁ → oW.data = .cell (some v) → (D, lst ys) ∈ n₁ → I < D → D < C → C < W → Fr g L h m → News g L h n₁ →
      wpAny (model PG w) A (eval elt (compEnvC scope ((x, W) :: cl) C env)) (CellEnd { s with heap := s.heap.push (tiO t 0) } L m I C W D oI ys (TurnP news T G Y (R s.heap.objs.size) (i + 1))) E' { s with heap := h, toks := tk })
    (fin : ∀ D h tk g n₁ ys, Fr g L h m → News g L h n₁ → (D, lst ys) ∈ n₁ → G g → (∀ p ∈ news, p.1 ≠ T → p ∈ n₁) → Y 2 ys → R s.heap.objs.size 2 n₁ → Q (.ref D) { s with heap := h, toks := tk }) :
    wpAny (model PG w) A (pyIter (.ref t)) (SrcC w A env elt x scope cl Q) E s := by
  refine wpAny_pyIter_tuple (items := #[v0, v1]) ⟨_, (N _ ht).1, rfl, k, rfl⟩ ?_
  have lt : ∀ p ∈ news, @LT.lt Nat _ p.1 s.heap.objs.size := fun p hp => Heap.lt_size (N p hp).1
  refine ⟨s.heap.objs.size, 2, _, _, _, tiO t 0, g₀, L, m, _, TurnP news T G Y (R s.heap.objs.size), rfl, tup_ok (items := #[v0, v1]) hh, (fun s o Q E ho hs hQ => wpAny_pyIter_tupleiter (i := 0) ⟨o, ho, hs.1, hs.2⟩ hQ), by decide, F.push _, News.push F N (tiO t 0) rfl, .head _, ⟨rfl, rfl⟩, ⟨G0, fun p hp _ => .tail _ hp, Y0, R0 _ fun p hp => .tail _ hp⟩, ?_, ?_, ?_, ?_⟩
  · rintro i g n₁ n₂ ys d h1 h2 ⟨a1, a2, a3, a4⟩ hc
    have h2' : d ≤ s.heap.objs.size + 3 := by
      dsimp only at h2
      rw [Heap.size_push] at h2; omega
    exact ⟨a1, fun p hp hpT => hc p (a2 p hp hpT) (by have := lt p hp; show @Ne Nat p.1 d; omega), a3, Rst i n₁ n₂ d h1 h2' a4 hc⟩
  · rintro i g n₁ ys h ⟨a1, a2, a3, a4⟩ F1 N1
    exact ⟨_, (N1 _ (a2 _ ht htT)).1, rfl, k, rfl⟩
  · rintro i v C W D oI oC oW g m' n₁ ys h tk E' hi hv hyl ⟨a1, a2, a3, a4⟩ hI hC nC hW dW hD h1 h2 h3 F1 N1
    refine turn i v C W D oI oC oW _ g m' n₁ ys h tk E' rfl ?_ hyl a1 a2 a3 a4 hI hC nC hW dW hD h1 h2 h3 F1 N1
    obtain rfl | rfl : i = 0 ∨ i = 1 := by omega
    · exact .inl ⟨rfl, by simpa using hv.symm⟩
    · exact .inr ⟨rfl, by simpa using hv.symm⟩
  · rintro D h tk g n₁ ys F1 N1 hD hyl ⟨a1, a2, a3, a4⟩
    exact fin D h tk g n₁ ys F1 N1 hD a1 a2 a3 a4
end
end Mine
end

-- D37
section
theorem Mine.zz_D37 : True := by
  k_with_none
  trivial
set_option maxRecDepth 100000
set_option maxHeartbeats 4000000
namespace Mine
/-- how the code table stands between two turns that make the same lambda -/
noncomputable def LamR (T : Addr) (pos : Pos) (qual : Str) (sz i : Nat) (n : List (Addr × Obj)) : Prop :=
  ∃ ps : Array Value, (T, tabObj ps) ∈ n ∧ TriplesOk ps.toList ∧ (i = 0 → ps = #[]) ∧ (i ≠ 0 → ∃ c' oc vs t, codeAmong pos ps.toList = some (.ref c') ∧ (c', oc) ∈ n ∧ oc.data = .fields vs ∧ vs[1]? = some (.str qual t) ∧ @LT.lt Nat _ (sz + 3) c')
theorem LamR.start {T : Addr} {pos : Pos} {qual : Str} {sz : Nat} {n : List (Addr × Obj)} (h : (T, tabObj #[]) ∈ n) : LamR T pos qual sz 0 n := ⟨#[], h, trivial, fun _ => rfl, fun h => absurd rfl h⟩
theorem LamR.stay {T : Addr} {pos : Pos} {qual : Str} {sz i : Nat} {n n' : List (Addr × Obj)} (R : LamR T pos qual sz i n) (h : ∀ p ∈ n, p.1 = T ∨ @LT.lt Nat _ (sz + 3) p.1 → p ∈ n') : LamR T pos qual sz i n' := by
  obtain ⟨ps, a1, a2, a3, a4⟩ := R
  refine ⟨ps, h _ a1 (.inl rfl), a2, a3, fun hi => ?_⟩
  obtain ⟨c', oc, vs, t, b1, b2, b3, b4, b5⟩ := a4 hi
  exact ⟨c', oc, vs, t, b1, h _ b2 (.inr b5), b3, b4, b5⟩
section
variable {M : Model} {A : Around} {E : Value → Shared → Prop} {s : Shared} {h₀ : Heap} {L c T : Addr} {m mg mb : Str → Option Value} {news : List (Addr × Obj)} {p : Program} {loose : List Str} {mean : ExcName → Option Value} {params : Arguments} {body : PySem.Expr} {scope : Scope} {pos : Pos} {clos : List (Str × Addr)} {env : Env} {qual : Str} {Q : Value → Shared → Prop} {sz i : Nat}
theorem lam_made (F : Fr h₀ L s.heap m) (N : News h₀ L s.heap news) (Tp : Top p loose mean mg mb h₀) (C : CodeHd h₀ c T) (R : LamR T pos qual sz i news) (hW : ∃ q ∈ news, @LE.le Nat _ (sz + 3) q.1)
    (hcd : env.code = .ref c) (hge : env.globals = mainGlobals) (hcl : closureFor scope env = pure clos) (hq : env.qual ++ Str.ofString "<lambda>" = qual) (hdef : defaultsOf params env = ([], []))
    (h : ∀ f c' oc vs t pm ctv h' tk n', Fr h₀ L h' m → News h₀ L h' n' → (f, kla_obj (Str.ofString "<lambda>") qual params body scope clos pm c' ctv) ∈ n' → (c', oc) ∈ n' → oc.data = .fields vs → vs[1]? = some (.str qual t) → (∀ p ∈ news, p.1 ≠ T → p ∈ n') → LamR T pos qual sz (i + 1) n' → Q (.ref f) { s with heap := h', toks := tk }) :
    wpAny M A (eval (.Lambda params body scope pos) env) Q E s := by
  refine kla_eval hdef ?_
  rw [show env.qual ++ ("<lambda>" : Str) = qual from hq]
  obtain ⟨ps, a1, a2, a3, a4⟩ := R
  obtain ⟨q, hq1, hq2⟩ := hW
  by_cases hi : i = 0
  · obtain rfl := a3 hi
    refine lam_new F N Tp C hcd hge a1 a2 rfl hcl fun f c' oc vs t ctv h' tk F' N' d1 d2 l1 l2 => ?_
    have cp : (T, tabObj (#[] ++ #[rawInt pos.line, rawInt pos.col, .ref c'])) ∈ (news.map fun q => if q.1 = T then (T, tabObj (#[] ++ #[rawInt pos.line, rawInt pos.col, .ref c'])) else q) := List.mem_map.mpr ⟨_, a1, by simp⟩
    refine h f c' oc vs t _ ctv h' tk _ F' N' (.head _) (.tail _ (.head _)) d1 d2 (fun p hp hpT => .tail _ (.tail _ (List.mem_map.mpr ⟨p, hp, by simp [hpT]⟩))) ⟨_, .tail _ (.tail _ cp), ?_, (fun q => absurd q (Nat.succ_ne_zero _)), fun _ => ⟨c', oc, vs, t, ?_, .tail _ (.head _), d1, d2, Nat.lt_of_le_of_lt hq2 (l1 q hq1)⟩⟩
    · simp [TriplesOk, rawInt]
    · simp [codeAmong, rawInt]
  · obtain ⟨c', oc, vs, t, b1, b2, b3, b4, b5⟩ := a4 hi
    refine lam_again F N Tp C hcd hge a1 a2 b1 hcl fun f ctv h' tk F' N' l1 => ?_
    exact h f c' oc vs t _ ctv h' tk _ F' N' (.head _) (.tail _ b2) b3 b4 (fun p hp _ => .tail _ hp) ⟨ps, .tail _ a1, a2, (fun q => absurd q (Nat.succ_ne_zero _)), fun _ => ⟨c', oc, vs, t, b1, .tail _ b2, b3, b4, b5⟩⟩
end
theorem CallS.use {w : World} {f : Addr} {D U : Nat} {news : List (Addr × Obj)} {vs : List Value} {post : (Value → List (Addr × Obj) → Prop) → Prop} (C : CallS w f D U news vs post)
    {p : Program} {loose : List Str} {mean : ExcName → Option Value} {mg mb : Str → Option Value} {dp un : Nat} {gd : Option (List Code)} {cn : Str} {cs : Scope} {a : Addr} {ccd : Value} {cl : List (Str × Addr)} {outer : List Env} {A₀ : Around} {base h₀ : Heap} {L : Addr} {m : Str → Option Value} {s : Shared}
    {Q E : Value → Shared → Prop}
    (B : Below A₀ base outer h₀) (F : Fr h₀ L s.heap m) (X : (Mine.hd.heap_39 w.params).In h₀) (N : News h₀ L s.heap news) (T : Top p loose mean mg mb h₀) (Xb : (Mine.hd.heap_39 w.params).In base) (Tb : Top p loose mean mg mb base) (hk : cs.kind = .function) (hd : dp + D < recursionLimit) (hu : un + U < cLine)
    (ret : post (fun v news' => ∀ (g' h' : Heap) (tk' : Nat), Below A₀ base outer g' → Fr g' L h' m → News g' L h' news' → (Mine.hd.heap_39 w.params).In g' → Top p loose mean mg mb g' → Soft outer h₀ g' → Q v { s with heap := h', toks := tk' })) :
    wpAny (model PG w) (ktrTop dp un gd cn cs L a ccd cl outer) (call (.ref f) vs) Q E s := C _ _ _ _ _ _ _ _ _ _ _ _ _ _ _ _ _ _ _ _ _ _ B F X N T Xb Tb hk hd hu ret
section
variable {w : World} {h₀ h : Heap} {L T : Addr} {news n' : List (Addr × Obj)} {ps : Array Value}
theorem ne_tab {a : Addr} {o : Obj} (N : News h₀ L h news) (hT : (T, tabObj ps) ∈ news) (ha : (a, o) ∈ news) (hd : ∀ vs, o.data ≠ .fields vs) : a ≠ T := by
  rintro rfl
  have e := Option.some.inj ((N _ ha).1.symm.trans (N _ hT).1)
  exact hd ps (by have := congrArg Obj.data e; exact this)
theorem stp_tab (N : News h₀ L h news) (hT : (T, tabObj ps) ∈ news) (hs : ∀ p ∈ news, p.1 ≠ T → p ∈ n') : Stp w T news n' :=
  ⟨fun _ _ _ H => H.imp id fun e => hs _ e (ne_tab N hT e fun vs q => by cases q), hs⟩
theorem SumAt.keepT {d : Addr} {l : PSum} (S : SumAt w news d l) (N : News h₀ L h news) (hT : (T, tabObj ps) ∈ news) (hs : ∀ p ∈ news, p.1 ≠ T → p ∈ n') : SumAt w n' d l := by
  refine S.stp (stp_tab N hT hs) ?_
  obtain ⟨_, es, ep, hd, _⟩ := S
  exact ne_tab N hT hd fun vs q => by cases q
theorem SumAt.keepS {n0 : List (Addr × Obj)} {d : Addr} {l : PSum} (S : SumAt w n0 d l) (N : News h₀ L h news) (h0 : ∀ p ∈ n0, p ∈ news) (hT : (T, tabObj ps) ∈ news) (hs : ∀ p ∈ news, p.1 ≠ T → p ∈ n') : SumAt w n' d l := (S.mono h0).keepT N hT hs
end
end Mine
end

-- C24
section
theorem Mine.zz_C24 : True := by
  k_with_none
  trivial
set_option maxRecDepth 100000
set_option maxHeartbeats 8000000
namespace Mine
noncomputable abbrev noPars : Arguments := { posonlyargs := [], args := [], vararg := none, kwonlyargs := [], kw_defaults := [], kwarg := none, defaults := [] }
noncomputable abbrev lamS (a b c : Str) : Scope := { kind := .function, names := [(a, .free), (b, .free), (c, .globalImplicit)], isGenerator := false, isCoroutine := false, more := [] }
noncomputable abbrev farE (p1 p2 p3 p4 p5 p6 : Pos) : Expr := .Call (.Name "gratio_power" p1) [.Name "told" p2, .BinOp (.Name "way" p3) .Mult (.Constant (.int 200) 0 p4) p5] [] p6
theorem lam_far (w : World) (news) (f c' tA wA q dt db : Addr) (oc oT oW : Obj) (vs : Array Value) (t : Tok) (pm ctv : Value) (qual : Str) (p1 p2 p3 p4 p5 p6 : Pos) (e1 e2 : GK × Int) (kb : GK) (way : Int) (tw : Tok)
    (hf : (f, kla_obj "<lambda>" qual noPars (farE p1 p2 p3 p4 p5 p6) (lamS (Str.ofString "told") (Str.ofString "way") (Str.ofString "gratio_power")) [("way", wA), ("told", tA)] pm c' ctv) ∈ news) (hc : (c', oc) ∈ news) (hd1 : oc.data = .fields vs) (hv1 : vs[1]? = some (.str qual t))
    (hT : (tA, oT) ∈ news) (dT : oT.data = .cell (some (.ref q))) (hW : (wA, oW) ∈ news) (dW : oW.data = .cell (some (.int way tw))) (hway : way = 1 ∨ way = -1)
    (P : PairAt w news q dt db) (S : SumAt w news dt [e1, e2]) (Sb : SumAt w news db [(kb, 1)]) (b1 : bitsI e1.2 ≤ 60000) (b2 : bitsI e2.2 ≤ 60000) (hfar : 200000 < 200 * bitsI e1.2 ∨ 200000 < 200 * bitsI e2.2) (hx : IntMulOk kb.1 (200 : Nat)) (hcc : IntMulOk kb.2 (200 : Nat)) :
    CallX w f 17 300 news [] (failPost news (Str.ofString "domain")) := by
  intro p loose mean mg mb dp un gd cn cs a ccd cl outer A₀ base h₀ L m s Q E B F X N T hk hd hu hret
  have HC := code149 X
  refine wpAny_call ?_
  refine' kla_code ?k1 ?k2 ?k3 ?k4 ?k5 ?kA ?kF ?kK ?k6 ?k7 ?k8 ?k9 ?kB ?_ ?c2 ?c3 ?c4 ?c5
  case kA => exact rfl
  case kF => exact rfl
  case kK => assumption
  case k1 => k_asm
  case k2 => k_asm
  case k3 => k_asm
  case k4 => k_asm
  case k5 => k_asm
  case k6 => exact hf
  case k7 => exact codeRec_news N hc hd1 hv1
  case k8 => ktr_room
  case k9 => exact rfl
  case c5 => decide
  case kB => exact locs rfl
  case c2 => exact rfl
  case c3 => exact rfl
  case c4 => exact rfl
  k_whole
  intro gF LF hF FGF FF NF BF XF TF
  (try dsimp only)
  (try k_fold)
  have HC2 := code149 XF
  k_with_none
  k_with "call ref" => (k_dflt (first | (((refine' CallX.use (gratio_far_pos w _ _ _ _ _ _ 200 _ P S (by decide) (by decide) b1 b2 hfar) ?k1 ?k2 ?k3 ?k4 ?k5 ?kK ?kd ?ku ?_; (case k1 => k_asm); (case k2 => k_asm); (case k3 => k_asm); (case k4 => k_asm); (case k5 => k_asm); (case kK => first | exact rfl | assumption); (case kd => ktr_room); (case ku => ktr_units)))) | (((refine' CallX.use (gratio_far_neg w _ _ _ _ _ _ _ 200 _ P S Sb (by decide) (by decide) b1 b2 hfar hx hcc) ?k1 ?k2 ?k3 ?k4 ?k5 ?kK ?kd ?ku ?_; (case k1 => k_asm); (case k2 => k_asm); (case k3 => k_asm); (case k4 => k_asm); (case k5 => k_asm); (case kK => first | exact rfl | assumption); (case kd => ktr_room); (case ku => ktr_units))))))
  rcases hway with rfl | rfl
  all_goals
    k_steps
    rename Fr h₀ L _ _ => FG
    rename Below _ _ _ _ => B2
    rename RaisedY _ _ _ _ _ _ _ _ => R2
    rename Heap.UpToSlots _ _ => U2
    rename Fr _ _ _ _ => F2
    rename DictIs _ _ => D2
    rename (_, _) ∈ _ => dm
    rename SubOf _ _ => xs
    rename Apart _ _ => xe
    refine pass_on B2 FG F2 R2 U2 (fun h3 R3 U3 S3 => ?_) rfl
    exact hret _ _ _ _ _ _ _ _ D2 dm xs xe _ _ R3 U3 S3
end Mine
end

-- C21
section
theorem Mine.zz_C21 : True := by
  k_with_none
  k_with "zz5" => ((with_reducible refine inCells ?_); name_kind "cell"; k_dflt (refine' ldCN ?zz5_N ?zz5_c ?zz5_m ?zz5_d ?_ ?zz5_a ?zz5_b; (case zz5_a => rfl); (case zz5_b => rfl); (case zz5_N => k_asm); (case zz5_c => rfl); (case zz5_m => (((repeat (first | with_reducible assumption | with_reducible exact List.mem_cons_self | with_reducible refine List.mem_cons_of_mem _ ?_)); done))); (case zz5_d => with_reducible assumption)))
  k_with "zz6" => first | with_reducible assumption | (refine' all_ne ?zz6_x9 ?zz6_y9; (case zz6_x9 => assumption); (case zz6_y9 => ((try dsimp only); omega))) | (refine' all_ne' ?zz6_x9 ?zz6_y9; (case zz6_x9 => assumption); (case zz6_y9 => ((try dsimp only); omega)))
  k_with "zz7" => ((with_reducible show wpAny _ _ (eval (Expr.Name _ _) (compEnvC _ _ _ _)) _ _ _); k_dflt (refine' ldKN ?zz7_N ?zz7_a ?zz7_b ?zz7_c ?zz7_m ?zz7_d ?_ ?zz7_e; (case zz7_N => k_asm); (case zz7_a => exact rfl); (case zz7_b => exact rfl); (case zz7_c => exact rfl); (case zz7_m => (((repeat (first | with_reducible assumption | with_reducible exact List.mem_cons_self | with_reducible refine List.mem_cons_of_mem _ ?_)); done))); (case zz7_d => with_reducible assumption); (case zz7_e => decide)))
  trivial
set_option maxRecDepth 100000
set_option maxHeartbeats 8000000
namespace Mine
theorem one_in {n : Nat} : ∀ e ∈ ([((1 * (n : Int), 0 * (n : Int)), 1)] : PSum), e ∈ ([(((n : Int), 0), 1)] : PSum) := fun e he => by rw [List.mem_singleton.mp he, Int.one_mul, Int.zero_mul]; exact .head _
theorem power_right (w : World) (rest) (cb cc : Nat) (box l : Addr) (vs : List Value) (ns : List Int) (k : Int) (t : Tok) (hi : IntsAre vs ns) (hbl : box ≠ l) (hv : vs.length ≤ 8) (hl : (l, bxO cc vs) ∈ rest) (hrest : ∀ p ∈ rest, p.1 ≠ box) (hT0 : (147, tabObj #[]) ∈ rest) (hk0 : 0 ≤ k) (hk1 : k ≤ 90) : CallS w 150 30 500 ((box, bxO cb [.ref l, .int k t]) :: rest) [.ref box]
    (fun R => ∀ t' news', (box, bxO cb [.ref l, .int (k + 1 + 1 + 1) t']) ∈ news' → (∀ p ∈ rest, p.1 ≠ 147 → p ∈ news') → (∃ ps, (147, tabObj ps) ∈ news') → R (.bool true) news') := by
  intro p loose mean mg mb dp un gd cn cs a ccd cl outer A₀ base h₀ L m s Q E B F X N T Xb Tb hk hd hu hret
  refine wpAny_call ?_
  k_dflt ((refine' code_defCY ?k1 ?k2 ?k3 ?k4 ?k5 ?kA ?kF ?kK ?k6 ?k7 ?k8 ?k9 ?kB ?kD ?_ ?c2 ?c3 ?c4; (case kA => exact rfl); (case kF => exact rfl); (case kK => first | exact rfl | assumption); (case k1 => k_asm); (case k2 => k_asm); (case k3 => k_asm); (case k4 => k_asm); (case k5 => k_asm); (case k6 => k_is); (case k7 => k_is); (case k8 => ktr_room); (case k9 => exact BindsTo.of_eq rfl); (case kB => exact rfl); (case kD => decide +kernel); (case c2 => exact rfl); (case c3 => exact rfl); (case c4 => exact rfl); k_whole; intro gF LF hF tkF cellsF FGF FF NF YF BF XF TF l1 lvF; (try k_lt l1); k_cells YF; (try simp only [List.cons_append, List.nil_append] at NF); (try dsimp only); (try k_fold)))
  refine absQE ?_
  intro Q0 E0 hQ0
  k_with_none
  k_with "zz5" => ((with_reducible refine inCells ?_); name_kind "cell"; k_dflt (refine' ldCN ?zz5_N ?zz5_c ?zz5_m ?zz5_d ?_ ?zz5_a ?zz5_b; (case zz5_a => rfl); (case zz5_b => rfl); (case zz5_N => k_asm); (case zz5_c => rfl); (case zz5_m => (((repeat (first | with_reducible assumption | with_reducible exact List.mem_cons_self | with_reducible refine List.mem_cons_of_mem _ ?_)); done))); (case zz5_d => with_reducible assumption)))
  k_with "zz6" => first | with_reducible assumption | (refine' all_ne ?zz6_x9 ?zz6_y9; (case zz6_x9 => assumption); (case zz6_y9 => ((try dsimp only); omega))) | (refine' all_ne' ?zz6_x9 ?zz6_y9; (case zz6_x9 => assumption); (case zz6_y9 => ((try dsimp only); omega)))
  k_with "zz7" => ((with_reducible show wpAny _ _ (eval (Expr.Name _ _) (compEnvC _ _ _ _)) _ _ _); k_dflt (refine' ldKN ?zz7_N ?zz7_a ?zz7_b ?zz7_c ?zz7_m ?zz7_d ?_ ?zz7_e; (case zz7_N => k_asm); (case zz7_a => exact rfl); (case zz7_b => exact rfl); (case zz7_c => exact rfl); (case zz7_m => (((repeat (first | with_reducible assumption | with_reducible exact List.mem_cons_self | with_reducible refine List.mem_cons_of_mem _ ?_)); done))); (case zz7_d => with_reducible assumption); (case zz7_e => decide)))
  have hbL : @LT.lt Nat _ box LF := l1.1
  have hsub : ∀ p ∈ rest, p ∈ rest := fun _ hp => hp
  have q1 : ∀ p ∈ rest, p.1 ≠ LF + 1 + 1 + 1 + 1 + 1 := all_ne' l1.2 (by omega)
  have q2 : ∀ p ∈ rest, p.1 ≠ LF + 1 + 1 + 1 + 1 := all_ne' l1.2 (by omega)
  have q3 : ∀ p ∈ rest, p.1 ≠ LF + 1 + 1 + 1 := all_ne' l1.2 (by omega)
  have q4 : ∀ p ∈ rest, p.1 ≠ LF + 1 + 1 := all_ne' l1.2 (by omega)
  have q5 : ∀ p ∈ rest, p.1 ≠ LF + 1 := all_ne' l1.2 (by omega)
  have q6 := hrest
  obtain ⟨f0, F0⟩ := fr_canon1 (x := Str.ofString "box") (v := .ref box) FF rfl
  clear FF
  k_with "call ref" => (k_dflt (refine' Call.use (take_upd w _ _ _ _ _ _ _ _ _ _ _ _ hi hbl hv ?U ?hl ?a1 ?a2 ?a3 ?a4) ?k1 ?k2 ?k3 ?k4 ?k5 ?kK ?kd ?ku ?_; (case k1 => k_asm); (case k2 => k_asm); (case k3 => k_asm); (case k4 => k_asm); (case k5 => k_asm); (case kK => exact rfl); (case kd => ktr_room); (case ku => ktr_units); (case hl => (((repeat (first | with_reducible assumption | with_reducible exact List.mem_cons_self | with_reducible refine List.mem_cons_of_mem _ ?_)); done))); (case U => k_updF); (case a1 => omega); (case a2 => omega); (case a3 => first | omega | decide); (case a4 => first | omega | decide); (intro rT tT tB hr0 hr1 hT tkT FT NT); (try dsimp only at NT)))
  k_with "my sub" => (first
    | (k_dflt (refine' sub_E ?n ?m hr0 hr1 ?_ ?s; (case n => k_asm); (case m => (((repeat (first | with_reducible assumption | with_reducible exact List.mem_cons_self | with_reducible refine List.mem_cons_of_mem _ ?_)); done))); (case s => with_unfolding_all rfl)); intro E0 tE hE)
    | (k_dflt (refine' sub_P ?n ?m hr0 hr1 ?_ ?s; (case n => k_asm); (case m => (((repeat (first | with_reducible assumption | with_reducible exact List.mem_cons_self | with_reducible refine List.mem_cons_of_mem _ ?_)); done))); (case s => with_unfolding_all rfl)); intro P tP hP)
    | (k_dflt (refine' sub_N ?n ?m hr0 hr1 ?_ ?s; (case n => k_asm); (case m => (((repeat (first | with_reducible assumption | with_reducible exact List.mem_cons_self | with_reducible refine List.mem_cons_of_mem _ ?_)); done))); (case s => with_unfolding_all rfl)); intro Z tZ hZ)
    | (k_dflt (refine' sub_row ?n ?m ?m1 ?m2 ?m3 hn1 hn3 ?_ ?s; (case n => k_asm); (case m => (((repeat (first | with_reducible assumption | with_reducible exact List.mem_cons_self | with_reducible refine List.mem_cons_of_mem _ ?_)); done))); (case m1 => (((repeat (first | with_reducible assumption | with_reducible exact List.mem_cons_self | with_reducible refine List.mem_cons_of_mem _ ?_)); done))); (case m2 => (((repeat (first | with_reducible assumption | with_reducible exact List.mem_cons_self | with_reducible refine List.mem_cons_of_mem _ ?_)); done))); (case m3 => (((repeat (first | with_reducible assumption | with_reducible exact List.mem_cons_self | with_reducible refine List.mem_cons_of_mem _ ?_)); done))); (case s => with_unfolding_all rfl)); intro aR hR))
  k_with "my pow" => (k_dflt (refine pow_int_small (by omega) (by omega) (by decide) ?_); simp only [Int.toNat_natCast]; obtain ⟨M, hM, eM⟩ := (⟨_, long_ok hE, rfl⟩ : ∃ M, LongOk M ∧ M = (2 : Int) ^ E0); rw [← eM])
  k_with "my display" => ((try k_fold); (with_reducible refine sealOut ?_); (k_dflt (refine' Dict_sumS ?q0 ?q1 ?q2 ?q3 (TopRead.nolimit (by k_asm)) ?q5 ?q6 ?q7 ?q8 ?_; (case q2 => k_asm); (case q3 => k_asm); (case q1 => k_asm); (case q0 => ktr_units); (case q5 => rfl); (case q6 => rfl); (case q7 => exact List.cons_ne_nil _ _); (case q8 => exact Nat.le_of_ble_eq_true rfl))); intro dS hS FS NS lS SS)
  k_with "my made" => (first
    | (k_dflt (refine ⟨[((1, 0), M), ((0, 0), Z)], _, by k_asm, by k_asm, SS.mono (fun p hp => .tail _ (.tail _ hp)), ⟨⟨_, _, rfl, rfl, x_at w _, ⟨_, _, _, .inr (.tail _ (.head _))⟩⟩, ⟨_, _, rfl, rfl, still2_at w _, ⟨_, _, _, .inr (.head _)⟩⟩, trivial⟩, (fun p hp => .tail _ (.tail _ (.tail _ hp))), ?_⟩);
        intro hQ tkQ extQ FQ NQ SQ neQ; rw [put_two] at SQ;
        obtain ⟨rest, hs2, NR, q1, q2, q3, q4, q5, q6, keep, thin⟩ := six_next (w := w) (c1 := LF + 1 + 1 + 1 + 1 + 1) (c2 := LF + 1 + 1 + 1 + 1) (c3 := LF + 1 + 1 + 1) (c4 := LF + 1 + 1) (c5 := LF + 1) (c6 := box) NQ (List.mem_append_left _ (by (((repeat (first | with_reducible assumption | with_reducible exact List.mem_cons_self | with_reducible refine List.mem_cons_of_mem _ ?_)); done)))) (List.mem_append_left _ (by (((repeat (first | with_reducible assumption | with_reducible exact List.mem_cons_self | with_reducible refine List.mem_cons_of_mem _ ?_)); done)))) (List.mem_append_left _ (by (((repeat (first | with_reducible assumption | with_reducible exact List.mem_cons_self | with_reducible refine List.mem_cons_of_mem _ ?_)); done)))) (List.mem_append_left _ (by (((repeat (first | with_reducible assumption | with_reducible exact List.mem_cons_self | with_reducible refine List.mem_cons_of_mem _ ?_)); done)))) (List.mem_append_left _ (by (((repeat (first | with_reducible assumption | with_reducible exact List.mem_cons_self | with_reducible refine List.mem_cons_of_mem _ ?_)); done)))) (List.mem_append_left _ (by (((repeat (first | with_reducible assumption | with_reducible exact List.mem_cons_self | with_reducible refine List.mem_cons_of_mem _ ?_)); done)))) (.cell (by with_reducible assumption)) (.cell (by with_reducible assumption)) (.cell (by with_reducible assumption)) (.cell (by with_reducible assumption)) (.cell (by with_reducible assumption)) .lst (fun p hp => List.mem_append_left _ (by (((repeat (first | with_reducible assumption | with_reducible exact List.mem_cons_self | with_reducible refine List.mem_cons_of_mem _ ?_)); done)))) q1 q2 q3 q4 q5 q6;
        have S1 := thin _ _ SQ (Nat.ne_of_gt (lS (LF + 1 + 1 + 1 + 1 + 1, _) (by (((repeat (first | with_reducible assumption | with_reducible exact List.mem_cons_self | with_reducible refine List.mem_cons_of_mem _ ?_)); done))))) (Nat.ne_of_gt (lS (LF + 1 + 1 + 1 + 1, _) (by (((repeat (first | with_reducible assumption | with_reducible exact List.mem_cons_self | with_reducible refine List.mem_cons_of_mem _ ?_)); done))))) (Nat.ne_of_gt (lS (LF + 1 + 1 + 1, _) (by (((repeat (first | with_reducible assumption | with_reducible exact List.mem_cons_self | with_reducible refine List.mem_cons_of_mem _ ?_)); done))))) (Nat.ne_of_gt (lS (LF + 1 + 1, _) (by (((repeat (first | with_reducible assumption | with_reducible exact List.mem_cons_self | with_reducible refine List.mem_cons_of_mem _ ?_)); done))))) (Nat.ne_of_gt (lS (LF + 1, _) (by (((repeat (first | with_reducible assumption | with_reducible exact List.mem_cons_self | with_reducible refine List.mem_cons_of_mem _ ?_)); done))))) (Nat.ne_of_gt (lS (box, _) (by (((repeat (first | with_reducible assumption | with_reducible exact List.mem_cons_self | with_reducible refine List.mem_cons_of_mem _ ?_)); done)))));
        (obtain ⟨dT, eT⟩ : ∃ d, d = dS := ⟨_, rfl⟩); subst eT;
        replace hsub := fun p hp => hs2 _ (hsub p hp); clear NQ SQ neQ SS keep thin lS; (repeat (rename _ < _ ∧ _ => zz9; clear zz9)); (try k_fold))
    | (k_dflt (refine ⟨[((1, 0), 1)], _, by k_asm, by k_asm, SS.mono (fun p hp => .tail _ hp), ⟨⟨_, _, rfl, rfl, x_at w _, ⟨_, _, _, .inr (.head _)⟩⟩, trivial⟩, (fun p hp => .tail _ (.tail _ hp)), ?_⟩);
        intro hQ tkQ extQ FQ NQ SQ neQ; rw [put_one] at SQ;
        obtain ⟨rest, hs2, NR, q1, q2, q3, q4, q5, q6, keep, thin⟩ := six_next (w := w) (c1 := LF + 1 + 1 + 1 + 1 + 1) (c2 := LF + 1 + 1 + 1 + 1) (c3 := LF + 1 + 1 + 1) (c4 := LF + 1 + 1) (c5 := LF + 1) (c6 := box) NQ (List.mem_append_left _ (by (((repeat (first | with_reducible assumption | with_reducible exact List.mem_cons_self | with_reducible refine List.mem_cons_of_mem _ ?_)); done)))) (List.mem_append_left _ (by (((repeat (first | with_reducible assumption | with_reducible exact List.mem_cons_self | with_reducible refine List.mem_cons_of_mem _ ?_)); done)))) (List.mem_append_left _ (by (((repeat (first | with_reducible assumption | with_reducible exact List.mem_cons_self | with_reducible refine List.mem_cons_of_mem _ ?_)); done)))) (List.mem_append_left _ (by (((repeat (first | with_reducible assumption | with_reducible exact List.mem_cons_self | with_reducible refine List.mem_cons_of_mem _ ?_)); done)))) (List.mem_append_left _ (by (((repeat (first | with_reducible assumption | with_reducible exact List.mem_cons_self | with_reducible refine List.mem_cons_of_mem _ ?_)); done)))) (List.mem_append_left _ (by (((repeat (first | with_reducible assumption | with_reducible exact List.mem_cons_self | with_reducible refine List.mem_cons_of_mem _ ?_)); done)))) (.cell (by with_reducible assumption)) (.cell (by with_reducible assumption)) (.cell (by with_reducible assumption)) (.cell (by with_reducible assumption)) (.cell (by with_reducible assumption)) .lst (fun p hp => List.mem_append_left _ (by (((repeat (first | with_reducible assumption | with_reducible exact List.mem_cons_self | with_reducible refine List.mem_cons_of_mem _ ?_)); done)))) q1 q2 q3 q4 q5 q6;
        have S2 := thin _ _ SQ (Nat.ne_of_gt (lS (LF + 1 + 1 + 1 + 1 + 1, _) (by (((repeat (first | with_reducible assumption | with_reducible exact List.mem_cons_self | with_reducible refine List.mem_cons_of_mem _ ?_)); done))))) (Nat.ne_of_gt (lS (LF + 1 + 1 + 1 + 1, _) (by (((repeat (first | with_reducible assumption | with_reducible exact List.mem_cons_self | with_reducible refine List.mem_cons_of_mem _ ?_)); done))))) (Nat.ne_of_gt (lS (LF + 1 + 1 + 1, _) (by (((repeat (first | with_reducible assumption | with_reducible exact List.mem_cons_self | with_reducible refine List.mem_cons_of_mem _ ?_)); done))))) (Nat.ne_of_gt (lS (LF + 1 + 1, _) (by (((repeat (first | with_reducible assumption | with_reducible exact List.mem_cons_self | with_reducible refine List.mem_cons_of_mem _ ?_)); done))))) (Nat.ne_of_gt (lS (LF + 1, _) (by (((repeat (first | with_reducible assumption | with_reducible exact List.mem_cons_self | with_reducible refine List.mem_cons_of_mem _ ?_)); done))))) (Nat.ne_of_gt (lS (box, _) (by (((repeat (first | with_reducible assumption | with_reducible exact List.mem_cons_self | with_reducible refine List.mem_cons_of_mem _ ?_)); done)))));
        (obtain ⟨dB, eB⟩ : ∃ d, d = dS := ⟨_, rfl⟩); subst eB;
        replace S1 := S1.mono hs2;
        replace hsub := fun p hp => hs2 _ (hsub p hp); clear NQ SQ neQ SS keep thin lS; (repeat (rename _ < _ ∧ _ => zz9; clear zz9)); (try k_fold)))
  k_with "exec If" => (k_dflt (refine If_known (P = 200 ∧ 2 < M) ?_ ?_ ?_))
  k_with "my test" => (first | (k_dflt (exact TestIs.intro (decide_eq_true (by omega)).symm)) | (k_dflt (exact TestIs.intro (decide_eq_false (by omega)).symm)))
  k_with "my min" => (k_dflt (refine' min_P rfl ?F ?N hP ?_; (case F => k_asm); (case N => k_asm)); intro n tn hn tkn hn1 hn3 Fn Nn; (try k_fold))
  k_with "my comp" => (k_dflt (refine StopHere.out ?_))
  k_with "my adcomp" => ((try k_fold); k_dflt (refine' Assign_DictComp_range ?k0 ?k1 ?k2 ?k3 ?k4 ?k5 ?k6 ?k7 ?_ ?k8; (case k0 => with_unfolding_all rfl); (case k1 => exact rfl); (case k2 => exact rfl); (case k3 => exact rfl); (case k4 => decide); (case k5 => exact rfl); (case k6 => decide); (case k7 => exact rfl); (case k8 => exact fun _ => rfl)))
  k_with "my src" => (k_dflt (refine StopHere.out ?_))
  k_with "my dcomp" => (k_dflt (refine StopHere.out ?_))
  k_steps
  · unfold StopHere
    rename _ ∧ _ => hfar
    rename Obj.data _ = .cell (some (.ref _)) => d'
    k_with_none
    k_with "zz5" => ((with_reducible refine inCells ?_); name_kind "cell"; k_dflt (refine' ldCN ?zz5_N ?zz5_c ?zz5_m ?zz5_d ?_ ?zz5_a ?zz5_b; (case zz5_a => rfl); (case zz5_b => rfl); (case zz5_N => k_asm); (case zz5_c => rfl); (case zz5_m => (((repeat (first | with_reducible assumption | with_reducible exact List.mem_cons_self | with_reducible refine List.mem_cons_of_mem _ ?_)); done))); (case zz5_d => with_reducible assumption)))
    k_with "zz6" => first | with_reducible assumption | (refine' all_ne ?zz6_x9 ?zz6_y9; (case zz6_x9 => assumption); (case zz6_y9 => ((try dsimp only); omega))) | (refine' all_ne' ?zz6_x9 ?zz6_y9; (case zz6_x9 => assumption); (case zz6_y9 => ((try dsimp only); omega)))
    k_with "zz7" => ((with_reducible show wpAny _ _ (eval (Expr.Name _ _) (compEnvC _ _ _ _)) _ _ _); k_dflt (refine' ldKN ?zz7_N ?zz7_a ?zz7_b ?zz7_c ?zz7_m ?zz7_d ?_ ?zz7_e; (case zz7_N => k_asm); (case zz7_a => exact rfl); (case zz7_b => exact rfl); (case zz7_c => exact rfl); (case zz7_m => (((repeat (first | with_reducible assumption | with_reducible exact List.mem_cons_self | with_reducible refine List.mem_cons_of_mem _ ?_)); done))); (case zz7_d => with_reducible assumption); (case zz7_e => decide)))
    k_with "my src" => (k_dflt (refine StopHere.out ?_))
    k_with "my iter" => (k_dflt (refine StopHere.out ?_))
    refine' ListComp_cell ?k0 ?k1 ?k2 ?k3 ?k4 ?k5 ?_ ?k7
    case k0 => exact rfl
    case k1 => exact rfl
    case k2 => decide
    case k3 => exact fun _ _ => rfl
    case k4 => exact fun _ => rfl
    case k5 => exact fun _ _ => rfl
    case k7 => exact fun _ => rfl
    k_steps
    unfold StopHere
    rename Fr gF LF _ _ => F9
    rename News gF LF _ _ => N9
    rename _ < _ ∧ _ => l9
    have hT9 := hsub _ hT0
    have hb1 : bitsI M ≤ 60000 := Nat.le_trans (bitsI_le hM.2.1 (by decide)) (by decide)
    have hb2 : bitsI Z ≤ 60000 := by rcases hZ with rfl | rfl | rfl <;> decide +kernel
    refine srcC_tup (T := 147) (fun g => Below (ktrTop dp un gd cn cs L a ccd cl outer) base (envX cn cs L a ccd cl :: outer) g ∧ (Mine.hd.heap_39 w.params).In g ∧ Top p loose mean mg mb g ∧ Soft (envX cn cs L a ccd cl :: outer) gF g) (fun i ys => ys.length = i ∧ ∀ y ∈ ys, ∃ t, y = .str (Str.ofString "domain") t)
      (LamR 147 { line := 110, col := 29, endLine := 110, endCol := 66 } (Str.ofString "_law_power_right.<locals>.<lambda>"))
      rfl F9 N9 (.head _) ?tT ⟨BF, XF, TF, Soft.refl⟩ ⟨rfl, fun _ h => nomatch h⟩ ?R0 ?Rst ?turn ?fin
    case tT => exact fun q => by have h1 := (N9 _ (.head _)).1; rw [q] at h1; have h2 := (N9 (147, tabObj #[]) (by (((repeat (first | with_reducible assumption | with_reducible exact List.mem_cons_self | with_reducible refine List.mem_cons_of_mem _ ?_)); done)))).1; rw [h2] at h1; cases h1
    case R0 => exact fun n hn => LamR.start (hn _ (by (((repeat (first | with_reducible assumption | with_reducible exact List.mem_cons_self | with_reducible refine List.mem_cons_of_mem _ ?_)); done))))
    case Rst =>
      intro i n n' d h1 h2 hR hc
      dsimp only at h1 h2
      have h147 : @LT.lt Nat _ 147 _ := Heap.lt_size (N9 (147, tabObj #[]) (by (((repeat (first | with_reducible assumption | with_reducible exact List.mem_cons_self | with_reducible refine List.mem_cons_of_mem _ ?_)); done)))).1
      refine hR.stay fun p hp hq => hc p hp ?_
      dsimp only at hq
      rcases hq with hq | hq
      · show @Ne Nat p.1 d; rw [hq]; show @Ne Nat 147 d; omega
      · show @Ne Nat p.1 d; omega
    case turn =>
      rintro i v C W D oI oC oW I g m' n₁ ys h tk E' hI0 hv hyl ⟨Bg, Xg, Tg, Sg⟩ hsub1 ⟨hy1, hy2⟩ hR hI hC nC hW dW hD lt1 lt2 lt3 Fg Ng
      have cc1 := hsub1 (LF + 1 + 1 + 1 + 1 + 1, _) (by (((repeat (first | with_reducible assumption | with_reducible exact List.mem_cons_self | with_reducible refine List.mem_cons_of_mem _ ?_)); done))) (fun q => q1 (147, tabObj #[]) hT9 q.symm)
      have HC := code149 Xg
      have NZ := N9
      clear F9 N9
      obtain ⟨z, tz, rfl, hz⟩ : ∃ z tz, v = Value.int z tz ∧ (z = 1 ∨ z = -1) := by
        rcases hv with ⟨_, rfl⟩ | ⟨_, rfl⟩
        · exact ⟨_, _, rfl, .inl rfl⟩
        · exact ⟨_, _, rfl, .inr rfl⟩
      have hW3 : @LE.le Nat _ (I + 3) W := by
        have l1 : @LT.lt Nat _ I D := lt1
        have l2 : @LT.lt Nat _ D C := lt2
        have l3 : @LT.lt Nat _ C W := lt3
        omega
      have h147 := (Heap.lt_size (NZ (147, tabObj #[]) (by (((repeat (first | with_reducible assumption | with_reducible exact List.mem_cons_self | with_reducible refine List.mem_cons_of_mem _ ?_)); done)))).1 : @LT.lt Nat _ 147 _)
      rw [hI0] at hW3
      rw [← hI0] at h147
      clear hI0
      obtain ⟨psR, hTn, hpR⟩ := id hR
      clear hpR
      have hnt : ∀ {a : Addr} {o : Obj}, (a, o) ∈ n₁ → (∀ vs, o.data ≠ .fields vs) → a ≠ 147 := fun ha hd => ne_tab Ng hTn ha hd
      have hnz : ∀ {a : Addr} {o : Obj}, (a, o) ∈ _ → (∀ vs, o.data ≠ .fields vs) → a ≠ 147 := fun ha hd => ne_tab NZ (show (147, tabObj #[]) ∈ _ from by (((repeat (first | with_reducible assumption | with_reducible exact List.mem_cons_self | with_reducible refine List.mem_cons_of_mem _ ?_)); done))) ha hd
      have c1 : (_, { cls := .type "tuple", data := .seq #[.ref dT, .ref dB] }) ∈ n₁ := hsub1 _ (by (((repeat (first | with_reducible assumption | with_reducible exact List.mem_cons_self | with_reducible refine List.mem_cons_of_mem _ ?_)); done))) (hnz (by (((repeat (first | with_reducible assumption | with_reducible exact List.mem_cons_self | with_reducible refine List.mem_cons_of_mem _ ?_)); done))) fun vs q => by cases q)
      have S1n : SumAt w n₁ dT (twoL M Z) := S1.keepS NZ (fun p hp => by (((repeat (first | with_reducible assumption | with_reducible exact List.mem_cons_self | with_reducible refine List.mem_cons_of_mem _ ?_)); done))) (show (147, tabObj #[]) ∈ _ from by (((repeat (first | with_reducible assumption | with_reducible exact List.mem_cons_self | with_reducible refine List.mem_cons_of_mem _ ?_)); done))) hsub1
      have S2n : SumAt w n₁ dB [((1, 0), 1)] := S2.keepS NZ (fun p hp => by (((repeat (first | with_reducible assumption | with_reducible exact List.mem_cons_self | with_reducible refine List.mem_cons_of_mem _ ?_)); done))) (show (147, tabObj #[]) ∈ _ from by (((repeat (first | with_reducible assumption | with_reducible exact List.mem_cons_self | with_reducible refine List.mem_cons_of_mem _ ?_)); done))) hsub1
      have u1 := hnt cc1 (fun vs q => by rw [d'] at q; cases q)
      clear NZ
      k_with "eval Lambda" => (k_dflt (refine lam_made (clos := [(Str.ofString "way", W), (Str.ofString "told", LF + 1 + 1 + 1 + 1 + 1)]) Fg Ng Tg HC hR ⟨_, hW, hW3⟩ rfl rfl rfl rfl rfl ?_; (intro f9 c9 oc9 vs9 t9 pm9 ctv9 h9 tk9 n9 F9 N9 hf9 hc9 hd9 hv9 hs9 hR9)))
      k_with "call ref" => (k_dflt (refine StopHere.out ?_))
      show wpAny _ _ _ _ _ _
      (try k_fold)
      k_steps
      unfold StopHere
      have hI3 : @LT.lt Nat _ 147 I := h147
      have e1 : @LT.lt Nat _ I D := lt1
      have e2 : @LT.lt Nat _ D C := lt2
      have e3 : @LT.lt Nat _ C W := lt3
      have uI : I ≠ 147 := by show @Ne Nat I 147; omega
      have uD : D ≠ 147 := by show @Ne Nat D 147; omega
      have uC : C ≠ 147 := by show @Ne Nat C 147; omega
      have uW : W ≠ 147 := by show @Ne Nat W 147; omega
      have S1m := S1n.keepT Ng hTn hs9
      have S2m := S2n.keepT Ng hTn hs9
      refine CallS.use (refused_spec w n9 f9 17 300 _ _ _ _ hf9 (lam_far w n9 f9 c9 _ W _ dT dB oc9 _ oW vs9 t9 pm9 ctv9 _ _ _ _ _ _ _ ((1, 0), M) ((0, 0), Z) (1, 0) z tz hf9 hc9 hd9 hv9 (hs9 _ cc1 u1) (by with_reducible assumption) (hs9 _ hW uW) dW hz ⟨_, .inr (hs9 _ c1 (hnt c1 fun vs q => by cases q))⟩ S1m S2m hb1 hb2 (.inl (far_200 hM hfar.2)) (.of_left (by decide)) (.of_left (by decide)))) Bg F9 Xg N9 Tg Xb Tb rfl (by ktr_room) (by ktr_units) ?_
      intro t10 n10 hs10 g10 h10 tk10 B10 F10 N10 X10 T10 S10
      have up : ∀ p ∈ n₁, p.1 ≠ 147 → p ∈ n10 := fun p hp hne => hs10 p (hs9 p hp hne)
      refine ⟨g10, h10, tk10, n10, oC, oW, _, m', rfl, F10, N10, up _ hI uI, up _ hC uC, nC, up _ hW uW, dW, up _ hD uD, ⟨B10, X10, T10, Sg.trans S10⟩, (fun p hp hpT => up p (hsub1 p hp hpT) hpT), ⟨by simp [hyl], fun y hy => ?_⟩, hR9.stay (fun p hp _ => hs10 p hp)⟩
      rcases List.mem_append.mp hy with hy | hy
      · exact hy2 y hy
      · exact ⟨_, List.mem_singleton.mp hy⟩
    case fin =>
      rintro D h tk g n₁ ys Fg Ng hD ⟨Bg, Xg, Tg, Sg⟩ hsub1 ⟨hy1, hy2⟩ ⟨ps2, hT2, -⟩
      obtain ⟨t1, t2, rfl⟩ : ∃ t1 t2, ys = [Value.str (Str.ofString "domain") t1, Value.str (Str.ofString "domain") t2] := by
        match ys, hy1, hy2 with
        | [y0, y1], _, hy2 =>
          obtain ⟨t1, rfl⟩ := hy2 _ (.head _)
          obtain ⟨t2, rfl⟩ := hy2 _ (.tail _ (.head _))
          exact ⟨t1, t2, rfl⟩
      have N8 : News g LF h ((D, LCg.lst [Value.str (Str.ofString "domain") t1, Value.str (Str.ofString "domain") t2]) :: n₁) := fun p hp => (List.mem_cons.mp hp).elim (fun e => e ▸ Ng _ hD) (Ng p)
      clear Ng F9 N9
      k_with_none
      k_with "zz5" => ((with_reducible refine inCells ?_); name_kind "cell"; k_dflt (refine' ldCN ?zz5_N ?zz5_c ?zz5_m ?zz5_d ?_ ?zz5_a ?zz5_b; (case zz5_a => rfl); (case zz5_b => rfl); (case zz5_N => k_asm); (case zz5_c => rfl); (case zz5_m => (((repeat (first | with_reducible assumption | with_reducible exact List.mem_cons_self | with_reducible refine List.mem_cons_of_mem _ ?_)); done))); (case zz5_d => with_reducible assumption)))
      k_with "zz6" => first | with_reducible assumption | (refine' all_ne ?zz6_x9 ?zz6_y9; (case zz6_x9 => assumption); (case zz6_y9 => ((try dsimp only); omega))) | (refine' all_ne' ?zz6_x9 ?zz6_y9; (case zz6_x9 => assumption); (case zz6_y9 => ((try dsimp only); omega)))
      k_with "zz7" => ((with_reducible show wpAny _ _ (eval (Expr.Name _ _) (compEnvC _ _ _ _)) _ _ _); k_dflt (refine' ldKN ?zz7_N ?zz7_a ?zz7_b ?zz7_c ?zz7_m ?zz7_d ?_ ?zz7_e; (case zz7_N => k_asm); (case zz7_a => exact rfl); (case zz7_b => exact rfl); (case zz7_c => exact rfl); (case zz7_m => (((repeat (first | with_reducible assumption | with_reducible exact List.mem_cons_self | with_reducible refine List.mem_cons_of_mem _ ?_)); done))); (case zz7_d => with_reducible assumption); (case zz7_e => decide)))
      k_steps
      refine hQ0 _ _ ?_
      k_steps
      rename Fr g LF _ _ => Fz
      rename News g LF _ _ => Nz
      obtain ⟨h2, K2, F2, N2, X2, T2, so2⟩ := soft_exit B Xb Tb FGF Sg Fz Nz rfl
      have b1 := hsub1 (box, _) (by (((repeat (first | with_reducible assumption | with_reducible exact List.mem_cons_self | with_reducible refine List.mem_cons_of_mem _ ?_)); done))) (Ne.symm (hrest _ hT0))
      exact hret _ _ (by (((repeat (first | with_reducible assumption | with_reducible exact List.mem_cons_self | with_reducible refine List.mem_cons_of_mem _ ?_)); done))) (fun p hp hne => by have hq := hsub1 p (by have hq := hsub p hp; (((repeat (first | with_reducible assumption | with_reducible exact List.mem_cons_self | with_reducible refine List.mem_cons_of_mem _ ?_)); done))) hne; (((repeat (first | with_reducible assumption | with_reducible exact List.mem_cons_self | with_reducible refine List.mem_cons_of_mem _ ?_)); done))) ⟨ps2, by (((repeat (first | with_reducible assumption | with_reducible exact List.mem_cons_self | with_reducible refine List.mem_cons_of_mem _ ?_)); done))⟩ h2 _ _ K2 F2 N2 X2 T2 so2
  all_goals (unfold StopHere)
  all_goals (rename IsRange _ _ _ _ _ _ _ _ => hr)
  · refine srcRA_of (L := LF) (h₀ := gF) (n + 1) (dueL n M Z) rfl (by ktr_units) XF (TopRead.nolimit (by k_asm)) (by k_asm) (by k_asm) hr (by omega) (by omega) rfl (fun i => by simp [dueL]) rfl ?_ ?_
    · intro i tA C oC I oI DD m₂ n₁ hh tk9 E' hi9 hP9 hI9 hC9 nC9 hm9 F9 N9 S9
      have cc1 := hP9 (LF + 1 + 1 + 1 + 1, _) (by (((repeat (first | with_reducible assumption | with_reducible exact List.mem_cons_self | with_reducible refine List.mem_cons_of_mem _ ?_)); done)))
      have cc2 := hP9 (LF + 1 + 1 + 1, _) (by (((repeat (first | with_reducible assumption | with_reducible exact List.mem_cons_self | with_reducible refine List.mem_cons_of_mem _ ?_)); done)))
      have cc3 := hP9 (LF + 1 + 1, _) (by (((repeat (first | with_reducible assumption | with_reducible exact List.mem_cons_self | with_reducible refine List.mem_cons_of_mem _ ?_)); done)))
      have cc4 := hP9 (LF + 1, _) (by (((repeat (first | with_reducible assumption | with_reducible exact List.mem_cons_self | with_reducible refine List.mem_cons_of_mem _ ?_)); done)))
      have hR9 := hR.to (hP9 _ (by (((repeat (first | with_reducible assumption | with_reducible exact List.mem_cons_self | with_reducible refine List.mem_cons_of_mem _ ?_)); done)))) (hP9 _ (by (((repeat (first | with_reducible assumption | with_reducible exact List.mem_cons_self | with_reducible refine List.mem_cons_of_mem _ ?_)); done)))) (hP9 _ (by (((repeat (first | with_reducible assumption | with_reducible exact List.mem_cons_self | with_reducible refine List.mem_cons_of_mem _ ?_)); done))))
      show wpAny _ _ _ _ _ _
      (try k_fold)
      k_with_none
      k_with "zz5" => ((with_reducible refine inCells ?_); name_kind "cell"; k_dflt (refine' ldCN ?zz5_N ?zz5_c ?zz5_m ?zz5_d ?_ ?zz5_a ?zz5_b; (case zz5_a => rfl); (case zz5_b => rfl); (case zz5_N => k_asm); (case zz5_c => rfl); (case zz5_m => (((repeat (first | with_reducible assumption | with_reducible exact List.mem_cons_self | with_reducible refine List.mem_cons_of_mem _ ?_)); done))); (case zz5_d => with_reducible assumption)))
      k_with "zz6" => first | with_reducible assumption | (refine' all_ne ?zz6_x9 ?zz6_y9; (case zz6_x9 => assumption); (case zz6_y9 => ((try dsimp only); omega))) | (refine' all_ne' ?zz6_x9 ?zz6_y9; (case zz6_x9 => assumption); (case zz6_y9 => ((try dsimp only); omega)))
      k_with "zz7" => ((with_reducible show wpAny _ _ (eval (Expr.Name _ _) (compEnvC _ _ _ _)) _ _ _); k_dflt (refine' ldKN ?zz7_N ?zz7_a ?zz7_b ?zz7_c ?zz7_m ?zz7_d ?_ ?zz7_e; (case zz7_N => k_asm); (case zz7_a => exact rfl); (case zz7_b => exact rfl); (case zz7_c => exact rfl); (case zz7_m => (((repeat (first | with_reducible assumption | with_reducible exact List.mem_cons_self | with_reducible refine List.mem_cons_of_mem _ ?_)); done))); (case zz7_d => with_reducible assumption); (case zz7_e => decide)))
      k_with "my pow" => (first | (k_dflt (refine pow_int_small (by omega) (by omega) (Z_small hZ) ?_)) | (k_dflt (refine pow_int (by omega) (long_fit hM (by omega) (by omega)) ?_)))
      k_with "my sub" => (k_dflt (refine' row_at ?n ?r hn1 hn3 hi9 ?_ ?s; (case n => k_asm); (case r => exact hR9.mono (fun p hp => by (((repeat (first | with_reducible assumption | with_reducible exact List.mem_cons_self | with_reducible refine List.mem_cons_of_mem _ ?_)); done)))); (case s => with_unfolding_all rfl)); intro tR)
      k_with "binaryOp Mult int int" => (first | (k_dflt (refine mul_int ?_ (.of_left (rowD_bits hn1 hn3 hi9)))) | (k_dflt (refine mul_int ?_ (.of_right (Zpow_bits hZ (by omega))))))
      k_steps
      refine' ⟨_, _, ((i : Int), 0), _, _, _, _, rfl, rfl, rfl, ?F, ?N, ?sub, ?K, ?R, ?e, ?P⟩
      case F => k_asm
      case N => k_asm
      case sub => exact fun p hp => by (((repeat (first | with_reducible assumption | with_reducible exact List.mem_cons_self | with_reducible refine List.mem_cons_of_mem _ ?_)); done))
      case K => exact ⟨_, _, _, _, _, .inr (by (((repeat (first | with_reducible assumption | with_reducible exact List.mem_cons_self | with_reducible refine List.mem_cons_of_mem _ ?_)); done))), .inr (by (((repeat (first | with_reducible assumption | with_reducible exact List.mem_cons_self | with_reducible refine List.mem_cons_of_mem _ ?_)); done))), ⟨_, _, _, .inr (by (((repeat (first | with_reducible assumption | with_reducible exact List.mem_cons_self | with_reducible refine List.mem_cons_of_mem _ ?_)); done)))⟩⟩
      case R => exact ⟨_, _, _, .inr (by (((repeat (first | with_reducible assumption | with_reducible exact List.mem_cons_self | with_reducible refine List.mem_cons_of_mem _ ?_)); done)))⟩
      case e => exact (dueL_succ n M Z i).trans (by rw [Int.toNat_natCast, show ((n : Int) - (i : Int)).toNat = n - i by omega])
      case P => exact fun p hp => by have hq := hP9 p hp; (((repeat (first | with_reducible assumption | with_reducible exact List.mem_cons_self | with_reducible refine List.mem_cons_of_mem _ ?_)); done))
    · intro DD hh tk9 n₁ F9 N9 S9 hP9 lt9
      clear hR
      have cc1 := hP9 (LF + 1 + 1 + 1 + 1 + 1, _) (by (((repeat (first | with_reducible assumption | with_reducible exact List.mem_cons_self | with_reducible refine List.mem_cons_of_mem _ ?_)); done)))
      have cc2 := hP9 (LF + 1 + 1 + 1 + 1, _) (by (((repeat (first | with_reducible assumption | with_reducible exact List.mem_cons_self | with_reducible refine List.mem_cons_of_mem _ ?_)); done)))
      have cc3 := hP9 (LF + 1 + 1 + 1, _) (by (((repeat (first | with_reducible assumption | with_reducible exact List.mem_cons_self | with_reducible refine List.mem_cons_of_mem _ ?_)); done)))
      have cc4 := hP9 (LF + 1 + 1, _) (by (((repeat (first | with_reducible assumption | with_reducible exact List.mem_cons_self | with_reducible refine List.mem_cons_of_mem _ ?_)); done)))
      have cc5 := hP9 (LF + 1, _) (by (((repeat (first | with_reducible assumption | with_reducible exact List.mem_cons_self | with_reducible refine List.mem_cons_of_mem _ ?_)); done)))
      have cc6 := hP9 (box, _) (by (((repeat (first | with_reducible assumption | with_reducible exact List.mem_cons_self | with_reducible refine List.mem_cons_of_mem _ ?_)); done)))
      replace S1 := S1.mono (fun p hp => hP9 p (by (((repeat (first | with_reducible assumption | with_reducible exact List.mem_cons_self | with_reducible refine List.mem_cons_of_mem _ ?_)); done))))
      replace S2 := S2.mono (fun p hp => hP9 p (by (((repeat (first | with_reducible assumption | with_reducible exact List.mem_cons_self | with_reducible refine List.mem_cons_of_mem _ ?_)); done))))
      replace hsub := fun p hp => hP9 p (show p ∈ _ from by have hq := hsub p hp; (((repeat (first | with_reducible assumption | with_reducible exact List.mem_cons_self | with_reducible refine List.mem_cons_of_mem _ ?_)); done)))
      rename IsRange _ _ _ _ _ _ _ _ => zz
      clear zz
      have cc7 := hP9 (_, { cls := .type "tuple", data := .seq #[.ref dT, .ref dB] }) (by (((repeat (first | with_reducible assumption | with_reducible exact List.mem_cons_self | with_reducible refine List.mem_cons_of_mem _ ?_)); done)))
      clear hP9 lt9
      k_with_none
      k_with "zz5" => ((with_reducible refine inCells ?_); name_kind "cell"; k_dflt (refine' ldCN ?zz5_N ?zz5_c ?zz5_m ?zz5_d ?_ ?zz5_a ?zz5_b; (case zz5_a => rfl); (case zz5_b => rfl); (case zz5_N => k_asm); (case zz5_c => rfl); (case zz5_m => (((repeat (first | with_reducible assumption | with_reducible exact List.mem_cons_self | with_reducible refine List.mem_cons_of_mem _ ?_)); done))); (case zz5_d => with_reducible assumption)))
      k_with "zz6" => first | with_reducible assumption | (refine' all_ne ?zz6_x9 ?zz6_y9; (case zz6_x9 => assumption); (case zz6_y9 => ((try dsimp only); omega))) | (refine' all_ne' ?zz6_x9 ?zz6_y9; (case zz6_x9 => assumption); (case zz6_y9 => ((try dsimp only); omega)))
      k_with "zz7" => ((with_reducible show wpAny _ _ (eval (Expr.Name _ _) (compEnvC _ _ _ _)) _ _ _); k_dflt (refine' ldKN ?zz7_N ?zz7_a ?zz7_b ?zz7_c ?zz7_m ?zz7_d ?_ ?zz7_e; (case zz7_N => k_asm); (case zz7_a => exact rfl); (case zz7_b => exact rfl); (case zz7_c => exact rfl); (case zz7_m => (((repeat (first | with_reducible assumption | with_reducible exact List.mem_cons_self | with_reducible refine List.mem_cons_of_mem _ ?_)); done))); (case zz7_d => with_reducible assumption); (case zz7_e => decide)))
      k_with "my display" => ((try k_fold); (with_reducible refine sealOut ?_); (k_dflt (refine' Dict_sumS ?q0 ?q1 ?q2 ?q3 (TopRead.nolimit (by k_asm)) ?q5 ?q6 ?q7 ?q8 ?_; (case q2 => k_asm); (case q3 => k_asm); (case q1 => k_asm); (case q0 => ktr_units); (case q5 => rfl); (case q6 => rfl); (case q7 => exact List.cons_ne_nil _ _); (case q8 => exact Nat.le_of_ble_eq_true rfl))); intro dS hS FS NS lS SS)
      k_with "my made" => (first
       | (k_dflt (refine' ⟨[(((n : Int), 0), 1)], _, ?F, ?N, ?S, ⟨⟨_, _, rfl, rfl, ?K, ?R⟩, trivial⟩, ?sub, ?_⟩; (case F => k_asm); (case N => k_asm); (case S => exact SS.mono (fun p hp => by (((repeat (first | with_reducible assumption | with_reducible exact List.mem_cons_self | with_reducible refine List.mem_cons_of_mem _ ?_)); done)))); (case K => exact ⟨_, _, _, _, _, .inr (by (((repeat (first | with_reducible assumption | with_reducible exact List.mem_cons_self | with_reducible refine List.mem_cons_of_mem _ ?_)); done))), .inr (by (((repeat (first | with_reducible assumption | with_reducible exact List.mem_cons_self | with_reducible refine List.mem_cons_of_mem _ ?_)); done))), ⟨_, _, _, .inr (by (((repeat (first | with_reducible assumption | with_reducible exact List.mem_cons_self | with_reducible refine List.mem_cons_of_mem _ ?_)); done)))⟩⟩); (case R => exact ⟨_, _, _, .inr (by (((repeat (first | with_reducible assumption | with_reducible exact List.mem_cons_self | with_reducible refine List.mem_cons_of_mem _ ?_)); done)))⟩); (case sub => exact fun p hp => by (((repeat (first | with_reducible assumption | with_reducible exact List.mem_cons_self | with_reducible refine List.mem_cons_of_mem _ ?_)); done)))); intro hQ tkQ extQ FQ NQ SQ neQ; rw [put_one] at SQ; (obtain ⟨n₂, hT, NR, S3⟩ : ∃ n₂, (∀ p ∈ n₁, p ∈ n₂) ∧ News gF LF hQ n₂ ∧ SumAt w n₂ dS [(((n : Int), 0), 1)] := ⟨_, fun p hp => List.mem_append_left _ hp, NQ, SQ⟩); clear NQ SQ neQ SS lS; replace cc1 := hT _ cc1; replace cc2 := hT _ cc2; replace cc3 := hT _ cc3; replace cc4 := hT _ cc4; replace cc5 := hT _ cc5; replace cc6 := hT _ cc6; replace cc7 := hT _ cc7; replace S1 := S1.mono hT; replace S2 := S2.mono hT; replace S9 := S9.mono hT; replace hsub := fun p hp => hT _ (hsub p hp); clear hT; (try k_fold)))
      k_with "call ref" => (first
       | (((refine' Call.use (gratio_pos w _ _ dT dB _ _ _ n _ ⟨_, .inr (by (((repeat (first | with_reducible assumption | with_reducible exact List.mem_cons_self | with_reducible refine List.mem_cons_of_mem _ ?_)); done)))⟩ S1 S2 hn1 hn3 hb1 hb2 (pow_muls hM hZ hn3).1 (pow_muls hM hZ hn3).2 (.of_left (by decide)) (.of_left (by decide))) ?k1 ?k2 ?k3 ?k4 ?k5 ?kK ?kd ?ku ?_; (case k1 => k_asm); (case k2 => k_asm); (case k3 => k_asm); (case k4 => k_asm); (case k5 => k_asm); (case kK => first | exact rfl | assumption); (case kd => ktr_room); (case ku => ktr_units); (try dsimp only); (intros); (try dsimp only); (try k_fold))); rename_i DG AG BG nG hTG hltG PG1 SAG SBG hhG tkG FG1 NG1; replace cc1 := hTG _ cc1; replace cc2 := hTG _ cc2; replace cc3 := hTG _ cc3; replace cc4 := hTG _ cc4; replace cc5 := hTG _ cc5; replace cc6 := hTG _ cc6; replace cc7 := hTG _ cc7; replace S1 := S1.mono hTG; replace S2 := S2.mono hTG; replace S3 := S3.mono hTG; replace S9 := S9.mono hTG; replace hsub := fun p hp => hTG _ (hsub p hp); clear hltG; (try k_fold))
       | (k_dflt (refine' Call.use (gratio_neg w _ _ dT dB ((1, 0), M) ((0, 0), Z) (1, 0) n _ ?P ?S1 ?S2 hn1 hn3 hb1 hb2 (pow_muls hM hZ hn3).1 (pow_muls hM hZ hn3).2 (.of_left (by decide)) (.of_left (by decide))) ?k1 ?k2 ?k3 ?k4 ?k5 ?kK ?kd ?ku ?_; (case k1 => k_asm); (case k2 => k_asm); (case k3 => k_asm); (case k4 => k_asm); (case k5 => k_asm); (case kK => exact rfl); (case kd => ktr_room); (case ku => ktr_units); (case P => exact ⟨_, .inr (by (((repeat (first | with_reducible assumption | with_reducible exact List.mem_cons_self | with_reducible refine List.mem_cons_of_mem _ ?_)); done)))⟩); (case S1 => exact S1.mono (fun p hp => by (((repeat (first | with_reducible assumption | with_reducible exact List.mem_cons_self | with_reducible refine List.mem_cons_of_mem _ ?_)); done)))); (case S2 => exact S2.mono (fun p hp => by (((repeat (first | with_reducible assumption | with_reducible exact List.mem_cons_self | with_reducible refine List.mem_cons_of_mem _ ?_)); done))))); (try dsimp only); intro DG AG BG nG hTG0 hltG PG1 SAG SBG hhG tkG FG1 NG1; have hTG := fun p hp => hTG0 p (List.mem_cons_of_mem _ hp); replace cc6 := hTG _ cc6; replace S3 := S3.mono hTG; replace S9 := S9.mono hTG; replace hsub := fun p hp => hTG _ (hsub p hp); clear hltG; (try k_fold)))
      k_with "my eq" => (first
       | (k_dflt (refine' pair_eq ?u ?X ?F ?N ?P1 ?P2 ?S1 ?S2 ?T1 ?T2 ?e1 ?e2 ?e3 ?e4 ?_; (case N => k_asm); (case F => k_asm); (case X => k_asm); (case u => ktr_units); (case P1 => exact PG1.mono (fun p hp => by (((repeat (first | with_reducible assumption | with_reducible exact List.mem_cons_self | with_reducible refine List.mem_cons_of_mem _ ?_)); done)))); (case P2 => exact ⟨_, .inr (by (((repeat (first | with_reducible assumption | with_reducible exact List.mem_cons_self | with_reducible refine List.mem_cons_of_mem _ ?_)); done)))⟩); (case S1 => exact SAG.mono (fun p hp => by (((repeat (first | with_reducible assumption | with_reducible exact List.mem_cons_self | with_reducible refine List.mem_cons_of_mem _ ?_)); done)))); (case S2 => exact S9.mono (fun p hp => by (((repeat (first | with_reducible assumption | with_reducible exact List.mem_cons_self | with_reducible refine List.mem_cons_of_mem _ ?_)); done)))); (case T1 => exact SBG.mono (fun p hp => by (((repeat (first | with_reducible assumption | with_reducible exact List.mem_cons_self | with_reducible refine List.mem_cons_of_mem _ ?_)); done)))); (case T2 => exact S3.mono (fun p hp => by (((repeat (first | with_reducible assumption | with_reducible exact List.mem_cons_self | with_reducible refine List.mem_cons_of_mem _ ?_)); done)))); (case e1 => exact (pow_due hm0 hz0 hn1 hn3).1); (case e2 => exact (pow_due hm0 hz0 hn1 hn3).2); (case e3 => exact rfl); (case e4 => exact one_in)))
       | (k_dflt (refine' pair_eq ?u ?X ?F ?N ?P1 ?P2 ?S1 ?S2 ?T1 ?T2 ?e1 ?e2 ?e3 ?e4 ?_; (case N => k_asm); (case F => k_asm); (case X => k_asm); (case u => ktr_units); (case P1 => exact PG1.mono (fun p hp => by (((repeat (first | with_reducible assumption | with_reducible exact List.mem_cons_self | with_reducible refine List.mem_cons_of_mem _ ?_)); done)))); (case P2 => exact ⟨_, .inr (by (((repeat (first | with_reducible assumption | with_reducible exact List.mem_cons_self | with_reducible refine List.mem_cons_of_mem _ ?_)); done)))⟩); (case S1 => exact SBG.mono (fun p hp => by (((repeat (first | with_reducible assumption | with_reducible exact List.mem_cons_self | with_reducible refine List.mem_cons_of_mem _ ?_)); done)))); (case S2 => exact S3.mono (fun p hp => by (((repeat (first | with_reducible assumption | with_reducible exact List.mem_cons_self | with_reducible refine List.mem_cons_of_mem _ ?_)); done)))); (case T1 => exact SAG.mono (fun p hp => by (((repeat (first | with_reducible assumption | with_reducible exact List.mem_cons_self | with_reducible refine List.mem_cons_of_mem _ ?_)); done)))); (case T2 => exact S9.mono (fun p hp => by (((repeat (first | with_reducible assumption | with_reducible exact List.mem_cons_self | with_reducible refine List.mem_cons_of_mem _ ?_)); done)))); (case e3 => exact (pow_due hm0 hz0 hn1 hn3).1); (case e4 => exact (pow_due hm0 hz0 hn1 hn3).2); (case e1 => exact rfl); (case e2 => exact one_in))))
      have hm0 : M ≠ 0 := by have := hM.1; omega
      have hz0 : Z ≠ 0 := by omega
      have hb1 : bitsI M ≤ 60000 := Nat.le_trans (bitsI_le hM.2.1 (by decide)) (by decide)
      have hb2 : bitsI Z ≤ 60000 := by rcases hZ with rfl | rfl | rfl <;> decide +kernel
      show wpAny _ _ _ _ _ _
      (try k_fold)
      k_steps
      refine hQ0 _ _ ?_
      k_steps
      rename Fr gF LF _ _ => Fz
      rename News gF LF _ _ => Nz
      obtain ⟨h2, K2, F2, N2, X2, T2, so2⟩ := soft_exit B Xb Tb FGF (Soft.refl : Soft (envX cn cs L a ccd cl :: outer) gF gF) Fz Nz rfl
      exact hret _ _ (by (((repeat (first | with_reducible assumption | with_reducible exact List.mem_cons_self | with_reducible refine List.mem_cons_of_mem _ ?_)); done))) (fun p hp _ => by have hq := hsub p hp; (((repeat (first | with_reducible assumption | with_reducible exact List.mem_cons_self | with_reducible refine List.mem_cons_of_mem _ ?_)); done))) ⟨#[], by have hq := hsub _ hT0; (((repeat (first | with_reducible assumption | with_reducible exact List.mem_cons_self | with_reducible refine List.mem_cons_of_mem _ ?_)); done))⟩ h2 _ _ K2 F2 N2 X2 T2 so2
end Mine
end

-- C25
section
theorem Mine.zz_C25 : True := by
  k_with_none
  trivial
set_option maxRecDepth 100000
set_option maxHeartbeats 8000000
namespace Mine
section
variable {w : World} {A : Around} {E : Value → Shared → Prop} {s : Shared} {h₀ : Heap} {L x : Addr} {news : List (Addr × Obj)} {u : Tok} {value slice : PySem.Expr} {Q : Value → Shared → Prop}
theorem item_pair {d0 d1 : Addr} {n : Nat} {r : Int} (N : News h₀ L s.heap news) (hm : (x, W.listOf #[.ref d0, .ref d1] n) ∈ news) (hr : r = 0 ∨ r = 1) (h : Q (.ref (if r = 0 then d0 else d1)) s)
    (hs : subscripted slice false (.ref x) (.int r u) = operate [.ref x, .int r u] (getItem (.ref x) (.int r u))) : wpAny (model PG w) A (subscriptTail value slice (.ref x) (.int r u)) Q E s := by
  have hl : s.heap.IsList x #[.ref d0, .ref d1] := PySem.IsL.isList (n := n) (N _ hm).1
  rcases hr with rfl | rfl
  · exact tail_any hl.typeIs slot_list_getitem.lookup (wpAny_getItem_list hl (by decide) (by decide) (x := .ref d0) rfl (by simpa using h)) hs
  · exact tail_any hl.typeIs slot_list_getitem.lookup (wpAny_getItem_list hl (by decide) (by decide) (x := .ref d1) rfl (by simpa using h)) hs
end
noncomputable abbrev mulE (p1 p2 p3 p4 p5 p6 p7 p8 p9 p10 : Pos) : Expr := .Call (.Name "gmul" p1) [.Subscript (.Name "great" p2) (.Name "at" p3) p4, .Subscript (.Name "great" p5) (.BinOp (.Constant (.int 1) 0 p6) .Sub (.Name "at" p7) p8) p9] [] p10
theorem lam_mul (w : World) (news) (f c' gA aA q d0 d1 : Addr) (n : Nat) (oc oG oW : Obj) (vs : Array Value) (t : Tok) (pm ctv : Value) (qual : Str) (p1 p2 p3 p4 p5 p6 p7 p8 p9 p10 : Pos) (l0 l1 : PSum) (a : Int) (tw : Tok)
    (hf : (f, kla_obj "<lambda>" qual noPars (mulE p1 p2 p3 p4 p5 p6 p7 p8 p9 p10) (lamS (Str.ofString "at") (Str.ofString "great") (Str.ofString "gmul")) [("great", gA), ("at", aA)] pm c' ctv) ∈ news) (hc : (c', oc) ∈ news) (hd1 : oc.data = .fields vs) (hv1 : vs[1]? = some (.str qual t))
    (hG : (gA, oG) ∈ news) (dG : oG.data = .cell (some (.ref q))) (hW : (aA, oW) ∈ news) (dW : oW.data = .cell (some (.int a tw))) (ha : a = 0 ∨ a = 1)
    (hq : (q, W.listOf #[.ref d0, .ref d1] n) ∈ news) (S0 : SumAt w news d0 l0) (S1 : SumAt w news d1 l1) (h0 : l0.length ≤ 2000) (h1 : l1.length ≤ 2000) (hfar : l0.length * l1.length > 1000000) :
    CallX w f 17 300 news [] (failPost news (Str.ofString "domain")) := by
  intro p loose mean mg mb dp un gd cn cs a₁ ccd cl outer A₀ base h₀ L m s Q E B F X N T hk hd hu hret
  have HC := code149 X
  refine wpAny_call ?_
  refine' kla_code ?k1 ?k2 ?k3 ?k4 ?k5 ?kA ?kF ?kK ?k6 ?k7 ?k8 ?k9 ?kB ?_ ?c2 ?c3 ?c4 ?c5
  case kA => exact rfl
  case kF => exact rfl
  case kK => assumption
  case k1 => k_asm
  case k2 => k_asm
  case k3 => k_asm
  case k4 => k_asm
  case k5 => k_asm
  case k6 => exact hf
  case k7 => exact codeRec_news N hc hd1 hv1
  case k8 => ktr_room
  case k9 => exact rfl
  case c5 => decide
  case kB => exact locs rfl
  case c2 => exact rfl
  case c3 => exact rfl
  case c4 => exact rfl
  k_whole
  intro gF LF hF FGF FF NF BF XF TF
  (try dsimp only)
  (try k_fold)
  have HC2 := code149 XF
  k_with_none
  k_with "subscriptTail" => (k_dflt (refine item_pair (by k_asm) (by with_reducible assumption) (by omega) ?_ (by with_unfolding_all rfl)))
  rcases ha with rfl | rfl
  all_goals
    k_with "call ref" => (k_dflt (first | (((refine' CallX.use (gmul_far w _ d0 d1 _ _ S0 S1 h0 h1 hfar) ?k1 ?k2 ?k3 ?k4 ?k5 ?kK ?kd ?ku ?_; (case k1 => k_asm); (case k2 => k_asm); (case k3 => k_asm); (case k4 => k_asm); (case k5 => k_asm); (case kK => first | exact rfl | assumption); (case kd => ktr_room); (case ku => ktr_units)))) | (((refine' CallX.use (gmul_far w _ d1 d0 _ _ S1 S0 h1 h0 (by rw [Nat.mul_comm]; exact hfar)) ?k1 ?k2 ?k3 ?k4 ?k5 ?kK ?kd ?ku ?_; (case k1 => k_asm); (case k2 => k_asm); (case k3 => k_asm); (case k4 => k_asm); (case k5 => k_asm); (case kK => first | exact rfl | assumption); (case kd => ktr_room); (case ku => ktr_units))))))
    k_steps
    rename Fr h₀ L _ _ => FG
    rename Below _ _ _ _ => B2
    rename RaisedY _ _ _ _ _ _ _ _ => R2
    rename Heap.UpToSlots _ _ => U2
    rename Fr _ _ _ _ => F2
    rename DictIs _ _ => D2
    rename (_, _) ∈ _ => dm
    rename SubOf _ _ => xs
    rename Apart _ _ => xe
    refine pass_on B2 FG F2 R2 U2 (fun h3 R3 U3 S3 => ?_) rfl
    exact hret _ _ _ _ _ _ _ _ D2 dm xs xe _ _ R3 U3 S3
end Mine
end

-- D39
section
theorem Mine.zz_D39 : True := by
  k_with_none
  trivial
set_option maxRecDepth 100000
set_option maxHeartbeats 4000000
namespace Mine
open PyProof.Rows.LCg
section
variable {w : World} {A : Around} {E : Value → Shared → Prop} {s : Shared} {h₀ : Heap} {L : Addr} {m : Str → Option Value} {news : List (Addr × Obj)}
theorem stp_mapX {o o' : Obj} {h : Heap} {C : Addr} (N : News h₀ L h news) (hC : (C, o) ∈ news) (hn : ∀ vs k, o ≠ tupO vs k) : Stp w C news (news.map fun p => if p.1 = C then (C, o') else p) := by
  have keep : ∀ p ∈ news, p.1 ≠ C → p ∈ news.map fun p => if p.1 = C then (C, o') else p := fun p hp hpd => List.mem_map.mpr ⟨p, hp, by simp [hpd]⟩
  refine ⟨fun b l n H => H.imp id fun e => keep _ e ?_, keep⟩
  rintro rfl
  exact hn l n (Option.some.inj ((N _ hC).1.symm.trans (N _ e).1))
theorem lst_noTup {ys : List Value} : ∀ vs k, lst ys ≠ tupO vs k := fun vs k e => (show Value.type "list" ≠ Value.type "tuple" by decide) (congrArg Obj.cls e)
/-- what a turn leaves -/
noncomputable def LocEnd (s : Shared) (h₀ : Heap) (L : Addr) (m : Str → Option Value) (n₁ : List (Addr × Obj)) (ys : List Value) (P : List (Addr × Obj) → List Value → Prop) (y : Value) (s₄ : Shared) : Prop :=
  ∃ h' tk' n₂, s₄ = { s with heap := h', toks := tk' } ∧ Fr h₀ L h' m ∧ News h₀ L h' n₂ ∧ (∀ p ∈ n₁, p ∈ n₂) ∧ P n₂ (ys ++ [y])

theorem loc_comp {I : Addr} {n : Nat} {st : Nat → Obj → Prop} {item : Nat → Value → Prop} {base : Heap → Prop} {elt iter : PySem.Expr} {x : Str} {px : Pos} {scope : Scope} {cl : List (Str × Addr)} {pos : Pos} {env : Env} {o0 : Obj}
    {RR : Value → Addr → Result → Shared → Prop} (W : ItOk w A I n st item base) (self : ∀ (s : Shared) (o : Obj) (Q : Value → Shared → Prop) (E : Value → Shared → Prop), s.heap.get? I = some o → st 0 o → Q (.ref I) s → wpAny (model PG w) A (pyIter (.ref I)) Q E s)
    (hcell : ∀ y ∈ scope.names, y.2 ≠ .cell) (hkind : scope.kind = .function) (hx : scope.names.lookup x = some .local) (hn : n ≤ 1000)
    (F : Fr h₀ L s.heap m) (N : News h₀ L s.heap news) (hI : (I, o0) ∈ news) (h0 : st 0 o0)
    (P : Nat → List (Addr × Obj) → List Value → Prop) (P0 : P 0 news []) (stable : ∀ i n₁ n₂ ys (d : Nat), @LE.le Nat _ I d → d ≤ s.heap.objs.size + 1 → P i n₁ ys → Stp w d n₁ n₂ → P i n₂ ys) (hbase : ∀ i n₁ ys h, P i n₁ ys → Fr h₀ L h m → News h₀ L h n₁ → base h)
    (turn : ∀ i v C D oI oC m' n₁ ys h tk E', i < n → item i v → ys.length = i → P i n₁ ys → (I, oI) ∈ n₁ → (C, oC) ∈ n₁ → NsObj oC m' → m' x = some v → (D, lst ys) ∈ n₁ → I < D → D < C → Fr h₀ L h m → News h₀ L h n₁ →
      wpAny (model PG w) A (eval elt (compEnvC scope cl C env)) (LocEnd s h₀ L m n₁ ys (P (i + 1))) E' { s with heap := h, toks := tk })
    (hRR : ∀ D C h tk m' n₁ ys, @LT.lt Nat _ I D → Fr h₀ L h m → News h₀ L h n₁ → (D, lst ys) ∈ n₁ → (∀ p ∈ n₁, p.1 ≠ C) → ys.length = n → P n n₁ ys → h.Ns C m' → h₀.get? C = none → C ≠ L → RR (.ref D) C (.ok .next) { s with heap := h, toks := tk }) :
    wpAny (model PG w) A (newList []) (fun acc s₃ => wpAny (model PG w) A (newFunctionEnv scope env.globals cl [] env.qual none .none (some env)) (fun cenv s₄ =>
      codeAny (model PG w) A (.compStart (.ListComp elt [⟨.Name x px, iter, [], 0⟩] scope pos) 0 (.ref I) acc { cenv with scope := relabel scope env }) (RR acc cenv.locals) s₄) E s₃) E s := by
  have hIs : @LT.lt Nat _ I s.heap.objs.size := Heap.lt_size (N _ hI).1
  refine wpAny_newObj_type ?_
  refine wpAny_newFunctionEnv hcell (by intro y hy; simp at hy) (fun h₁ hns₁ hsb₁ => ?_) hkind
  have H3 : s.heap.push { cls := .type "list", dict := none, data := .seq ([] : List Value).toArray } = s.heap.push (lst []) := rfl
  rw [H3] at hns₁ hsb₁ ⊢
  dsimp only at hns₁ hsb₁ ⊢
  have F1 : Fr h₀ L (s.heap.push (lst [])) m := F.push _
  have N1 := News.push F N (lst []) rfl
  have e1 : (s.heap.push (lst [])).objs.size = s.heap.objs.size + 1 := Heap.size_push ..
  rw [e1] at hns₁ hsb₁ ⊢
  generalize hD : s.heap.objs.size = D at *
  have hDC : @LT.lt Nat _ D (D + 1) := Nat.lt_succ_self _
  have Cn : (s.heap.push (lst [])).get? (D + 1) = none := Heap.get?_none_of_le (Nat.le_of_eq e1)
  have old : ∀ b o, (s.heap.push (lst [])).get? b = some o → h₁.get? b = some o := fun b o e => hsb₁.extBut b o (fun q => by rw [q, Cn] at e; cases e) (Heap.get?_push_of_some _ e)
  have hC₀ : h₀.get? (D + 1) = none := by
    cases e : h₀.get? (D + 1) with
    | none => rfl
    | some o => rw [F1.keep _ _ e] at Cn; cases Cn
  have hCL : D + 1 ≠ L := fun q => by
    obtain ⟨o, _, _, e, _⟩ := F1.ns
    rw [← q, Cn] at e; cases e
  obtain ⟨oC, hoC, nC⟩ := ns_obj hns₁
  have N2 : News h₀ L h₁ ((D + 1, oC) :: (D, lst []) :: news) := fun p hp => by
    rcases List.mem_cons.mp hp with rfl | hp
    · exact ⟨hoC, hCL, hC₀⟩
    · exact ⟨old _ _ (N1 p hp).1, (N1 p hp).2⟩
  have loop : ∀ s₃ : Shared, (∃ tk, s₃ = { s with heap := h₁, toks := tk }) →
      codeAny (model PG w) A (.compLoop (.ListComp elt [⟨.Name x px, iter, [], 0⟩] scope pos) 0 (.ref I) (.ref D) (compEnvC scope cl (D + 1) env)) (RR (.ref D) (D + 1)) s₃ := by
    rintro s₃ ⟨tk1, rfl⟩
    refine codeAny_compLoop_tests (fun k s' => ∃ i h tk n₁ oI oC m' ys, s' = { s with heap := h, toks := tk } ∧ i ≤ n ∧ k = n + 1 - i ∧ ys.length = i ∧ Fr h₀ L h m ∧ News h₀ L h n₁ ∧ (I, oI) ∈ n₁ ∧ st i oI ∧ (D + 1, oC) ∈ n₁ ∧ NsObj oC m' ∧ (D, lst ys) ∈ n₁ ∧ P i n₁ ys) ?_ (n + 1)
      ⟨0, h₁, tk1, _, o0, oC, _, [], rfl, Nat.zero_le _, rfl, rfl, F1.keeps old, N2, .tail _ (.tail _ hI), h0, .head _, nC, .tail _ (.head _), stable 0 _ _ _ (D + 1) (by omega) (by omega) P0 (Stp.of fun p hp => .tail _ (.tail _ hp))⟩
    rintro k _ ⟨i, h, tk, n₁, oI, oC, m', ys, rfl, hi, rfl, hyl, F, N, hI, hst, hC, nC, hDm, p1⟩
    have hbs := hbase _ _ _ _ p1 F N
    have hcl := W.cls _ _ hst
    rcases Nat.lt_or_ge i n with hlt | hge
    · refine W.next i _ oI _ _ hlt (N _ hI).1 hst hbs fun v h2 oI2 tk2 hv ho2 hst2 hs2 => ?_
      have Na : News h₀ L h2 (n₁.map fun p => if p.1 = I then (I, oI2) else p) := N.replace hs2 ho2
      have Fa : Fr h₀ L h2 m := F.change hs2 (N _ hI).2.1 (N _ hI).2.2
      have sa : Stp w I n₁ (n₁.map fun p => if p.1 = I then (I, oI2) else p) := stp_map N hI hcl.1
      have hIa : (I, oI2) ∈ (n₁.map fun p => if p.1 = I then (I, oI2) else p) := chg_at hI
      have hCa := sa.2 _ hC (by show @Ne Nat (D + 1) I; omega)
      have hDa := sa.2 _ hDm (by show @Ne Nat D I; omega)
      have pa := stable _ _ _ _ I (Nat.le_refl _) (by omega) p1 sa
      generalize (n₁.map fun p => if p.1 = I then (I, oI2) else p) = na at Na sa hIa hCa hDa pa
      refine wpAny_assign_Name (wpAny_storeName_local (lookup_relabel_local hx) (nC.ns (Na _ hCa).1) (fun h3 hn3 hs3 => ?_) (by simp [compEnvC, relabel, hkind]))
      obtain ⟨oC3, hoC3, nC3⟩ := ns_obj hn3
      have Nb : News h₀ L h3 (na.map fun p => if p.1 = D + 1 then (D + 1, oC3) else p) := Na.replace hs3 hoC3
      have Fb : Fr h₀ L h3 m := Fa.change hs3 hCL hC₀
      have sb : Stp w (D + 1) na (na.map fun p => if p.1 = D + 1 then (D + 1, oC3) else p) := stp_mapN Na hCa nC
      have hCb : (D + 1, oC3) ∈ (na.map fun p => if p.1 = D + 1 then (D + 1, oC3) else p) := chg_at hCa
      have hIb := sb.2 _ hIa (by show @Ne Nat I (D + 1); omega)
      have hDb := sb.2 _ hDa (by show @Ne Nat D (D + 1); omega)
      have pb := stable _ _ _ _ (D + 1) (by omega) (by omega) pa sb
      generalize (na.map fun p => if p.1 = D + 1 then (D + 1, oC3) else p) = nb at Nb sb hIb hCb hDb pb
      refine wpAny_tests_nil ?_
      simp only [if_true]
      refine wpAny_mono (turn i v (D + 1) D oI2 oC3 _ nb ys h3 _ _ hlt hv hyl pb hIb hCb nC3 (by simp) hDb hIs hDC Fb Nb) (fun y s₄ h₄ => ?_) fun _ _ e => e
      obtain ⟨h4, tk4, n4, rfl, F4, N4, sub, p4⟩ := h₄
      refine append_at (hsz := by rw [sizeLine_eq, List.size_toArray]; omega) (N4 _ (sub _ hDb)).1 fun h5 hs5 ho5 => ?_
      have Nc : News h₀ L h5 (n4.map fun p => if p.1 = D then (D, lst (ys ++ [y])) else p) := N4.replace hs5 (ho5.trans (congrArg some (lst_snoc ys y)))
      have Fc : Fr h₀ L h5 m := F4.change hs5 (N4 _ (sub _ hDb)).2.1 (N4 _ (sub _ hDb)).2.2
      have sc : Stp w D n4 (n4.map fun p => if p.1 = D then (D, lst (ys ++ [y])) else p) := stp_mapX N4 (sub _ hDb) lst_noTup
      exact ⟨n + 1 - (i + 1), by omega, i + 1, h5, tk4, _, oI2, oC3, _, ys ++ [y], rfl, hlt, rfl, by rw [List.length_append, hyl]; rfl, Fc, Nc, sc.2 _ (sub _ hIb) (by show @Ne Nat I D; omega), hst2, sc.2 _ (sub _ hCb) (by show @Ne Nat (D + 1) D; omega), nC3, chg_at (sub _ hDb), stable _ _ _ _ D (Nat.le_of_lt hIs) (by omega) p4 sc⟩
    · obtain rfl : i = n := Nat.le_antisymm hi hge
      refine W.stop _ oI _ _ (N _ hI).1 hst hbs fun h2 tk2 hs2 => ?_
      have fI : ∀ p ∈ n₁.filter (fun p => decide (p.1 ≠ I)), p ∈ n₁ ∧ p.1 ≠ I := fun p hp => ⟨(List.mem_filter.mp hp).1, of_decide_eq_true (List.mem_filter.mp hp).2⟩
      have Na : News h₀ L h2 (n₁.filter fun p => decide (p.1 ≠ I)) := fun p hp => ⟨hs2 _ _ (fI p hp).2 (N p (fI p hp).1).1, (N p (fI p hp).1).2⟩
      have sa : Stp w I n₁ (n₁.filter fun p => decide (p.1 ≠ I)) := stp_filter N hI hcl.1
      have hCa := sa.2 _ hC (by show @Ne Nat (D + 1) I; omega)
      have hDa := sa.2 _ hDm (by show @Ne Nat D I; omega)
      have pa := stable _ _ _ _ I (Nat.le_refl _) (by omega) p1 sa
      have Fa : Fr h₀ L h2 m := by
        obtain ⟨oL, a1, a2, hoL, a3⟩ := F.ns
        refine ⟨⟨oL, a1, a2, hs2 _ _ (N _ hI).2.1.symm hoL, a3⟩, fun b o eb => hs2 _ _ ?_ (F.keep b o eb), F.above⟩
        rintro rfl
        rw [(N _ hI).2.2] at eb; cases eb
      generalize (n₁.filter fun p => decide (p.1 ≠ I)) = na at Na sa hCa hDa pa
      have sb : Stp w (D + 1) na (na.filter fun p => decide (p.1 ≠ D + 1)) := stp_filterN Na hCa nC
      exact hRR D (D + 1) h2 tk2 m' _ ys hIs Fa (fun p hp => Na p (List.mem_filter.mp hp).1) (sb.2 _ hDa (by show @Ne Nat D (D + 1); omega)) (fun p hp => of_decide_eq_true (List.mem_filter.mp hp).2) hyl (stable _ _ _ _ (D + 1) (by omega) (by omega) pa sb) (nC.ns (Na _ hCa).1) hC₀ hCL
  exact codeAny_compStart_list (loop _ ⟨_, rfl⟩) (self _ _ _ _ (N2 _ (.tail _ (.tail _ hI))).1 h0 (loop _ ⟨_, rfl⟩))
end
end Mine
end

-- D40
section
theorem Mine.zz_D40 : True := by
  k_with_none
  trivial
set_option maxRecDepth 100000
set_option maxHeartbeats 4000000
namespace Mine
open PyProof.Rows.LCg
section
variable {w : World} {A : Around} {E : Value → Shared → Prop} {s : Shared} {env : Env}
noncomputable def SumMadeI (w : World) (s₁ : Shared) (h₀ : Heap) (L : Addr) (m : Str → Option Value) (n₁ : List (Addr × Obj)) (l : PSum) (y : Value) (s₂ : Shared) : Prop :=
  ∃ d h' tk' n₂, y = .ref d ∧ s₂ = { s₁ with heap := h', toks := tk' } ∧ Fr h₀ L h' m ∧ News h₀ L h' n₂ ∧ (∀ p ∈ n₁, p ∈ n₂) ∧ SumAt w n₂ d l ∧ (∀ p ∈ n₁, @LT.lt Nat _ p.1 d)
/-- the source of a list of two sums, made over a pair -/
noncomputable def SrcP (w : World) (A : Around) (env : Env) (elt : PySem.Expr) (x : Str) (scope : Scope) (cl : List (Str × Addr)) (Q : Value → Shared → Prop) (xv : Value) (s₁ : Shared) : Prop :=
  ∃ (h₀ : Heap) (L : Addr) (m : Str → Option Value) (news : List (Addr × Obj)) (t : Addr) (v0 v1 : Value) (k : Nat) (g : Nat → PSum), xv = .ref t ∧ A.handled = none ∧ Fr h₀ L s₁.heap m ∧ News h₀ L s₁.heap news ∧ (t, tupO [v0, v1] k) ∈ news ∧
    (∀ i v C oC m' n₁ h tk E', (i = 0 ∧ v = v0 ∨ i = 1 ∧ v = v1) → (∀ p ∈ news, p ∈ n₁) → (C, oC) ∈ n₁ → NsObj oC m' → m' x = some v → Fr h₀ L h m → News h₀ L h n₁ →
      wpAny (model PG w) A (eval elt (compEnvC scope cl C env)) (SumMadeI w s₁ h₀ L m n₁ (g i)) E' { s₁ with heap := h, toks := tk }) ∧
    (∀ D d0 d1 h tk n₂, Fr h₀ L h m → News h₀ L h n₂ → (∀ p ∈ news, p ∈ n₂) → (D, lst [.ref d0, .ref d1]) ∈ n₂ → SumAt w n₂ d0 (g 0) → SumAt w n₂ d1 (g 1) → (∀ p ∈ news, @LT.lt Nat _ p.1 d0 ∧ @LT.lt Nat _ p.1 d1 ∧ @LT.lt Nat _ p.1 D) → Q (.ref D) { s₁ with heap := h, toks := tk })
theorem ListComp_pair {elt iter : PySem.Expr} {x : Str} {px : Pos} {scope : Scope} {cl : List (Str × Addr)} {pos : Pos} {Q : Value → Shared → Prop}
    (hclos : closureFor scope env = pure cl) (hcell : ∀ y ∈ scope.names, y.2 ≠ .cell) (hkind : scope.kind = .function)
    (hnames : ∀ y ∈ scope.names, y.2 = .local → scope.names.lookup y.1 = some .local) (hx : scope.names.lookup x = some .local)
    (h : wpAny (model PG w) A (eval iter env) (SrcP w A env elt x scope cl Q) E s)
    (hs : ∀ x, foldedSetIterable iter env x = pure x) :
    wpAny (model PG w) A (eval (.ListComp elt [⟨.Name x px, iter, [], 0⟩] scope pos) env) Q E s := by
  rw [eval_ListComp]
  refine wpAny_comprehension_free (use := none) rfl hs hclos hkind hnames (wpAny_mono h (fun xv s₁ h₁ => ?_) fun _ _ e => e)
  obtain ⟨h₀, L, m, news, t, v0, v1, k, g, rfl, hA, F, N, ht, elem, fin⟩ := h₁
  refine wpAny_pyIter_tuple (items := #[v0, v1]) ⟨_, (N _ ht).1, rfl, k, rfl⟩ ?_
  have lt : ∀ p ∈ news, @LT.lt Nat _ p.1 s₁.heap.objs.size := fun p hp => Heap.lt_size (N p hp).1
  have e1 : (s₁.heap.push (tiO t 0)).objs.size = s₁.heap.objs.size + 1 := Heap.size_push ..
  refine loc_comp (I := s₁.heap.objs.size) (s := { s₁ with heap := s₁.heap.push (tiO t 0) }) (RR := fun acc C => compPost (model PG w) A E none Q acc C) (tup_ok (items := #[v0, v1]) hA) (fun s o Q E ho hs hQ => wpAny_pyIter_tupleiter (i := 0) ⟨o, ho, hs.1, hs.2⟩ hQ)
    hcell hkind hx (show 2 ≤ 1000 by decide) (F.push _) (News.push F N (tiO t 0) rfl) (.head _) ⟨rfl, rfl⟩
    (fun i n ys => (∀ p ∈ news, p ∈ n) ∧ (i = 0 → ys = []) ∧ (i = 1 → ∃ d0, ys = [.ref d0] ∧ SumAt w n d0 (g 0) ∧ @LT.lt Nat _ (s₁.heap.objs.size + 2) d0) ∧ (i = 2 → ∃ d0 d1, ys = [.ref d0, .ref d1] ∧ SumAt w n d0 (g 0) ∧ SumAt w n d1 (g 1) ∧ @LT.lt Nat _ (s₁.heap.objs.size + 2) d0 ∧ @LT.lt Nat _ (s₁.heap.objs.size + 2) d1))
    ⟨fun p hp => .tail _ hp, fun _ => rfl, (fun h => nomatch h), fun h => nomatch h⟩ ?_ ?_ ?_ ?_
  · rintro i n₁ n₂ ys d hd1 hd2 ⟨a1, a2, a3, a4⟩ st
    have hd3 : d ≤ s₁.heap.objs.size + 2 := by
      dsimp only at hd2
      rw [e1] at hd2; omega
    refine ⟨fun p hp => st.2 p (a1 p hp) (by have := lt p hp; show @Ne Nat p.1 d; omega), a2, fun hi => ?_, fun hi => ?_⟩
    · obtain ⟨d0, b1, b2, b3⟩ := a3 hi
      exact ⟨d0, b1, b2.stp st (by show @Ne Nat d0 d; omega), b3⟩
    · obtain ⟨d0, d1, b1, b2, b3, b4, b5⟩ := a4 hi
      exact ⟨d0, d1, b1, b2.stp st (by show @Ne Nat d0 d; omega), b3.stp st (by show @Ne Nat d1 d; omega), b4, b5⟩
  · rintro i n₁ ys h ⟨a1, a2, a3, a4⟩ F1 N1
    exact ⟨_, (N1 _ (a1 _ ht)).1, rfl, k, rfl⟩
  · rintro i v C D oI oC m' n₁ ys h tk E' hi hv hyl ⟨a1, a2, a3, a4⟩ hI hC nC hm hD h1 h2 F1 N1
    have hi2 : i = 0 ∧ v = v0 ∨ i = 1 ∧ v = v1 := by
      obtain rfl | rfl : i = 0 ∨ i = 1 := by
        have : i < 2 := hi
        omega
      · exact .inl ⟨rfl, by simpa using hv.symm⟩
      · exact .inr ⟨rfl, by simpa using hv.symm⟩
    refine wpAny_mono (elem i v C oC m' n₁ h tk E' hi2 a1 hC nC hm F1 N1) (fun y s₂ hy => ?_) fun _ _ e => e
    obtain ⟨d, h', tk', n₂, rfl, rfl, F2, N2, sub, S, ld⟩ := hy
    have hd : @LT.lt Nat _ (s₁.heap.objs.size + 2) d := by
      have c1 : @LT.lt Nat _ s₁.heap.objs.size D := h1
      have c2 : @LT.lt Nat _ D C := h2
      have c3 : @LT.lt Nat _ C d := ld _ hC
      omega
    refine ⟨h', tk', n₂, rfl, F2, N2, sub, fun p hp => sub p (a1 p hp), fun h => absurd h (Nat.succ_ne_zero _), fun h => ?_, fun h => ?_⟩
    · obtain rfl : i = 0 := by omega
      obtain rfl := a2 rfl
      exact ⟨d, rfl, S, hd⟩
    · obtain rfl : i = 1 := by omega
      obtain ⟨d0, rfl, S0, l0⟩ := a3 rfl
      exact ⟨d0, d, rfl, S0.mono sub, S, l0, hd⟩
  · rintro D C h tk m' n₁ ys lID F1 N1 hD hne hyl ⟨a1, a2, a3, a4⟩ hn' hC₀ hCL
    obtain ⟨d0, d1, rfl, S0, S1, l0, l1⟩ := a4 rfl
    refine ⟨m', hn', fun h'' hs'' => fin D d0 d1 h'' tk n₁ (F1.change hs'' hCL hC₀) (fun p hp => ⟨hs''.extBut _ _ (hne p hp) (N1 p hp).1, (N1 p hp).2⟩) a1 hD S0 S1 fun p hp => ⟨?_, ?_, ?_⟩⟩
    · have := lt p hp; omega
    · have := lt p hp; omega
    · have := lt p hp; omega
end
end Mine
end

-- D41
section
theorem Mine.zz_D41 : True := by
  k_with_none
  trivial
set_option maxRecDepth 100000
set_option maxHeartbeats 4000000
namespace Mine
open PyProof.Rows.LCg
section
variable {w : World} {A : Around} {E : Value → Shared → Prop} {s : Shared} {env : Env} {g₀ : Heap} {L : Addr} {m : Str → Option Value} {news : List (Addr × Obj)}
theorem srcC_range {r T : Addr} {n : Nat} {t u v : Tok} {elt : PySem.Expr} {x : Str} {scope : Scope} {cl : List (Str × Addr)} {Q : Value → Shared → Prop} (G : Heap → Prop) (Y : Nat → List Value → Prop) (R : Nat → Nat → List (Addr × Obj) → Prop)
    (hh : A.handled = none) (hn : n ≤ 1000) (F : Fr g₀ L s.heap m) (N : News g₀ L s.heap news) (hr : IsRange s.heap r 0 (n : Int) 1 t u v) (G0 : G g₀) (Y0 : Y 0 []) (R0 : ∀ n, (∀ p ∈ news, p ∈ n) → R s.heap.objs.size 0 n)
    (Rst : ∀ i n n' (d : Nat), s.heap.objs.size ≤ d → d ≤ s.heap.objs.size + 3 → R s.heap.objs.size i n → Chg d n n' → R s.heap.objs.size i n')
    (turn : ∀ i ti C W D oI oC oW (I : Addr) g m' n₁ ys h tk E', I = s.heap.objs.size → i < n → ys.length = i → G g → (∀ p ∈ news, p.1 ≠ T → p ∈ n₁) → Y i ys → R s.heap.objs.size i n₁ → (I, oI) ∈ n₁ → (C, oC) ∈ n₁ → NsObj oC m' → (W, oW) ∈ n₁ → oW.data = .cell (some (.int (i : Int) ti)) → (D, lst ys) ∈ n₁ → I < D → D < C → C < W → Fr g L h m → News g L h n₁ →
      wpAny (model PG w) A (eval elt (compEnvC scope ((x, W) :: cl) C env)) (CellEnd { s with heap := s.heap.push (riO 0 n 1) } L m I C W D oI ys (TurnP news T G Y (R s.heap.objs.size) (i + 1))) E' { s with heap := h, toks := tk })
    (fin : ∀ D h tk g n₁ ys, Fr g L h m → News g L h n₁ → (D, lst ys) ∈ n₁ → ys.length = n → G g → (∀ p ∈ news, p.1 ≠ T → p ∈ n₁) → Y n ys → R s.heap.objs.size n n₁ → Q (.ref D) { s with heap := h, toks := tk }) :
    wpAny (model PG w) A (pyIter (.ref r)) (SrcC w A env elt x scope cl Q) E s := by
  obtain ⟨hz, hsm⟩ := small_range (n := n) (by omega)
  refine wpAny_pyIter_range hr hsm ?_
  rw [hz]
  have lt : ∀ p ∈ news, @LT.lt Nat _ p.1 s.heap.objs.size := fun p hp => Heap.lt_size (N p hp).1
  refine ⟨s.heap.objs.size, n, _, _, _, riO 0 n 1, g₀, L, m, _, TurnP news T G Y (R s.heap.objs.size), rfl, range_ok hh, (fun s o Q E ho hs hQ => ?_), hn, F.push _, News.push F N (riO 0 n 1) rfl, .head _, by simp, ⟨G0, fun p hp _ => .tail _ hp, Y0, R0 _ fun p hp => .tail _ hp⟩, ?_, fun _ _ _ _ _ _ _ _ => trivial, ?_, ?_⟩
  · subst hs
    exact wpAny_pyIter_rangeiter (x := ((0 : Nat) : Int)) (left := (n : Int) - ((0 : Nat) : Int)) (step := 1) ho hQ
  · rintro i g n₁ n₂ ys d h1 h2 ⟨a1, a2, a3, a4⟩ hc
    have h2' : d ≤ s.heap.objs.size + 3 := by
      dsimp only at h2
      rw [Heap.size_push] at h2; omega
    exact ⟨a1, fun p hp hpT => hc p (a2 p hp hpT) (by have := lt p hp; show @Ne Nat p.1 d; omega), a3, Rst i n₁ n₂ d h1 h2' a4 hc⟩
  · rintro i v C W D oI oC oW g m' n₁ ys h tk E' hi ⟨ti, rfl⟩ hyl ⟨a1, a2, a3, a4⟩ hI hC nC hW dW hD h1 h2 h3 F1 N1
    exact turn i ti C W D oI oC oW _ g m' n₁ ys h tk E' rfl hi hyl a1 a2 a3 a4 hI hC nC hW dW hD h1 h2 h3 F1 N1
  · rintro D h tk g n₁ ys F1 N1 hD hyl ⟨a1, a2, a3, a4⟩
    exact fin D h tk g n₁ ys F1 N1 hD hyl a1 a2 a3 a4
end
/-- some ledger entries in front -/
theorem front {w : World} {h₀ h : Heap} {L : Addr} {news : List (Addr × Obj)} (N : News h₀ L h news) (n0 : List (Addr × Obj)) (h0 : ∀ p ∈ n0, p ∈ news) (ht : ∀ p ∈ n0, NoTup p.2) :
    ∃ ext, News h₀ L h (n0 ++ ext) ∧ (∀ q ∈ n0, ∀ p ∈ ext, p.1 ≠ q.1) ∧ (∀ p ∈ news, (∀ q ∈ n0, p.1 ≠ q.1) → p ∈ ext) ∧ (∀ d l, SumAt w news d l → (∀ q ∈ n0, d ≠ q.1) → SumAt w ext d l) ∧ (∀ a vs k, (a, tupO vs k) ∈ news → (a, tupO vs k) ∈ ext) := by
  have mem : ∀ p, p ∈ news.filter (fun p => decide (∀ q ∈ n0, p.1 ≠ q.1)) ↔ p ∈ news ∧ ∀ q ∈ n0, p.1 ≠ q.1 := fun p => by
    rw [List.mem_filter, decide_eq_true_iff]
  have tup : ∀ a vs k, (a, tupO vs k) ∈ news → (a, tupO vs k) ∈ news.filter (fun p => decide (∀ q ∈ n0, p.1 ≠ q.1)) := fun a vs k ha => (mem _).mpr ⟨ha, fun q hq e => by
    have e1 := (N _ ha).1.symm.trans (show h.get? a = some q.2 from by have := (N _ (h0 q hq)).1; rw [← e] at this; exact this)
    exact ht q hq vs k (Option.some.inj e1).symm⟩
  refine ⟨news.filter fun p => decide (∀ q ∈ n0, p.1 ≠ q.1), fun p hp => ?_, fun q hq p hp => ((mem p).mp hp).2 q hq, fun p hp hq => (mem p).mpr ⟨hp, hq⟩, fun d l S hd => S.thin (fun o ho => (mem _).mpr ⟨ho, hd⟩) tup, tup⟩
  rcases List.mem_append.mp hp with hp | hp
  · exact N p (h0 p hp)
  · exact N p ((mem p).mp hp).1
end Mine
namespace Mine
theorem front4 {w : World} {h₀ h : Heap} {L : Addr} {n : List (Addr × Obj)} {c1 c2 c3 c4 : Addr} {o1 o2 o3 o4 : Obj} (N : News h₀ L h n) (m1 : (c1, o1) ∈ n) (m2 : (c2, o2) ∈ n) (m3 : (c3, o3) ∈ n) (m4 : (c4, o4) ∈ n) (t1 : NoTup o1) (t2 : NoTup o2) (t3 : NoTup o3) (t4 : NoTup o4) :
    ∃ ext, News h₀ L h ((c1, o1) :: (c2, o2) :: (c3, o3) :: (c4, o4) :: ext) ∧ (∀ p ∈ ext, p.1 ≠ c1) ∧ (∀ p ∈ ext, p.1 ≠ c2) ∧ (∀ p ∈ ext, p.1 ≠ c3) ∧ (∀ p ∈ ext, p.1 ≠ c4) ∧ (∀ p ∈ n, p.1 ≠ c1 → p.1 ≠ c2 → p.1 ≠ c3 → p.1 ≠ c4 → p ∈ ext) ∧ (∀ d l, SumAt w n d l → d ≠ c1 → d ≠ c2 → d ≠ c3 → d ≠ c4 → SumAt w ext d l) ∧ (∀ a vs k, (a, tupO vs k) ∈ n → (a, tupO vs k) ∈ ext) := by
  have fa : ∀ {P : Addr × Obj → Prop}, P (c1, o1) → P (c2, o2) → P (c3, o3) → P (c4, o4) → ∀ p ∈ [(c1, o1), (c2, o2), (c3, o3), (c4, o4)], P p := fun p1 p2 p3 p4 p hp => by
    simp only [List.mem_cons, List.not_mem_nil, or_false] at hp
    rcases hp with rfl | rfl | rfl | rfl <;> assumption
  obtain ⟨ext, N2, q, keep, thin, tup⟩ := front (w := w) N [(c1, o1), (c2, o2), (c3, o3), (c4, o4)] (fa m1 m2 m3 m4) (fa t1 t2 t3 t4)
  exact ⟨ext, N2, q (c1, o1) (.head _), q (c2, o2) (.tail _ (.head _)), q (c3, o3) (.tail _ (.tail _ (.head _))), q (c4, o4) (.tail _ (.tail _ (.tail _ (.head _)))), fun p hp a1 a2 a3 a4 => keep p hp (fa a1 a2 a3 a4), fun d l S a1 a2 a3 a4 => thin d l S (fa a1 a2 a3 a4), tup⟩
theorem NoTup.tab {ps : Array Value} : NoTup (tabObj ps) := fun vs k e => by
  have : Data.fields ps = Data.seq vs.toArray k := congrArg Obj.data e
  cases this
end Mine
namespace Mine
theorem front1 {w : World} {h₀ h : Heap} {L : Addr} {n : List (Addr × Obj)} {c1 : Addr} {o1 : Obj} (N : News h₀ L h n) (m1 : (c1, o1) ∈ n) (t1 : NoTup o1) :
    ∃ ext, News h₀ L h ((c1, o1) :: ext) ∧ (∀ p ∈ ext, p.1 ≠ c1) ∧ (∀ p ∈ n, p.1 ≠ c1 → p ∈ ext) ∧ (∀ d l, SumAt w n d l → d ≠ c1 → SumAt w ext d l) ∧ (∀ a vs k, (a, tupO vs k) ∈ n → (a, tupO vs k) ∈ ext) := by
  have fa : ∀ {P : Addr × Obj → Prop}, P (c1, o1) → ∀ p ∈ [(c1, o1)], P p := fun p1 p hp => (List.mem_singleton.mp hp) ▸ p1
  obtain ⟨ext, N2, q, keep, thin, tup⟩ := front (w := w) N [(c1, o1)] (fa m1) (fa t1)
  exact ⟨ext, N2, q (c1, o1) (.head _), fun p hp a1 => keep p hp (fa a1), fun d l S a1 => thin d l S (fa a1), tup⟩
theorem put_three (x y z : Int) : putAll [((2, 0), x), ((1, 0), y), ((0, 0), z)] [] = [((2, 0), x), ((1, 0), y), ((0, 0), z)] := by simp [putAll, putL, getL]
end Mine
end

-- D42
section
theorem Mine.zz_D42 : True := by
  k_with_none
  trivial
set_option maxRecDepth 100000
set_option maxHeartbeats 4000000
namespace Mine
open PyProof.Rows.LCg
/-- the sum x^0 + .. + x^(n - 1) -/
noncomputable def manyL (n : Nat) : PSum := (List.range n).map fun (j : Nat) => (((j : Int), (0 : Int)), (1 : Int))
noncomputable def greatL (M i : Nat) : PSum := if i = 0 then manyL M else manyL 1000
theorem manyL_length (n : Nat) : (manyL n).length = n := by simp [manyL]
theorem manyL_none (n : Nat) : getL (manyL n) ((n : Int), 0) = none := by
  unfold getL
  rw [Option.map_eq_none_iff, List.find?_eq_none]
  intro e he
  simp only [manyL, List.mem_map, List.mem_range] at he
  obtain ⟨j, hj, rfl⟩ := he
  simp
  omega
theorem manyL_succ (n : Nat) : manyL (n + 1) = putL (manyL n) ((n : Int), 0) 1 := by
  unfold putL
  rw [manyL_none]
  simp [manyL, List.range_succ]
section
variable {w : World} {A : Around} {E : Value → Shared → Prop} {s : Shared} {env : Env}
theorem srcR_of {kx vx : PySem.Expr} {x : Str} {scope : Scope} {cl : List (Str × Addr)} {Q : Value → Shared → Prop} {s₁ : Shared} {h₀ : Heap} {L : Addr} {m : Str → Option Value} {news : List (Addr × Obj)} {r : Addr} {z : Int} {t u v : Tok} (n : Nat) (acc : Nat → PSum)
    (hA : A.handled = none) (hu : A.units + 2 < cLine) (X : (Mine.hd.heap_39 w.params).In h₀) (hb : h₀.NoLimit) (F : Fr h₀ L s₁.heap m) (N : News h₀ L s₁.heap news) (hr : IsRange s₁.heap r 0 z 1 t u v) (hz : z = (n : Int)) (hn : n ≤ 100000) (ha0 : acc 0 = []) (hlen : ∀ i, (acc i).length = i)
    (turn : ∀ (i : Nat) t C oC I oI D m₂ n₁ h tk E', i < n → (∀ p ∈ news, p ∈ n₁) → (I, oI) ∈ n₁ → (C, oC) ∈ n₁ → NsObj oC m₂ → m₂ x = some (.int (i : Int) t) → Fr h₀ L h m → News h₀ L h ((I, oI) :: (C, oC) :: n₁) → SumAt w n₁ D (acc i) →
      wpAny (model PG w) A (eval kx (compEnvC scope cl C env)) (fun kv s₄ => wpAny (model PG w) A (eval vx (compEnvC scope cl C env)) (fun vv s₅ => DEnd w s₁ h₀ L m n₁ (acc i) (acc (i + 1)) (fun n' => ∀ p ∈ news, p ∈ n') kv vv s₅) E' s₄) E' { s₁ with heap := h, toks := tk })
    (fin : ∀ D h tk n₁, Fr h₀ L h m → News h₀ L h n₁ → SumAt w n₁ D (acc n) → (∀ p ∈ news, p ∈ n₁) → (∀ p ∈ news, p.1 < D) → Q (.ref D) { s₁ with heap := h, toks := tk }) :
    SrcR w A env kx vx x scope cl Q (.ref r) s₁ :=
  ⟨h₀, L, m, news, r, n, t, u, v, acc, fun _ n' => ∀ p ∈ news, p ∈ n', rfl, hA, hu, X, hb, F, N, hz ▸ hr, hn, ha0, fun i hi => by rw [hlen]; omega, fun _ hp => hp,
    fun i n₁ n₂ d hd hp st p hpn => st.2 p (hp p hpn) (Nat.ne_of_lt (hd p hpn)), turn, fin⟩
end
end Mine
end

-- D43
section
theorem Mine.zz_D43 : True := by
  k_with_none
  trivial
set_option maxRecDepth 100000
set_option maxHeartbeats 4000000
namespace Mine
section
variable {w : World} {A : Around} {E : Value → Shared → Prop} {s : Shared} {h₀ : Heap} {L d o a r : Addr} {m : Str → Option Value} {news : List (Addr × Obj)} {l l2 : PSum} {k : GK} {c : Int}
theorem setHashed_sum {Q : Unit → Shared → Prop} (hu : A.units + 1 < cLine) (X : (Mine.hd.heap_39 w.params).In h₀) (F : Fr h₀ L s.heap m) (N : News h₀ L s.heap news) (S : SumAt w news d l) (K : KindAt w news a k) (R : RatAt w news r c) (hz : l.length ≤ 100000)
    (h : ∀ h' news', Fr h₀ L h' m → News h₀ L h' news' → SumAt w news' d (putL l k c) → Stp w d news news' → Q () { s with heap := h' }) : wpAny (model PG w) A (dictSetHashed d (.ref a) ((gk w).hash k) (.ref r)) Q E s := by
  obtain ⟨lo, es, ep, hd, ys, e1, hy, rfl, hn⟩ := S
  have hod := (N _ hd).1
  have hlen : es.length = ys.length := by rw [e1]; simp
  have hz' : ys.length ≤ 100000 := by simpa using hz
  have hn' : ((ys.map Ye.x).map (·.1)).Nodup := by rw [List.map_map]; exact hn
  have done : ∀ (es' : Array DictEntry) (ep' : Nat) (h' : Heap), h'.get? d = some (dictO es'.toList ep') → Heap.SameBut d s.heap h' → es'.toList = (storedH (ys.map Ye.x) k a (.ref r)).map (entryOfKey (gk w)) → Q () { s with heap := h' } := fun es' ep' h' ho' hs he' => by
    have st : Stp w d news (news.map fun p => if p.1 = d then (d, dictO es'.toList ep') else p) := stp_replace N hd
    exact h h' _ (F.change hs (N _ hd).2.1 (N.fresh hd)) (N.replace hs ho') ⟨lo, es'.toList, ep', List.mem_map.mpr ⟨_, hd, by simp⟩, (sumOf_put hy hn K R he').tk st.1⟩ st
  unfold dictSetHashed
  try with_reducible refine wpAny_holding ?_
  refine wpAny_bind (wpAny_dictFind_heap (knd := gk w) (xs := ys.map Ye.x) (by show A.units + 1 < cLine; exact hu) (K.isGK X F N) hod rfl (by rw [List.toList_toArray]; exact e1) (fun z hz => ?_) hn' (fun hno => ?_) fun j p hj => ?_)
  · obtain ⟨y, hy1, rfl⟩ := List.mem_map.mp hz
    exact (hy y hy1).1.isGK X F N
  · refine wpAny_bind (wpAny_rule (wpAny_updateDictKeys (hz := by rw [List.size_toArray, hlen, sizeLine_eq]; omega) hod rfl (done (es.toArray.push ⟨(gk w).hash k, .ref a, .ref r⟩) (ep + 1) _ ?_ (Heap.SameBut.update ..) ?_)))
    · exact (Heap.get?_update_self _ hod rfl).trans (by simp [Obj.mapDictKeys])
    · rw [storedH_new (atKey_none_of_get hno)]
      simp [e1, entryOfKey]
  · refine wpAny_bind (wpAny_rule (wpAny_bind (wpAny_updateDict hod rfl (wpAny_point (done (es.toArray.modify j fun e => { e with val := .ref r }) ep _ ?_ (Heap.SameBut.update ..) ?_)))))
    · exact (Heap.get?_update_self _ hod rfl).trans (by simp [Obj.mapDict])
    · rw [storedH_old (atKey_of_get hn' hj)]
      have := modify_map_putAt (entryOfKey (gk w)) (fun e : DictEntry => { e with val := .ref r }) k (.ref r) (fun _ _ => rfl) hn' hj
      rw [← this, e1]
      simp
end
end Mine
end

-- D44
section
theorem Mine.zz_D44 : True := by
  k_with_none
  trivial
open PySem.Calls
set_option maxRecDepth 100000
set_option maxHeartbeats 4000000
namespace Mine
section
variable {w : World} {A : Around} {E : Value → Shared → Prop} {s : Shared} {h₀ : Heap} {L d o : Addr} {m : Str → Option Value} {news : List (Addr × Obj)} {l l2 : PSum}
theorem putAll_length (ps : PSum) : ∀ acc : PSum, (putAll ps acc).length ≤ acc.length + ps.length := by
  induction ps with
  | nil => intro acc; simp [putAll]
  | cons p ps ih =>
    intro acc
    have := ih (putL acc p.1 p.2)
    have := putL_length acc p.1 p.2
    simp only [putAll, List.foldl_cons, List.length_cons] at *
    omega
theorem putAll_snoc (ps : PSum) (p : GK × Int) (acc : PSum) : putAll (ps ++ [p]) acc = putL (putAll ps acc) p.1 p.2 := by simp [putAll, List.foldl_append]
theorem mergeDict_sum {nm : String} {Q : Unit → Shared → Prop} (hu : A.units + 1 < cLine) (X : (Mine.hd.heap_39 w.params).In h₀) (F : Fr h₀ L s.heap m) (N : News h₀ L s.heap news) (Sd : SumAt w news d l) (So : SumAt w news o l2) (hdo : d ≠ o) (hl : l ≠ []) (hl2 : l2 ≠ []) (hz : l.length + l2.length ≤ 100000)
    (h : ∀ h' news', Fr h₀ L h' m → News h₀ L h' news' → SumAt w news' d (putAll l2 l) → Stp w d news news' → Q () { s with heap := h' }) : wpAny (model PG w) A (Builtin.Dict.mergeDict nm d o) Q E s := by
  have So' := So
  obtain ⟨loo, eso, epo, ho, yo, eo1, hyo, rfl, hno⟩ := So
  have Sd' := Sd
  obtain ⟨lod, esd, epd, hd, yd, ed1, hyd, rfl, hnd⟩ := Sd
  have hoo := (N _ ho).1
  have hod := (N _ hd).1
  have hlen : eso.length = yo.length := by rw [eo1]; simp
  unfold Builtin.Dict.mergeDict
  rw [if_neg (by simpa using hdo)]
  unfold Builtin.Dict.showsAll
  rw [if_neg (by rw [loo]; exact Bool.false_ne_true)]
  refine wpAny_bind (wpAny_pure ?_)
  refine wpAny_bind (wpAny_dictEntries hoo rfl ?_)
  have few : (decide (eso.toArray.size ≤ 8) && eso.toArray.all fun e => (keyPart e.key).isSome) = false := by
    cases yo with
    | nil => exact absurd rfl hl2
    | cons y ys =>
      subst eo1
      simp [entryOfKey, Ye.x, keyPart]
  have nemp : esd.toArray.isEmpty = false := by
    cases yd with
    | nil => exact absurd rfl hl
    | cons y ys =>
      subst ed1
      simp
  dsimp only
  rw [few]
  simp only [Bool.not_false, if_true]
  refine wpAny_bind (wpAny_dictEntries hod rfl ?_)
  rw [nemp]
  simp only [Bool.false_eq_true, if_false]
  refine wpAny_bind (wpAny_dictEpoch hoo rfl ?_)
  refine wpAny_bind (wpAny_dictEntries hoo rfl ?_)
  refine wpAny_bind ?_
  rw [Std.Legacy.Range.forIn_eq_forIn_range']
  simp only [Std.Legacy.Range.size, Nat.sub_zero, Nat.add_sub_cancel, Nat.div_one, List.size_toArray]
  refine wpAny_forIn_list _ (fun rest _ s' => ∃ h' news' i, s' = { s with heap := h' } ∧ rest = List.range' i (eso.length - i) ∧ i ≤ eso.length ∧ Fr h₀ L h' m ∧ News h₀ L h' news' ∧ SumAt w news' d (putAll ((yo.map Ye.l).take i) (yd.map Ye.l)) ∧ Stp w d news news') _ ?_ ?_ _ _
    ⟨s.heap, news, 0, rfl, by simp, Nat.zero_le _, F, N, by simpa [putAll] using Sd', Stp.refl⟩
  · rintro x rest b s' ⟨h', news', i, rfl, hr, hi, F1, N1, S1, st1⟩
    have hlt : i < eso.length := by
      rcases Nat.lt_or_ge i eso.length with h | h
      · exact h
      · rw [Nat.sub_eq_zero_of_le h] at hr; simp at hr
    obtain ⟨rfl, hrest⟩ : x = i ∧ rest = List.range' (i + 1) (eso.length - (i + 1)) := by
      have e : eso.length - i = (eso.length - (i + 1)) + 1 := by omega
      rw [e, List.range'_succ] at hr
      injection hr with h1 h2
      exact ⟨h1, h2⟩
    have ho1 := st1.2 _ ho (Ne.symm hdo)
    refine wpAny_bind (wpAny_dictEntries (N1 _ ho1).1 rfl ?_)
    obtain ⟨y, hyx⟩ : ∃ y, yo[x]? = some y := ⟨_, List.getElem?_eq_getElem (by omega)⟩
    have hye : eso.toArray[x]? = some (entryOfKey (gk w) y.x) := by
      rw [eo1]; simp [hyx]
    rw [hye]
    have hym := List.mem_of_getElem? hyx
    have hl1 : (putAll ((yo.map Ye.l).take x) (yd.map Ye.l)).length ≤ 100000 := by
      have e1 := putAll_length ((yo.map Ye.l).take x) (yd.map Ye.l)
      have e2 : ((yo.map Ye.l).take x).length ≤ (yo.map Ye.l).length := by rw [List.length_take]; omega
      omega
    show wpAny _ _ (holding [Value.ref y.a, Value.ref y.r] (dictSetHashed d (.ref y.a) ((gk w).hash y.k) (.ref y.r)) >>= _) _ _ _
    refine wpAny_bind (wpAny_holding (setHashed_sum hu X F1 N1 S1 ((hyo y hym).1.tk st1.1) ((hyo y hym).2.tk st1.1) hl1 fun h2 n2 F2 N2 S2 st2 => ?_))
    have ho2 := st2.2 _ ho1 (Ne.symm hdo)
    refine wpAny_bind (wpAny_dictEpoch (N2 _ ho2).1 rfl ?_)
    rw [if_neg (by simp)]
    refine wpAny_pure ⟨h2, n2, x + 1, rfl, hrest, hlt, F2, N2, ?_, st1.trans st2⟩
    have et : (yo.map Ye.l).take (x + 1) = (yo.map Ye.l).take x ++ [y.l] := by
      rw [List.take_add_one]; simp [hyx]
    rw [et, putAll_snoc]
    exact S2
  · rintro b s' ⟨h', news', i, rfl, hr, hi, F1, N1, S1, st1⟩
    have hin : i = eso.length := by
      rcases Nat.lt_or_ge i eso.length with h | h
      · have e : eso.length - i = (eso.length - (i + 1)) + 1 := by omega
        rw [e, List.range'_succ] at hr; exact nomatch hr
      · exact Nat.le_antisymm hi h
    refine wpAny_pure (h h' news' F1 N1 ?_ st1)
    rw [hin, hlen] at S1
    rwa [List.take_of_length_le (by simp)] at S1
theorem update_sum {Q : Value → Shared → Prop} (hu : A.units + 2 < cLine) (X : (Mine.hd.heap_39 w.params).In h₀) (F : Fr h₀ L s.heap m) (N : News h₀ L s.heap news) (Sd : SumAt w news d l) (So : SumAt w news o l2) (hdo : d ≠ o) (hl : l ≠ []) (hl2 : l2 ≠ []) (hz : l.length + l2.length ≤ 100000)
    (h : ∀ h' news', Fr h₀ L h' m → News h₀ L h' news' → SumAt w news' d (putAll l2 l) → Stp w d news news' → Q .none { s with heap := h' }) : wpAny (model PG w) A (call (.builtin "dict.update") [.ref d, .ref o]) Q E s := by
  obtain ⟨od, hod, hcd⟩ := Sd.dictIs N
  obtain ⟨oo, hoo, hco⟩ := So.dictIs N
  have hT : s.TypeIs (.ref d) "dict" := ⟨_, hod, hcd⟩
  have hTo : s.TypeIs (.ref o) "dict" := ⟨_, hoo, hco⟩
  have M : MeetsIn PG w (Builtin.«dict.update» ⟨[.ref d, .ref o], []⟩) (fun B R s' => s' = s ∧ B.units + 2 < cLine ∧ ∀ h' news', Fr h₀ L h' m → News h₀ L h' news' → SumAt w news' d (putAll l2 l) → Stp w d news news' → R (.ok (.ret .none)) { s with heap := h' }) :=
    .of_wp fun B R s' ⟨e, hB, hR⟩ => by
      subst e
      unfold Builtin.«dict.update»
      refine wpAny_bind ?_
      unfold Builtin.Dict.selfAndRest
      refine wpAny_bind (wpAny_notOrdered_dict hT ?_)
      show wpAny _ _ (pure (d, [Value.ref o])) _ _ _
      refine wpAny_pure ?_
      show wpAny _ _ (Builtin.Dict.updateFrom "dict.update" d (.ref o) [] .none) _ _ _
      unfold Builtin.Dict.updateFrom
      refine wpAny_bind (wpAny_typeOf hTo ?_)
      rw [if_neg (by decide)]
      refine wpAny_bind ?_
      unfold Builtin.Dict.merge
      refine wpAny_bind ?_
      unfold Builtin.Dict.readDirectly
      refine wpAny_bind (wpAny_isInstance hTo PySem.F.sub_dict_dict ?_)
      simp only [Bool.not_true, Bool.false_eq_true, if_false]
      refine wpAny_bind (wpAny_specialOf hTo PySem.F.slot_dict_iter.lookup (wpAny_pure ?_))
      simp only [beq_self_eq_true, if_true]
      refine wpAny_bind (wpAny_pure ?_)
      refine mergeDict_sum (by show B.units + 1 + 1 < cLine; omega) X F N Sd So hdo hl hl2 hz fun h' n' F' N' S' st' => ?_
      show wpAny _ _ (Builtin.Dict.addKeywords d [] >>= _) _ _ _
      exact wpAny_bind (wpAny_pure (wpAny_pure ⟨.none, rfl, hR h' n' F' N' S' st'⟩))
  exact call_meetsIn PySem.F.slot_dict_update hT PySem.F.entry_dict_update (PySem.F.args_dict_update_2 _ _) M ⟨rfl, hu, h⟩
end
end Mine
end

-- D45
section
theorem Mine.zz_D45 : True := by
  k_with_none
  trivial
open PySem.SeqAt
set_option maxRecDepth 100000
set_option maxHeartbeats 4000000
namespace Mine
open PyProof.Rows.LCg
/-- a sum without its zeros -/
noncomputable def filtL (l : PSum) : PSum := l.foldl (fun acc e => if e.2 = 0 then acc else putL acc e.1 e.2) []
theorem filtL_snoc (l : PSum) (e : GK × Int) : filtL (l ++ [e]) = if e.2 = 0 then filtL l else putL (filtL l) e.1 e.2 := by simp [filtL, List.foldl_append]
theorem filtL_length (l : PSum) : (filtL l).length ≤ l.length := by
  have key : ∀ (l acc : PSum), (l.foldl (fun acc (e : GK × Int) => if e.2 = 0 then acc else putL acc e.1 e.2) acc).length ≤ acc.length + l.length := by
    intro l
    induction l with
    | nil => intro acc; simp
    | cons e l ih =>
      intro acc
      have h1 := ih (if e.2 = 0 then acc else putL acc e.1 e.2)
      have h2 : (if e.2 = 0 then acc else putL acc e.1 e.2).length ≤ acc.length + 1 := by
        split
        · omega
        · exact putL_length acc e.1 e.2
      simp only [List.foldl_cons, List.length_cons]
      omega
  have := key l []
  simpa [filtL] using this
section
variable {w : World} {A : Around} {E : Value → Shared → Prop} {s : Shared} {h₀ : Heap} {L a b d : Addr} {m : Str → Option Value} {news : List (Addr × Obj)} {env : Env}
theorem rat_ne {x y : Int} {Q : Value → Shared → Prop} (hu : A.units + 2 < cLine) (X : (Mine.hd.heap_39 w.params).In h₀) (F : Fr h₀ L s.heap m) (N : News h₀ L s.heap news) (Ra : RatAt w news a x) (Rb : RatAt w news b y)
    (h : Q (.bool (decide (x ≠ y))) s) : wpAny (model PG w) A (compareOp .NotEq (.ref a) (.ref b)) Q E s := by
  obtain ⟨t1, t2, n1, q1⟩ := Ra
  obtain ⟨u1, u2, n2, q2⟩ := Rb
  have ha : s.heap.IsTuple a #[.int x t1, .int 1 t2] := ⟨_, q1.get X F N, rfl, n1, rfl⟩
  have hb : s.heap.IsTuple b #[.int y u1, .int 1 u2] := ⟨_, q2.get X F N, rfl, n2, rfl⟩
  refine cmp_ofNotEq (RcNeAt.tuples (e := fun j => if j = 0 then (x == y) else true) ha hb (by omega) (fun j h1 h2 => ?_) PG w E Q ?_)
  · obtain rfl | rfl : j = 0 ∨ j = 1 := by
      have : j < 2 := h1
      omega
    · exact EqAt.int_int x t1 y u1
    · exact EqAt.int_int 1 t2 1 u2
  · have e : (!((List.range (min (#[Value.int x t1, .int 1 t2] : Array Value).size (#[Value.int y u1, .int 1 u2] : Array Value).size)).all (fun j => if j = 0 then (x == y) else true) && (#[Value.int x t1, .int 1 t2] : Array Value).size == (#[Value.int y u1, .int 1 u2] : Array Value).size)) = decide (x ≠ y) := by
      show (!((List.range 2).all (fun j => if j = 0 then (x == y) else true) && (2 == 2))) = decide (x ≠ y)
      have e2 : List.range 2 = [0, 1] := rfl
      rw [e2]
      by_cases hxy : x = y <;> simp [hxy]
    rw [e]; exact h
theorem key_ok {I : Addr} {es : List DictEntry} {ep : Nat} (hA : A.handled = none) : ItOk w A I es.length (fun i o => o = kiO d i es.length ep) (fun i v => ∃ e, es[i]? = some e ∧ v = e.key) (fun h => h.get? d = some (dictO es ep)) where
  cls := fun i o h => by subst h; exact ⟨fun e => by injection e with e; exact absurd e (by decide), fun e => by injection e with e; exact absurd e (by decide)⟩
  next := fun i s o Q E hi ho hs hb hQ => by
    subst hs
    refine raw_next hA ho hb (fun e he h' hit hsb => ?_) fun hno => ?_
    · exact hQ e.key h' _ s.toks ⟨e, he, rfl⟩ hit rfl hsb
    · rw [List.getElem?_eq_getElem hi] at hno; cases hno
  stop := fun s o Q E ho hs hb hQ => by
    subst hs
    refine raw_next hA ho hb (fun e he h' hit hsb => ?_) fun hno h' hsb => hQ h' s.toks hsb
    simp at he
/-- the source of a dict comprehension over the keys of a sum that leaves the zeros out -/
noncomputable def SrcF (w : World) (A : Around) (env : Env) (kx vx cond : PySem.Expr) (x : Str) (scope : Scope) (cl : List (Str × Addr)) (Q : Value → Shared → Prop) (xv : Value) (s₁ : Shared) : Prop :=
  ∃ (h₀ : Heap) (L : Addr) (m : Str → Option Value) (news : List (Addr × Obj)) (d : Addr) (l : PSum), xv = .ref d ∧ A.handled = none ∧ A.units + 2 < cLine ∧ (Mine.hd.heap_39 w.params).In h₀ ∧ h₀.NoLimit ∧ Fr h₀ L s₁.heap m ∧ News h₀ L s₁.heap news ∧ SumAt w news d l ∧ l.length ≤ 1000 ∧
    (∀ k c a C oC I oI D m₂ n₁ l₁ h tk E', getL l k = some c → (∀ p ∈ news, p ∈ n₁) → KindAt w n₁ a k → SumAt w n₁ d l → (I, oI) ∈ n₁ → (C, oC) ∈ n₁ → NsObj oC m₂ → m₂ x = some (.ref a) → Fr h₀ L h m → News h₀ L h ((I, oI) :: (C, oC) :: n₁) → SumAt w n₁ D l₁ →
      wpAny (model PG w) A (isTrue cond (compEnvC scope cl C env) (eval cond (compEnvC scope cl C env)))
        (fun ok s₃ => ok = decide (c ≠ 0) ∧ (c ≠ 0 → wpAny (model PG w) A (eval kx (compEnvC scope cl C env)) (fun kv s₄ => wpAny (model PG w) A (eval vx (compEnvC scope cl C env)) (fun vv s₅ => DEnd w s₁ h₀ L m n₁ l₁ (putL l₁ k c) (fun n' => ∀ p ∈ news, p ∈ n') kv vv s₅) E' s₄) E' s₃)
          ∧ (c = 0 → DSkip s₁ h₀ L m n₁ l₁ l₁ (fun n' => ∀ p ∈ news, p ∈ n') s₃)) E' { s₁ with heap := h, toks := tk }) ∧
    (∀ D h tk n₁, Fr h₀ L h m → News h₀ L h n₁ → SumAt w n₁ D (filtL l) → (∀ p ∈ news, p ∈ n₁) → (∀ p ∈ news, p.1 < D) → Q (.ref D) { s₁ with heap := h, toks := tk })
theorem getL_mem {ys : List Ye} (hn : (ys.map Ye.k).Nodup) {y : Ye} (hy : y ∈ ys) : getL (ys.map Ye.l) y.k = some y.c := by
  rw [get_l]
  induction ys with
  | nil => cases hy
  | cons z ys ih =>
    rw [List.map_cons, List.nodup_cons] at hn
    rw [List.find?_cons]
    rcases List.mem_cons.mp hy with rfl | hy
    · simp
    · have hne : z.k ≠ y.k := fun e => hn.1 (e ▸ List.mem_map_of_mem hy)
      simp only [hne, decide_false]
      exact ih hn.2 hy
theorem DictComp_filter {kx vx cond iter : PySem.Expr} {x : Str} {px : Pos} {scope : Scope} {cl : List (Str × Addr)} {pos : Pos} {Q : Value → Shared → Prop}
    (hclos : closureFor scope env = pure cl) (hcell : ∀ y ∈ scope.names, y.2 ≠ .cell) (hkind : scope.kind = .function)
    (hnames : ∀ y ∈ scope.names, y.2 = .local → scope.names.lookup y.1 = some .local) (hx : scope.names.lookup x = some .local)
    (h : wpAny (model PG w) A (eval iter env) (SrcF w A env kx vx cond x scope cl Q) E s)
    (hs : ∀ x, foldedSetIterable iter env x = pure x) :
    wpAny (model PG w) A (eval (.DictComp kx vx [⟨.Name x px, iter, [cond], 0⟩] scope pos) env) Q E s := by
  rw [arm_eval_DictComp]
  refine wpAny_comprehension_free (use := none) rfl hs hclos hkind hnames (wpAny_mono h (fun xv s₁ h₁ => ?_) fun _ _ e => e)
  obtain ⟨h₀, L, m, news, d, l, rfl, hA, hu, X, hb, F, N, S, hl, turn, fin⟩ := h₁
  have S' := S
  obtain ⟨lo, es, ep, hd, ys, rfl, hy, rfl, hn⟩ := S
  refine raw_iter lo (N _ hd).1 ?_
  have fresh : ∀ p ∈ news, p.1 < s₁.heap.objs.size := fun p hp => Heap.lt_size (N p hp).1
  have hlen : ((ys.map Ye.x).map (entryOfKey (gk w))).length = ys.length := by simp
  have hl' : ys.length ≤ 1000 := by simpa using hl
  refine dcomp (n := ((ys.map Ye.x).map (entryOfKey (gk w))).length) (s := { s₁ with heap := s₁.heap.push (kiO d 0 ((ys.map Ye.x).map (entryOfKey (gk w))).length ep) }) (RR := fun acc C => compPost (model PG w) A E none Q acc C) (key_ok hA) (fun s o Q E ho hs hQ => ?_) hu X hb hcell hkind hx (F.push _) (News.push F N (kiO d 0 ((ys.map Ye.x).map (entryOfKey (gk w))).length ep) rfl) (.head _) rfl
    (fun i => filtL ((ys.map Ye.l).take i)) rfl (fun i _ => ?_) (fun _ n' => ∀ p ∈ news, p ∈ n') (fun p hp => .tail _ hp) (fun i n₁ n₂ d' hd' p1 st p hp => st.2 p (p1 p hp) (Nat.ne_of_lt (Nat.lt_of_lt_of_le (fresh p hp) hd'))) (fun i n₁ h' p1 F1 N1 => (N1 _ (p1 _ hd)).1) ?_ ?_
  · subst hs
    exact wpAny_pyIter_keyiter (d := d) (i := 0) (n := ((ys.map Ye.x).map (entryOfKey (gk w))).length) (ep := ep) ⟨_, ho, rfl, rfl⟩ hQ
  · have e1 := filtL_length ((ys.map Ye.l).take i)
    have e2 : ((ys.map Ye.l).take i).length ≤ (ys.map Ye.l).length := by rw [List.length_take]; omega
    have e3 : (ys.map Ye.l).length = ys.length := by simp
    omega
  · rintro i v C oC oI D m₂ n₁ h tk E' hi ⟨e, he, rfl⟩ p1 hI hC nC hm F1 N1 S1
    obtain ⟨y, hyi⟩ : ∃ y, ys[i]? = some y := ⟨_, List.getElem?_eq_getElem (by omega)⟩
    obtain rfl : e = entryOfKey (gk w) y.x := by
      rw [List.getElem?_map, List.getElem?_map, hyi] at he
      exact (Option.some.inj he).symm
    have hym := List.mem_of_getElem? hyi
    have et : filtL ((ys.map Ye.l).take (i + 1)) = if y.c = 0 then filtL ((ys.map Ye.l).take i) else putL (filtL ((ys.map Ye.l).take i)) y.k y.c := by
      rw [List.take_add_one]
      have : (ys.map Ye.l)[i]? = some y.l := by simp [hyi]
      rw [this]
      exact filtL_snoc _ _
    refine wpAny_tests_one ?_
    refine wpAny_mono (turn y.k y.c y.a C oC _ oI D m₂ n₁ _ h tk E' (getL_mem hn hym) p1 ((hy y hym).1.tk (TK.of p1)) (S'.mono p1) hI hC nC hm F1 N1 S1) (fun ok s₃ h₃ => ?_) fun _ _ e => e
    obtain ⟨rfl, k1, k2⟩ := h₃
    unfold DTest
    rw [et]
    by_cases hc : y.c = 0
    · rw [if_pos hc, decide_eq_false (by simpa using hc), if_neg (by decide)]
      exact k2 hc
    · rw [if_neg hc, decide_eq_true hc, if_pos rfl]
      exact k1 hc
  · intro D C h tk m' n₁ F1 N1 hne S1 p1 lt hn' hC₀ hCL
    refine ⟨m', hn', fun h'' hs'' => fin D h'' tk n₁ (F1.change hs'' hCL hC₀) (fun p hp => ⟨hs''.extBut _ _ (hne p hp) (N1 p hp).1, (N1 p hp).2⟩) ?_ p1 fun p hp => lt p (.tail _ hp)⟩
    have et : (ys.map Ye.l).take ((ys.map Ye.x).map (entryOfKey (gk w))).length = ys.map Ye.l := List.take_of_length_le (by simp)
    have S2 : SumAt w n₁ D (filtL ((ys.map Ye.l).take ((ys.map Ye.x).map (entryOfKey (gk w))).length)) := S1
    rwa [et] at S2
end
end Mine
namespace Mine
theorem pick_a {r : Int} (h0 : 0 ≤ r) (h1 : r < 4) : ∃ a : Int, 1 + r = a ∧ 1 ≤ a ∧ a ≤ 4 := ⟨_, rfl, by omega, by omega⟩
theorem pick_b {r : Int} (h0 : 0 ≤ r) (h1 : r < 5) : ∃ b : Int, r - 2 = b ∧ -2 ≤ b ∧ b ≤ 2 := ⟨_, rfl, by omega, by omega⟩
theorem put_two' (k1 k2 : GK) (x y : Int) (h : k1 ≠ k2) : putAll [(k1, x), (k2, y)] [] = [(k1, x), (k2, y)] := by
  simp [putAll, putL, getL, h]
end Mine
end

-- D38
section
theorem Mine.zz_D38 : True := by
  k_with_none
  trivial
set_option maxRecDepth 100000
set_option maxHeartbeats 4000000
namespace Mine
section
variable {H g h h' : Heap} {L : Addr} {m m' : Str → Option Value} {n : List (Addr × Obj)}
/-- with no frame around, what was caught inside leaves no trace -/
theorem soft_nil (FH : Fr H L h m) (so : Soft [] H g) (F : Fr g L h' m') (N : News g L h' n) : Fr H L h' m' ∧ News H L h' n := by
  refine ⟨⟨F.ns, fun b o e => F.keep b o (so.1 b o e (fun x => nomatch x)), FH.above⟩, fun q hq => ⟨(N q hq).1, (N q hq).2.1, ?_⟩⟩
  cases e : H.get? q.1 with
  | none => rfl
  | some x =>
    have := so.1 _ _ e (fun x => nomatch x)
    rw [(N q hq).2.2] at this; cases this
end
end Mine
end

-- D47
section
theorem Mine.zz_D47 : True := by
  k_with_none
  trivial
set_option maxRecDepth 100000
set_option maxHeartbeats 4000000
namespace Mine
theorem of_four {a : Int} (h1 : 1 ≤ a) (h4 : a ≤ 4) : a = 1 ∨ a = 2 ∨ a = 3 ∨ a = 4 := by omega
theorem of_five {b : Int} (h1 : -2 ≤ b) (h2 : b ≤ 2) (h0 : b ≠ 0) : b = -2 ∨ b = -1 ∨ b = 1 ∨ b = 2 := by omega
noncomputable abbrev facL (a : Int) : PSum := [((1, 0), a), ((0, 0), 1)]
noncomputable abbrev othL : PSum := [((1, 0), 1), ((0, 0), -1)]
noncomputable abbrev dueA (a b : Int) : PSum := filtL (putAll [((2, b), a), ((1, b), 1)] [((2, 0), a), ((1, 0), 1 - a), ((0, 0), -1)])
noncomputable abbrev dueB (a : Int) : PSum := filtL (putAll [((2, 0), 2 * a), ((1, 0), 2 - a)] [((2, 0), a), ((1, 0), 1 - a), ((0, 0), -1)])
/-- the law of the small product, b not 0 -/
theorem prod_a {a b : Int} (h1 : 1 ≤ a) (h4 : a ≤ 4) (hb1 : -2 ≤ b) (hb2 : b ≤ 2) (h0 : b ≠ 0) :
    (mulL (facL a) (putAll [((1, b), 1)] othL)).length = (dueA a b).length ∧ ∀ e ∈ mulL (facL a) (putAll [((1, b), 1)] othL), e ∈ dueA a b := by
  rcases of_four h1 h4 with rfl | rfl | rfl | rfl <;> rcases of_five hb1 hb2 h0 with rfl | rfl | rfl | rfl <;> decide +kernel
/-- b = 0 -/
theorem prod_b {a : Int} (h1 : 1 ≤ a) (h4 : a ≤ 4) :
    (mulL (facL a) (putAll [((1, 0), 2)] othL)).length = (dueB a).length ∧ ∀ e ∈ mulL (facL a) (putAll [((1, 0), 2)] othL), e ∈ dueB a := by
  rcases of_four h1 h4 with rfl | rfl | rfl | rfl <;> decide +kernel
theorem muls_of {a : Int} (h1 : 1 ≤ a) (h4 : a ≤ 4) {lb : PSum} (h : ∀ f ∈ lb, f.2 ≠ 0) : ∀ e ∈ facL a, ∀ f ∈ lb, e.2 * f.2 ≠ 0 ∧ IntMulOk e.2 f.2 := by
  intro e he f hf
  have hne : e.2 ≠ 0 ∧ -4 ≤ e.2 ∧ e.2 ≤ 4 := by
    simp only [List.mem_cons, List.not_mem_nil, or_false] at he
    rcases he with rfl | rfl
    · exact ⟨by show a ≠ 0; omega, by show -4 ≤ a; omega, h4⟩
    · decide
  exact ⟨Int.mul_ne_zero hne.1 (h f hf), .of_left (intBits_le (by omega))⟩
theorem muls_a {a b : Int} (h1 : 1 ≤ a) (h4 : a ≤ 4) (hb1 : -2 ≤ b) (hb2 : b ≤ 2) (h0 : b ≠ 0) : ∀ e ∈ facL a, ∀ f ∈ putAll [((1, b), 1)] othL, e.2 * f.2 ≠ 0 ∧ IntMulOk e.2 f.2 :=
  muls_of h1 h4 (by rcases of_five hb1 hb2 h0 with rfl | rfl | rfl | rfl <;> decide +kernel)
theorem muls_b {a : Int} (h1 : 1 ≤ a) (h4 : a ≤ 4) : ∀ e ∈ facL a, ∀ f ∈ putAll [((1, 0), 2)] othL, e.2 * f.2 ≠ 0 ∧ IntMulOk e.2 f.2 := muls_of h1 h4 (by decide +kernel)
section
variable {w : World} {A : Around} {E : Value → Shared → Prop} {s : Shared} {h₀ : Heap} {L a b : Addr} {m : Str → Option Value} {news : List (Addr × Obj)} {la lb : PSum}
theorem sum_eqS {Q : Value → Shared → Prop} (hu : A.units + 3 < cLine) (X : (Mine.hd.heap_39 w.params).In h₀) (F : Fr h₀ L s.heap m) (N : News h₀ L s.heap news) (Sa : SumAt w news a la) (Sb : SumAt w news b lb)
    (hl : la.length = lb.length) (hs : ∀ e ∈ la, e ∈ lb) (h : Q (.bool true) s) : Sealed (wpAny (model PG w) A (compareOp .Eq (.ref a) (.ref b)) Q E s) := ⟨sum_eq hu X F N Sa Sb hl hs h⟩
end
end Mine
end

-- L1
section
theorem Mine.zz_L1 : True := by
  k_with_none
  k_with "zz6" => first | with_reducible assumption | (refine' all_ne ?zz6_x9 ?zz6_y9; (case zz6_x9 => assumption); (case zz6_y9 => ((try dsimp only); omega))) | (refine' all_ne' ?zz6_x9 ?zz6_y9; (case zz6_x9 => assumption); (case zz6_y9 => ((try dsimp only); omega)))
  k_with "zz5" => ((with_reducible refine inCells ?_); name_kind "cell"; k_dflt (refine' ldCN ?zz5_N ?zz5_c ?zz5_m ?zz5_d ?_ ?zz5_a ?zz5_b; (case zz5_a => rfl); (case zz5_b => rfl); (case zz5_N => k_asm); (case zz5_c => rfl); (case zz5_m => (((repeat (first | with_reducible assumption | with_reducible exact List.mem_cons_self | with_reducible refine List.mem_cons_of_mem _ ?_)); done))); (case zz5_d => with_reducible assumption)))
  k_with "zz7" => ((with_reducible show wpAny _ _ (eval (Expr.Name _ _) (compEnvC _ _ _ _)) _ _ _); k_dflt (refine' ldKN ?zz7_N ?zz7_a ?zz7_b ?zz7_c ?zz7_m ?zz7_d ?_ ?zz7_e; (case zz7_N => k_asm); (case zz7_a => exact rfl); (case zz7_b => exact rfl); (case zz7_c => exact rfl); (case zz7_m => (((repeat (first | with_reducible assumption | with_reducible exact List.mem_cons_self | with_reducible refine List.mem_cons_of_mem _ ?_)); done))); (case zz7_d => with_reducible assumption); (case zz7_e => decide)))
  trivial
set_option maxRecDepth 100000
set_option maxHeartbeats 8000000
namespace Mine
set_option maxHeartbeats 80000000 in
theorem law_holds : PySem.Challenge.rw_rh0021_01.Holds := Mine.hd (by
  k_with "call ref" => (k_dflt (refine StopHere.out ?_))
  k_go0
  (all_goals try k_fold)
  refine absQE ?_
  intro Q0 E0 hQ0
  k_steps
  unfold StopHere
  rename Below callerA _ [] _ => B0
  rename (Mine.hd.heap_39 _).In (ghostOf _ _) => X0
  rename Top _ _ _ _ _ (ghostOf _ _) => T0
  rename Fr (ghostOf _ _) _ _ _ => F0
  rename News (ghostOf _ _) _ _ _ => N0
  rename IntsAre _ (List.take 8 _) => hi0
  rename _ = min 8 _ => hm8
  rename _ < _ ∧ _ < _ ∧ _ < _ ∧ _ < _ ∧ _ < _ ∧ _ < _ => hlt0
  rename World => w
  rename Shared => sL
  have hv8 := hi0.length
  refine CallS.use (power_right _ _ _ _ _ _ _ _ _ _ hi0 (Ne.symm (Nat.ne_of_lt hlt0.1)) (by omega) (by (((repeat (first | with_reducible assumption | with_reducible exact List.mem_cons_self | with_reducible refine List.mem_cons_of_mem _ ?_)); done))) ?h4 (by (((repeat (first | with_reducible assumption | with_reducible exact List.mem_cons_self | with_reducible refine List.mem_cons_of_mem _ ?_)); done))) (by decide) (by decide)) B0 F0 X0 N0 T0 X0 T0 rfl (by ktr_room) (by ktr_units) ?_
  case h4 =>
    intro p hp
    simp only [List.mem_cons, List.not_mem_nil, or_false] at hp
    rcases hp with rfl | rfl | rfl | rfl | rfl | rfl
    · exact Nat.ne_of_lt hlt0.1
    · exact Nat.ne_of_lt hlt0.2.1
    · exact Nat.ne_of_lt hlt0.2.2.1
    · exact Nat.ne_of_lt hlt0.2.2.2.1
    · exact Nat.ne_of_lt hlt0.2.2.2.2.1
    · exact Nat.ne_of_lt hlt0.2.2.2.2.2
  intro t1 n1 hb1 hs1 hps g1 h1 tk1 B1 F1 N1 X1 T1 S1
  obtain ⟨ps, hps⟩ := hps
  obtain ⟨F2, N2⟩ := soft_nil F0 S1 F1 N1
  clear F1 N1 B1 X1 T1 S1 F0 g1
  obtain ⟨e1, N3, q1, q2, q3, q4, keep, -, -⟩ := front4 (w := w) N2 (hs1 (sL.heap.objs.size + 1 + 1, _) (by (((repeat (first | with_reducible assumption | with_reducible exact List.mem_cons_self | with_reducible refine List.mem_cons_of_mem _ ?_)); done))) (show @Ne Nat (sL.heap.objs.size + 1 + 1) 147 by omega)) (hs1 (sL.heap.objs.size + 1, _) (by (((repeat (first | with_reducible assumption | with_reducible exact List.mem_cons_self | with_reducible refine List.mem_cons_of_mem _ ?_)); done))) (show @Ne Nat (sL.heap.objs.size + 1) 147 by omega)) hb1 (hs1 (152, _) (by (((repeat (first | with_reducible assumption | with_reducible exact List.mem_cons_self | with_reducible refine List.mem_cons_of_mem _ ?_)); done))) (by decide)) (.cell (by with_reducible assumption)) (.cell (by with_reducible assumption)) .lst .tab
  have hps := keep _ hps (show @Ne Nat 147 (sL.heap.objs.size + 1 + 1) by omega) (show @Ne Nat 147 (sL.heap.objs.size + 1) by omega) (Nat.ne_of_lt hlt0.2.2.2.2.1) (show @Ne Nat 147 152 by decide)
  rename _ < _ ∧ _ < _ ∧ _ < _ ∧ _ < _ ∧ _ < _ => hlt1
  have hlD := keep _ (hs1 (_, W.listOf _ _) (.head _) (Nat.ne_of_gt hlt1.2.2.2.1)) (Nat.ne_of_gt hlt1.2.1) (Nat.ne_of_gt hlt1.2.2.1) (Nat.ne_of_lt hlt0.1) (Nat.ne_of_gt hlt1.2.2.2.2)
  clear keep hs1 hb1 N2
  obtain ⟨f0, F0⟩ := fr_canon1 (x := Str.ofString "box") (v := .ref _) F2 rfl
  clear F2
  k_with "call ref" => (k_dflt (refine' Call.use (take_upd w _ _ _ _ _ _ _ _ _ _ _ _ hi0 (Ne.symm (Nat.ne_of_lt hlt0.1)) (by omega) ?U ?hl ?a1 ?a2 ?a3 ?a4) ?k1 ?k2 ?k3 ?k4 ?k5 ?kK ?kd ?ku ?_; (case k1 => k_asm); (case k2 => k_asm); (case k3 => k_asm); (case k4 => k_asm); (case k5 => k_asm); (case kK => exact rfl); (case kd => ktr_room); (case ku => ktr_units); (case hl => (((repeat (first | with_reducible assumption | with_reducible exact List.mem_cons_self | with_reducible refine List.mem_cons_of_mem _ ?_)); done))); (case U => k_updF); (case a1 => omega); (case a2 => omega); (case a3 => first | omega | decide); (case a4 => first | omega | decide); (intro rT tT tB hr0 hr1 hT tkT FT NT); (try dsimp only at NT)))
  k_with "my comp" => (k_dflt (refine StopHere.out ?_))
  k_steps
  unfold StopHere
  k_with_none
  k_with "zz6" => first | with_reducible assumption | (refine' all_ne ?zz6_x9 ?zz6_y9; (case zz6_x9 => assumption); (case zz6_y9 => ((try dsimp only); omega))) | (refine' all_ne' ?zz6_x9 ?zz6_y9; (case zz6_x9 => assumption); (case zz6_y9 => ((try dsimp only); omega)))
  k_with "zz5" => ((with_reducible refine inCells ?_); name_kind "cell"; k_dflt (refine' ldCN ?zz5_N ?zz5_c ?zz5_m ?zz5_d ?_ ?zz5_a ?zz5_b; (case zz5_a => rfl); (case zz5_b => rfl); (case zz5_N => k_asm); (case zz5_c => rfl); (case zz5_m => (((repeat (first | with_reducible assumption | with_reducible exact List.mem_cons_self | with_reducible refine List.mem_cons_of_mem _ ?_)); done))); (case zz5_d => with_reducible assumption)))
  k_with "zz7" => ((with_reducible show wpAny _ _ (eval (Expr.Name _ _) (compEnvC _ _ _ _)) _ _ _); k_dflt (refine' ldKN ?zz7_N ?zz7_a ?zz7_b ?zz7_c ?zz7_m ?zz7_d ?_ ?zz7_e; (case zz7_N => k_asm); (case zz7_a => exact rfl); (case zz7_b => exact rfl); (case zz7_c => exact rfl); (case zz7_m => (((repeat (first | with_reducible assumption | with_reducible exact List.mem_cons_self | with_reducible refine List.mem_cons_of_mem _ ?_)); done))); (case zz7_d => with_reducible assumption); (case zz7_e => decide)))
  k_with "my src" => (k_dflt (refine StopHere.out ?_))
  refine' ListComp_pair ?k0 ?k1 ?k2 ?k3 ?k4 ?_ ?k7
  case k0 => exact rfl
  case k1 => decide
  case k2 => exact rfl
  case k3 => decide
  case k4 => exact rfl
  case k7 => exact fun _ => rfl
  k_steps
  unfold StopHere
  rename Fr (ghostOf _ _) _ _ _ => F4
  rename News (ghostOf _ _) _ _ _ => N4
  rename _ < _ ∧ _ => lt4
  obtain ⟨M0, hM0, hM1, hM2⟩ : ∃ M : Nat, (1001 + rT = (M : Int)) ∧ 1001 ≤ M ∧ M ≤ 1041 := ⟨(1001 + rT).toNat, by omega, by omega, by omega⟩
  refine ⟨_, _, _, _, _, _, _, _, greatL M0, rfl, rfl, F4, N4, .head _, ?elem, ?fin⟩
  case elem =>
    intro i v C oC m' n₁ h tk E' hv hsub hC nC hm F5 N5
    obtain ⟨M, tM, rfl, hg, hM⟩ : ∃ (M : Nat) (tM : Tok), v = .int (M : Int) tM ∧ greatL M0 i = manyL M ∧ M ≤ 2000 := by
      rcases hv with ⟨rfl, rfl⟩ | ⟨rfl, rfl⟩
      · exact ⟨M0, _, by rw [hM0], rfl, by omega⟩
      · exact ⟨1000, _, rfl, rfl, by decide⟩
    rw [hg]
    clear F4 N4 hv
    refine' DictComp_range ?d0 ?d1 ?d2 ?d3 ?d4 ?_ ?d5
    case d0 => exact rfl
    case d1 => decide
    case d2 => exact rfl
    case d3 => decide
    case d4 => exact rfl
    case d5 => exact fun _ => rfl
    have N6 : News _ _ _ ((C, oC) :: n₁) := fun p hp => (List.mem_cons.mp hp).elim (fun e => e ▸ N5 _ hC) (N5 p)
    k_steps
    unfold StopHere
    rename IsRange _ _ _ _ _ _ _ _ => hr
    rename Fr (ghostOf _ _) _ _ _ => F6
    rename News (ghostOf _ _) _ _ _ => N6
    refine srcR_of M manyL rfl (by ktr_units) X0 (TopRead.nolimit (by k_asm)) F6 N6 hr rfl (by omega) rfl manyL_length ?_ ?_
    · intro j tA C2 oC2 I2 oI2 DD m₂ n₂ hh tk9 E' hj hP9 hI9 hC9 nC9 hm9 F9 N9 S9
      clear F6 N6 N5 hr hm hC nC
      show wpAny _ _ _ _ _ _
      (try k_fold)
      k_with_none
      k_with "zz6" => first | with_reducible assumption | (refine' all_ne ?zz6_x9 ?zz6_y9; (case zz6_x9 => assumption); (case zz6_y9 => ((try dsimp only); omega))) | (refine' all_ne' ?zz6_x9 ?zz6_y9; (case zz6_x9 => assumption); (case zz6_y9 => ((try dsimp only); omega)))
      k_with "zz5" => ((with_reducible refine inCells ?_); name_kind "cell"; k_dflt (refine' ldCN ?zz5_N ?zz5_c ?zz5_m ?zz5_d ?_ ?zz5_a ?zz5_b; (case zz5_a => rfl); (case zz5_b => rfl); (case zz5_N => k_asm); (case zz5_c => rfl); (case zz5_m => (((repeat (first | with_reducible assumption | with_reducible exact List.mem_cons_self | with_reducible refine List.mem_cons_of_mem _ ?_)); done))); (case zz5_d => with_reducible assumption)))
      k_with "zz7" => ((with_reducible show wpAny _ _ (eval (Expr.Name _ _) (compEnvC _ _ _ _)) _ _ _); k_dflt (refine' ldKN ?zz7_N ?zz7_a ?zz7_b ?zz7_c ?zz7_m ?zz7_d ?_ ?zz7_e; (case zz7_N => k_asm); (case zz7_a => exact rfl); (case zz7_b => exact rfl); (case zz7_c => exact rfl); (case zz7_m => (((repeat (first | with_reducible assumption | with_reducible exact List.mem_cons_self | with_reducible refine List.mem_cons_of_mem _ ?_)); done))); (case zz7_d => with_reducible assumption); (case zz7_e => decide)))
      k_steps
      refine' ⟨_, _, ((j : Int), 0), _, _, _, _, rfl, rfl, rfl, ?eF, ?eN, ?esub, ?eK, ?eR, manyL_succ j, ?eP⟩
      case eF => k_asm
      case eN => k_asm
      case esub => exact fun p hp => by (((repeat (first | with_reducible assumption | with_reducible exact List.mem_cons_self | with_reducible refine List.mem_cons_of_mem _ ?_)); done))
      case eK => exact ⟨_, _, _, _, _, .inr (by (((repeat (first | with_reducible assumption | with_reducible exact List.mem_cons_self | with_reducible refine List.mem_cons_of_mem _ ?_)); done))), .inr (by (((repeat (first | with_reducible assumption | with_reducible exact List.mem_cons_self | with_reducible refine List.mem_cons_of_mem _ ?_)); done))), ⟨_, _, _, .inr (by (((repeat (first | with_reducible assumption | with_reducible exact List.mem_cons_self | with_reducible refine List.mem_cons_of_mem _ ?_)); done)))⟩⟩
      case eR => exact ⟨_, _, _, .inr (by (((repeat (first | with_reducible assumption | with_reducible exact List.mem_cons_self | with_reducible refine List.mem_cons_of_mem _ ?_)); done)))⟩
      case eP => exact fun p hp => by have hq := hP9 p hp; (((repeat (first | with_reducible assumption | with_reducible exact List.mem_cons_self | with_reducible refine List.mem_cons_of_mem _ ?_)); done))
    · intro DD hh tk9 n₂ F9 N9 S9 hP9 lt9
      exact ⟨DD, hh, tk9, n₂, rfl, rfl, F9, N9, fun p hp => hP9 p (.tail _ hp), S9, fun p hp => lt9 p (.tail _ hp)⟩
  case fin =>
    intro D d0 d1 h tk n₂ F5 N5 hs5 hD5 S0 S1 lt5
    obtain ⟨e2, N6, r1, r2, r3, r4, keep, thin, -⟩ := front4 (w := w) N5 (hs5 (sL.heap.objs.size + 1 + 1, _) (by (((repeat (first | with_reducible assumption | with_reducible exact List.mem_cons_self | with_reducible refine List.mem_cons_of_mem _ ?_)); done)))) (hs5 (sL.heap.objs.size + 1, _) (by (((repeat (first | with_reducible assumption | with_reducible exact List.mem_cons_self | with_reducible refine List.mem_cons_of_mem _ ?_)); done)))) (hs5 (_, bxO 0 [_, _]) (by (((repeat (first | with_reducible assumption | with_reducible exact List.mem_cons_self | with_reducible refine List.mem_cons_of_mem _ ?_)); done)))) (hs5 (152, tabObj #[]) (by (((repeat (first | with_reducible assumption | with_reducible exact List.mem_cons_self | with_reducible refine List.mem_cons_of_mem _ ?_)); done)))) (.cell (by with_reducible assumption)) (.cell (by with_reducible assumption)) .lst .tab
    have hsub : ∀ p ∈ e1, p ∈ e2 := fun p hp => keep p (hs5 p (by (((repeat (first | with_reducible assumption | with_reducible exact List.mem_cons_self | with_reducible refine List.mem_cons_of_mem _ ?_)); done)))) (q1 p hp) (q2 p hp) (q3 p hp) (q4 p hp)
    have l1 := lt5 (sL.heap.objs.size + 1 + 1, _) (by (((repeat (first | with_reducible assumption | with_reducible exact List.mem_cons_self | with_reducible refine List.mem_cons_of_mem _ ?_)); done)))
    have l2 := lt5 (sL.heap.objs.size + 1, _) (by (((repeat (first | with_reducible assumption | with_reducible exact List.mem_cons_self | with_reducible refine List.mem_cons_of_mem _ ?_)); done)))
    have l3 := lt5 (_, bxO 0 [_, _]) (by (((repeat (first | with_reducible assumption | with_reducible exact List.mem_cons_self | with_reducible refine List.mem_cons_of_mem _ ?_)); done)))
    have l4 := lt5 (152, tabObj #[]) (by (((repeat (first | with_reducible assumption | with_reducible exact List.mem_cons_self | with_reducible refine List.mem_cons_of_mem _ ?_)); done)))
    have S0 := thin d0 _ S0 (Nat.ne_of_gt l1.1) (Nat.ne_of_gt l2.1) (Nat.ne_of_gt l3.1) (Nat.ne_of_gt l4.1)
    have S1 := thin d1 _ S1 (Nat.ne_of_gt l1.2.1) (Nat.ne_of_gt l2.2.1) (Nat.ne_of_gt l3.2.1) (Nat.ne_of_gt l4.2.1)
    have hD5 := keep _ hD5 (Nat.ne_of_gt l1.2.2) (Nat.ne_of_gt l2.2.2) (Nat.ne_of_gt l3.2.2) (Nat.ne_of_gt l4.2.2)
    have hps := hsub _ hps
    have hlD := hsub _ hlD
    clear F4 N4 N5 keep thin hs5 lt5 l1 l2 l3 l4 hsub q1 q2 q3 q4 lt4
    k_with_none
    k_with "zz6" => first | with_reducible assumption | (refine' all_ne ?zz6_x9 ?zz6_y9; (case zz6_x9 => assumption); (case zz6_y9 => ((try dsimp only); omega))) | (refine' all_ne' ?zz6_x9 ?zz6_y9; (case zz6_x9 => assumption); (case zz6_y9 => ((try dsimp only); omega)))
    k_with "zz5" => ((with_reducible refine inCells ?_); name_kind "cell"; k_dflt (refine' ldCN ?zz5_N ?zz5_c ?zz5_m ?zz5_d ?_ ?zz5_a ?zz5_b; (case zz5_a => rfl); (case zz5_b => rfl); (case zz5_N => k_asm); (case zz5_c => rfl); (case zz5_m => (((repeat (first | with_reducible assumption | with_reducible exact List.mem_cons_self | with_reducible refine List.mem_cons_of_mem _ ?_)); done))); (case zz5_d => with_reducible assumption)))
    k_with "zz7" => ((with_reducible show wpAny _ _ (eval (Expr.Name _ _) (compEnvC _ _ _ _)) _ _ _); k_dflt (refine' ldKN ?zz7_N ?zz7_a ?zz7_b ?zz7_c ?zz7_m ?zz7_d ?_ ?zz7_e; (case zz7_N => k_asm); (case zz7_a => exact rfl); (case zz7_b => exact rfl); (case zz7_c => exact rfl); (case zz7_m => (((repeat (first | with_reducible assumption | with_reducible exact List.mem_cons_self | with_reducible refine List.mem_cons_of_mem _ ?_)); done))); (case zz7_d => with_reducible assumption); (case zz7_e => decide)))
    k_with "my comp" => (k_dflt (refine StopHere.out ?_))
    k_steps
    unfold StopHere
    rename Obj.data _ = .cell (some (.ref D)) => dG
    k_with_none
    k_with "zz6" => first | with_reducible assumption | (refine' all_ne ?zz6_x9 ?zz6_y9; (case zz6_x9 => assumption); (case zz6_y9 => ((try dsimp only); omega))) | (refine' all_ne' ?zz6_x9 ?zz6_y9; (case zz6_x9 => assumption); (case zz6_y9 => ((try dsimp only); omega)))
    k_with "zz5" => ((with_reducible refine inCells ?_); name_kind "cell"; k_dflt (refine' ldCN ?zz5_N ?zz5_c ?zz5_m ?zz5_d ?_ ?zz5_a ?zz5_b; (case zz5_a => rfl); (case zz5_b => rfl); (case zz5_N => k_asm); (case zz5_c => rfl); (case zz5_m => (((repeat (first | with_reducible assumption | with_reducible exact List.mem_cons_self | with_reducible refine List.mem_cons_of_mem _ ?_)); done))); (case zz5_d => with_reducible assumption)))
    k_with "zz7" => ((with_reducible show wpAny _ _ (eval (Expr.Name _ _) (compEnvC _ _ _ _)) _ _ _); k_dflt (refine' ldKN ?zz7_N ?zz7_a ?zz7_b ?zz7_c ?zz7_m ?zz7_d ?_ ?zz7_e; (case zz7_N => k_asm); (case zz7_a => exact rfl); (case zz7_b => exact rfl); (case zz7_c => exact rfl); (case zz7_m => (((repeat (first | with_reducible assumption | with_reducible exact List.mem_cons_self | with_reducible refine List.mem_cons_of_mem _ ?_)); done))); (case zz7_d => with_reducible assumption); (case zz7_e => decide)))
    k_with "my iter" => (k_dflt (refine StopHere.out ?_))
    refine' ListComp_cell ?m0 ?m1 ?m2 ?m3 ?m4 ?m5 ?_ ?m7
    case m0 => exact rfl
    case m1 => exact rfl
    case m2 => decide
    case m3 => exact fun _ _ => rfl
    case m4 => exact fun _ => rfl
    case m5 => exact fun _ _ => rfl
    case m7 => exact fun _ => rfl
    k_steps
    unfold StopHere
    rename IsRange _ _ _ _ _ _ _ _ => hr9
    rename Fr (ghostOf _ _) _ _ _ => F9
    rename News (ghostOf _ _) _ _ _ => N9
    have g0L : (greatL M0 0).length = M0 := manyL_length M0
    have g1L : (greatL M0 1).length = 1000 := manyL_length 1000
    refine srcC_range (T := 152) (fun g => Below callerA (ghostOf sL.heap [(149, 147), (154, 152)]) [] g ∧ (Mine.hd.heap_39 w.params).In g ∧ Top _ _ _ _ _ g ∧ Soft [] (ghostOf sL.heap [(149, 147), (154, 152)]) g) (fun i ys => ys.length = i ∧ ∀ y ∈ ys, ∃ t, y = .str (Str.ofString "domain") t)
      (LamR 152 { line := 122, col := 21, endLine := 122, endCol := 59 } (Str.ofString "law.<locals>.<lambda>"))
      (n := 2) rfl (by decide) F9 N9 hr9 ⟨B0, X0, T0, Soft.refl⟩ ⟨rfl, fun _ h => nomatch h⟩ ?R0 ?Rst ?turn ?fin2
    case R0 => exact fun n hn => LamR.start (hn _ (by (((repeat (first | with_reducible assumption | with_reducible exact List.mem_cons_self | with_reducible refine List.mem_cons_of_mem _ ?_)); done))))
    case Rst =>
      intro i n n' d h1 h2 hR hc
      dsimp only at h1 h2
      have h152 : @LT.lt Nat _ 152 _ := Heap.lt_size (N9 (152, tabObj #[]) (by (((repeat (first | with_reducible assumption | with_reducible exact List.mem_cons_self | with_reducible refine List.mem_cons_of_mem _ ?_)); done)))).1
      refine hR.stay fun p hp hq => hc p hp ?_
      dsimp only at hq
      rcases hq with hq | hq
      · show @Ne Nat p.1 d; rw [hq]; show @Ne Nat 152 d; omega
      · show @Ne Nat p.1 d; omega
    case turn =>
      rintro i ti C W D2 oI oC oW I g m' n₁ ys h tk E' hI0 hi hyl ⟨Bg, Xg, Tg, Sg⟩ hsub1 ⟨hy1, hy2⟩ hR hI hC nC hW dW hD lt1 lt2 lt3 Fg Ng
      have HC := code154 Xg
      have hW3 : @LE.le Nat _ (I + 3) W := by
        have l1 : @LT.lt Nat _ I D2 := lt1
        have l2 : @LT.lt Nat _ D2 C := lt2
        have l3 : @LT.lt Nat _ C W := lt3
        omega
      have h152 := (Heap.lt_size (N9 (152, tabObj #[]) (by (((repeat (first | with_reducible assumption | with_reducible exact List.mem_cons_self | with_reducible refine List.mem_cons_of_mem _ ?_)); done)))).1 : @LT.lt Nat _ 152 _)
      rw [hI0] at hW3
      rw [← hI0] at h152
      clear hI0
      obtain ⟨psR, hTn, hpR⟩ := id hR
      clear hpR
      have hnt : ∀ {a : Addr} {o : Obj}, (a, o) ∈ n₁ → (∀ vs, o.data ≠ .fields vs) → a ≠ 152 := fun ha hd => ne_tab Ng hTn ha hd
      have hnz : ∀ {a : Addr} {o : Obj}, (a, o) ∈ _ → (∀ vs, o.data ≠ .fields vs) → a ≠ 152 := fun ha hd => ne_tab N9 (show (152, tabObj #[]) ∈ _ from by (((repeat (first | with_reducible assumption | with_reducible exact List.mem_cons_self | with_reducible refine List.mem_cons_of_mem _ ?_)); done))) ha hd
      have c1 : (D, LCg.lst [Value.ref d0, Value.ref d1]) ∈ n₁ := hsub1 _ (by (((repeat (first | with_reducible assumption | with_reducible exact List.mem_cons_self | with_reducible refine List.mem_cons_of_mem _ ?_)); done))) (hnz (by (((repeat (first | with_reducible assumption | with_reducible exact List.mem_cons_self | with_reducible refine List.mem_cons_of_mem _ ?_)); done))) fun vs q => by cases q)
      have c2 := hsub1 (sL.heap.objs.size + 1 + 1, _) (by (((repeat (first | with_reducible assumption | with_reducible exact List.mem_cons_self | with_reducible refine List.mem_cons_of_mem _ ?_)); done))) (show @Ne Nat (sL.heap.objs.size + 1 + 1) 152 by omega)
      have S0n := S0.keepS N9 (fun p hp => by (((repeat (first | with_reducible assumption | with_reducible exact List.mem_cons_self | with_reducible refine List.mem_cons_of_mem _ ?_)); done))) (show (152, tabObj #[]) ∈ _ from by (((repeat (first | with_reducible assumption | with_reducible exact List.mem_cons_self | with_reducible refine List.mem_cons_of_mem _ ?_)); done))) hsub1
      have S1n := S1.keepS N9 (fun p hp => by (((repeat (first | with_reducible assumption | with_reducible exact List.mem_cons_self | with_reducible refine List.mem_cons_of_mem _ ?_)); done))) (show (152, tabObj #[]) ∈ _ from by (((repeat (first | with_reducible assumption | with_reducible exact List.mem_cons_self | with_reducible refine List.mem_cons_of_mem _ ?_)); done))) hsub1
      have u1 := hnt c1 (fun vs q => by cases q)
      clear N9 F9
      k_with "eval Lambda" => (k_dflt (refine lam_made (clos := [(Str.ofString "great", sL.heap.objs.size + 1 + 1), (Str.ofString "at", W)]) Fg Ng Tg HC hR ⟨_, hW, hW3⟩ rfl rfl rfl rfl rfl ?_; (intro f9 c9 oc9 vs9 t9 pm9 ctv9 h9 tk9 n9 F9 N9 hf9 hc9 hd9 hv9 hs9 hR9)))
      k_with "call ref" => (k_dflt (refine StopHere.out ?_))
      show wpAny _ _ _ _ _ _
      (try k_fold)
      k_steps
      unfold StopHere
      have hI3 : @LT.lt Nat _ 152 I := h152
      have e1' : @LT.lt Nat _ I D2 := lt1
      have e2' : @LT.lt Nat _ D2 C := lt2
      have e3' : @LT.lt Nat _ C W := lt3
      have uI : I ≠ 152 := by show @Ne Nat I 152; omega
      have uD : D2 ≠ 152 := by show @Ne Nat D2 152; omega
      have uC : C ≠ 152 := by show @Ne Nat C 152; omega
      have uW : W ≠ 152 := by show @Ne Nat W 152; omega
      have S0m := S0n.keepT Ng hTn hs9
      have S1m := S1n.keepT Ng hTn hs9
      refine CallS.use (refused_spec w n9 f9 17 300 _ _ _ _ hf9 (lam_mul w n9 f9 c9 _ W _ d0 d1 _ oc9 _ oW vs9 t9 pm9 ctv9 _ _ _ _ _ _ _ _ _ _ _ _ _ (i : Int) ti hf9 hc9 hd9 hv9 (hs9 _ c2 (show @Ne Nat (sL.heap.objs.size + 1 + 1) 152 by omega)) dG (hs9 _ hW uW) dW (by omega) (hs9 _ c1 u1) S0m S1m (by omega) (by omega) (by rw [g0L, g1L]; omega))) Bg F9 Xg N9 Tg X0 T0 rfl (by ktr_room) (by ktr_units) ?_
      intro t10 n10 hs10 g10 h10 tk10 B10 F10 N10 X10 T10 S10
      have up : ∀ p ∈ n₁, p.1 ≠ 152 → p ∈ n10 := fun p hp hne => hs10 p (hs9 p hp hne)
      refine ⟨g10, h10, tk10, n10, oC, oW, _, m', rfl, F10, N10, up _ hI uI, up _ hC uC, nC, up _ hW uW, dW, up _ hD uD, ⟨B10, X10, T10, Sg.trans S10⟩, (fun p hp hpT => up p (hsub1 p hp hpT) hpT), ⟨by simp [hyl], fun y hy => ?_⟩, hR9.stay (fun p hp _ => hs10 p hp)⟩
      rcases List.mem_append.mp hy with hy | hy
      · exact hy2 y hy
      · exact ⟨_, List.mem_singleton.mp hy⟩
    case fin2 =>
      rintro D2 h tk g n₁ ys Fg Ng hD hyl ⟨Bg, Xg, Tg, Sg⟩ hsub1 ⟨hy1, hy2⟩ ⟨ps2, hT2, -⟩
      obtain ⟨t1, t2, rfl⟩ : ∃ t1 t2, ys = [Value.str (Str.ofString "domain") t1, Value.str (Str.ofString "domain") t2] := by
        match ys, hy1, hy2 with
        | [y0, y1], _, hy2 =>
          obtain ⟨t1, rfl⟩ := hy2 _ (.head _)
          obtain ⟨t2, rfl⟩ := hy2 _ (.tail _ (.head _))
          exact ⟨t1, t2, rfl⟩
      obtain ⟨FH, NH⟩ := soft_nil F9 Sg Fg Ng
      clear Fg Ng Bg Xg Tg Sg
      have c1 := hsub1 (sL.heap.objs.size + 1 + 1, _) (by (((repeat (first | with_reducible assumption | with_reducible exact List.mem_cons_self | with_reducible refine List.mem_cons_of_mem _ ?_)); done))) (show @Ne Nat (sL.heap.objs.size + 1 + 1) 152 by omega)
      have c2 := hsub1 (sL.heap.objs.size + 1, _) (by (((repeat (first | with_reducible assumption | with_reducible exact List.mem_cons_self | with_reducible refine List.mem_cons_of_mem _ ?_)); done))) (show @Ne Nat (sL.heap.objs.size + 1) 152 by omega)
      have c3 := hsub1 (_, bxO 0 [_, _]) (by (((repeat (first | with_reducible assumption | with_reducible exact List.mem_cons_self | with_reducible refine List.mem_cons_of_mem _ ?_)); done))) (Nat.ne_of_gt hlt0.2.2.2.2.2)
      have hnz : ∀ {a : Addr} {o : Obj}, (a, o) ∈ n₁ → (∀ vs, o.data ≠ .fields vs) → a ≠ 152 := fun ha hd => ne_tab NH hT2 ha hd
      obtain ⟨e3, N3, q1, q2, q3, q4, keep, -, -⟩ := front4 (w := w) NH c1 c2 c3 hT2 (.cell (by with_reducible assumption)) (.cell (by with_reducible assumption)) .lst .tab
      have hsub : ∀ p ∈ e2, p ∈ e3 := fun p hp => keep p (hsub1 p (by (((repeat (first | with_reducible assumption | with_reducible exact List.mem_cons_self | with_reducible refine List.mem_cons_of_mem _ ?_)); done))) (r4 p hp)) (r1 p hp) (r2 p hp) (r3 p hp) (r4 p hp)
      have hps := hsub _ hps
      have hlD := hsub _ hlD
      have N8 : News _ _ _ ((D2, LCg.lst [Value.str (Str.ofString "domain") t1, Value.str (Str.ofString "domain") t2]) :: _) := fun p hp => (List.mem_cons.mp hp).elim (fun e => e ▸ NH _ hD) (N3 p)
      clear F9 N9 NH N3 keep hsub r1 r2 r3 r4 c1 c2 c3 hD hsub1 hnz hD5 S0 S1
      k_with_none
      k_with "zz6" => first | with_reducible assumption | (refine' all_ne ?zz6_x9 ?zz6_y9; (case zz6_x9 => assumption); (case zz6_y9 => ((try dsimp only); omega))) | (refine' all_ne' ?zz6_x9 ?zz6_y9; (case zz6_x9 => assumption); (case zz6_y9 => ((try dsimp only); omega)))
      k_with "zz5" => ((with_reducible refine inCells ?_); name_kind "cell"; k_dflt (refine' ldCN ?zz5_N ?zz5_c ?zz5_m ?zz5_d ?_ ?zz5_a ?zz5_b; (case zz5_a => rfl); (case zz5_b => rfl); (case zz5_N => k_asm); (case zz5_c => rfl); (case zz5_m => (((repeat (first | with_reducible assumption | with_reducible exact List.mem_cons_self | with_reducible refine List.mem_cons_of_mem _ ?_)); done))); (case zz5_d => with_reducible assumption)))
      k_with "zz7" => ((with_reducible show wpAny _ _ (eval (Expr.Name _ _) (compEnvC _ _ _ _)) _ _ _); k_dflt (refine' ldKN ?zz7_N ?zz7_a ?zz7_b ?zz7_c ?zz7_m ?zz7_d ?_ ?zz7_e; (case zz7_N => k_asm); (case zz7_a => exact rfl); (case zz7_b => exact rfl); (case zz7_c => exact rfl); (case zz7_m => (((repeat (first | with_reducible assumption | with_reducible exact List.mem_cons_self | with_reducible refine List.mem_cons_of_mem _ ?_)); done))); (case zz7_d => with_reducible assumption); (case zz7_e => decide)))
      k_with "call ref" => (k_dflt (refine StopHere.out ?_))
      k_steps
      unfold StopHere
      rename Fr (ghostOf _ _) _ _ _ => F9
      rename News (ghostOf _ _) _ _ _ => N9
      have N9 : News _ _ _ _ := fun p hp => N9 p (.tail _ (.tail _ hp))
      rename _ < _ ∧ _ < _ ∧ _ < _ ∧ _ < _ ∧ _ < _ ∧ AllLt _ _ => zz9
      clear zz9
      k_with "call ref" => (k_dflt (refine' Call.use (take_upd w _ _ _ _ _ _ _ _ _ _ _ _ hi0 (Ne.symm (Nat.ne_of_lt hlt0.1)) (by omega) ?U ?hl ?a1 ?a2 ?a3 ?a4) ?k1 ?k2 ?k3 ?k4 ?k5 ?kK ?kd ?ku ?_; (case k1 => k_asm); (case k2 => k_asm); (case k3 => k_asm); (case k4 => k_asm); (case k5 => k_asm); (case kK => exact rfl); (case kd => ktr_room); (case ku => ktr_units); (case hl => (((repeat (first | with_reducible assumption | with_reducible exact List.mem_cons_self | with_reducible refine List.mem_cons_of_mem _ ?_)); done))); (case U => k_updF); (case a1 => omega); (case a2 => omega); (case a3 => first | omega | decide); (case a4 => first | omega | decide); (intro rT tT tB hr0 hr1 hT tkT FT NT); (try dsimp only at NT)))
      k_with "my adict" => (k_dflt (refine StopHere.out ?_))
      k_steps
      unfold StopHere
      rename Fr (ghostOf _ _) _ _ _ => F9
      rename News (ghostOf _ _) _ _ _ => N9
      rename _ < (4 : Int) => hb4
      obtain ⟨va, hva, ha1, ha4⟩ := pick_a (by assumption) hb4
      obtain ⟨vb, hvb, hb1, hb2⟩ := pick_b hr0 hr1
      rw [hva, hvb] at F9
      obtain ⟨e4, N4, r1, keep, -, -⟩ := front1 (w := w) (c1 := sL.heap.objs.size + 1) N9 (by (((repeat (first | with_reducible assumption | with_reducible exact List.mem_cons_self | with_reducible refine List.mem_cons_of_mem _ ?_)); done))) (.cell (by with_reducible assumption))
      have hps := keep _ (show (147, tabObj ps) ∈ _ from by (((repeat (first | with_reducible assumption | with_reducible exact List.mem_cons_self | with_reducible refine List.mem_cons_of_mem _ ?_)); done))) (show @Ne Nat 147 (sL.heap.objs.size + 1) by omega)
      have hT2 := keep (152, tabObj ps2) (by (((repeat (first | with_reducible assumption | with_reducible exact List.mem_cons_self | with_reducible refine List.mem_cons_of_mem _ ?_)); done))) (show @Ne Nat 152 (sL.heap.objs.size + 1) by omega)
      clear N9 keep q1 q2 q3 q4 hlD
      k_with_none
      k_with "zz6" => first | with_reducible assumption | (refine' all_ne ?zz6_x9 ?zz6_y9; (case zz6_x9 => assumption); (case zz6_y9 => ((try dsimp only); omega))) | (refine' all_ne' ?zz6_x9 ?zz6_y9; (case zz6_x9 => assumption); (case zz6_y9 => ((try dsimp only); omega)))
      k_with "zz5" => ((with_reducible refine inCells ?_); name_kind "cell"; k_dflt (refine' ldCN ?zz5_N ?zz5_c ?zz5_m ?zz5_d ?_ ?zz5_a ?zz5_b; (case zz5_a => rfl); (case zz5_b => rfl); (case zz5_N => k_asm); (case zz5_c => rfl); (case zz5_m => (((repeat (first | with_reducible assumption | with_reducible exact List.mem_cons_self | with_reducible refine List.mem_cons_of_mem _ ?_)); done))); (case zz5_d => with_reducible assumption)))
      k_with "zz7" => ((with_reducible show wpAny _ _ (eval (Expr.Name _ _) (compEnvC _ _ _ _)) _ _ _); k_dflt (refine' ldKN ?zz7_N ?zz7_a ?zz7_b ?zz7_c ?zz7_m ?zz7_d ?_ ?zz7_e; (case zz7_N => k_asm); (case zz7_a => exact rfl); (case zz7_b => exact rfl); (case zz7_c => exact rfl); (case zz7_m => (((repeat (first | with_reducible assumption | with_reducible exact List.mem_cons_self | with_reducible refine List.mem_cons_of_mem _ ?_)); done))); (case zz7_d => with_reducible assumption); (case zz7_e => decide)))
      k_with "my display" => ((try k_fold); (with_reducible refine sealOut ?_); (k_dflt (refine' Dict_sumS ?y0 ?y1 ?y2 ?y3 (TopRead.nolimit (by k_asm)) ?y5 ?y6 ?y7 ?y8 ?_; (case y2 => k_asm); (case y3 => k_asm); (case y1 => k_asm); (case y0 => ktr_units); (case y5 => rfl); (case y6 => rfl); (case y7 => exact List.cons_ne_nil _ _); (case y8 => exact Nat.le_of_ble_eq_true rfl))); intro dS hS FS NS lS SS)
      k_with "my made" => (k_dflt (refine StopHere.out ?_))
      k_dflt (refine wpAny_Assign_Name ?_)
      k_steps
      unfold StopHere
      rename Fr (ghostOf _ _) _ _ _ => F5
      rename News (ghostOf _ _) _ _ _ => N5
      refine ⟨[((2, 0), va), ((1, 0), 1 - va), ((0, 0), -1)], _, F5, N5, SS.mono (fun p hp => by (((repeat (first | with_reducible assumption | with_reducible exact List.mem_cons_self | with_reducible refine List.mem_cons_of_mem _ ?_)); done))), ⟨⟨_, _, rfl, rfl, ⟨_, _, _, _, _, .inr (by (((repeat (first | with_reducible assumption | with_reducible exact List.mem_cons_self | with_reducible refine List.mem_cons_of_mem _ ?_)); done))), .inr (by (((repeat (first | with_reducible assumption | with_reducible exact List.mem_cons_self | with_reducible refine List.mem_cons_of_mem _ ?_)); done))), ⟨_, _, _, .inr (by (((repeat (first | with_reducible assumption | with_reducible exact List.mem_cons_self | with_reducible refine List.mem_cons_of_mem _ ?_)); done)))⟩⟩, ⟨_, _, _, .inr (by (((repeat (first | with_reducible assumption | with_reducible exact List.mem_cons_self | with_reducible refine List.mem_cons_of_mem _ ?_)); done)))⟩⟩, ⟨_, _, rfl, rfl, x_at w _, ⟨_, _, _, .inr (by (((repeat (first | with_reducible assumption | with_reducible exact List.mem_cons_self | with_reducible refine List.mem_cons_of_mem _ ?_)); done)))⟩⟩, ⟨_, _, rfl, rfl, still2_at w _, ⟨_, _, _, .inr (by (((repeat (first | with_reducible assumption | with_reducible exact List.mem_cons_self | with_reducible refine List.mem_cons_of_mem _ ?_)); done)))⟩⟩, trivial⟩, (fun p hp => by (((repeat (first | with_reducible assumption | with_reducible exact List.mem_cons_self | with_reducible refine List.mem_cons_of_mem _ ?_)); done))), ?_⟩
      intro hQ tkQ extQ FQ NQ SQ neQ
      rw [put_three] at SQ
      obtain ⟨e5, N6, r2, keep, thin, -⟩ := front1 (w := w) (c1 := sL.heap.objs.size + 1) NQ (List.mem_append_left _ (.head _)) (.cell (by with_reducible assumption))
      have D1 := thin dS _ SQ (Nat.ne_of_gt (lS (sL.heap.objs.size + 1, _) (.head _)))
      have D1o := D1
      have hps := keep _ (List.mem_append_left _ (.tail _ hps)) (show @Ne Nat 147 (sL.heap.objs.size + 1) by omega)
      have hT2 := keep (152, tabObj ps2) (List.mem_append_left _ (.tail _ hT2)) (show @Ne Nat 152 (sL.heap.objs.size + 1) by omega)
      obtain ⟨dD, eD⟩ : ∃ d, d = dS := ⟨_, rfl⟩
      subst eD
      have hdc : @LT.lt Nat _ (sL.heap.objs.size + 1) dD := lS (sL.heap.objs.size + 1, _) (.head _)
      clear F5 N5 SS lS NQ SQ neQ keep thin r1
      repeat (rename _ < _ ∧ _ < _ ∧ AllLt _ e4 => zz9; clear zz9)
      k_with_none
      k_with "zz6" => first | with_reducible assumption | (refine' all_ne ?zz6_x9 ?zz6_y9; (case zz6_x9 => assumption); (case zz6_y9 => ((try dsimp only); omega))) | (refine' all_ne' ?zz6_x9 ?zz6_y9; (case zz6_x9 => assumption); (case zz6_y9 => ((try dsimp only); omega)))
      k_with "zz5" => ((with_reducible refine inCells ?_); name_kind "cell"; k_dflt (refine' ldCN ?zz5_N ?zz5_c ?zz5_m ?zz5_d ?_ ?zz5_a ?zz5_b; (case zz5_a => rfl); (case zz5_b => rfl); (case zz5_N => k_asm); (case zz5_c => rfl); (case zz5_m => (((repeat (first | with_reducible assumption | with_reducible exact List.mem_cons_self | with_reducible refine List.mem_cons_of_mem _ ?_)); done))); (case zz5_d => with_reducible assumption)))
      k_with "zz7" => ((with_reducible show wpAny _ _ (eval (Expr.Name _ _) (compEnvC _ _ _ _)) _ _ _); k_dflt (refine' ldKN ?zz7_N ?zz7_a ?zz7_b ?zz7_c ?zz7_m ?zz7_d ?_ ?zz7_e; (case zz7_N => k_asm); (case zz7_a => exact rfl); (case zz7_b => exact rfl); (case zz7_c => exact rfl); (case zz7_m => (((repeat (first | with_reducible assumption | with_reducible exact List.mem_cons_self | with_reducible refine List.mem_cons_of_mem _ ?_)); done))); (case zz7_d => with_reducible assumption); (case zz7_e => decide)))
      k_with "my display" => (first | (exfalso; omega) | ((try k_fold); (with_reducible refine sealOut ?_); (k_dflt (refine' Dict_sumS ?y0 ?y1 ?y2 ?y3 (TopRead.nolimit (by k_asm)) ?y5 ?y6 ?y7 ?y8 ?_; (case y2 => k_asm); (case y3 => k_asm); (case y1 => k_asm); (case y0 => ktr_units); (case y5 => rfl); (case y6 => rfl); (case y7 => exact List.cons_ne_nil _ _); (case y8 => exact Nat.le_of_ble_eq_true rfl))); intro dS hS FS NS lS SS))
      k_with "my made" => (k_dflt (refine StopHere.out ?_))
      k_with "getMethod ref" => (k_dflt (refine getMethod_sum PySem.F.slot_dict_update PySem.F.type_dict_update (by k_asm) (SumAt.mono D1 (fun p hp => by (((repeat (first | with_reducible assumption | with_reducible exact List.mem_cons_self | with_reducible refine List.mem_cons_of_mem _ ?_)); done)))) ?_))
      k_steps
      · unfold StopHere
        rename Fr (ghostOf _ _) _ _ _ => F5
        rename News (ghostOf _ _) _ _ _ => N5
        refine ⟨[((2, vb), va), ((1, vb), 1)], _, F5, N5, SS.mono (fun p hp => by (((repeat (first | with_reducible assumption | with_reducible exact List.mem_cons_self | with_reducible refine List.mem_cons_of_mem _ ?_)); done))), ⟨⟨_, _, rfl, rfl, ⟨_, _, _, _, _, .inr (by (((repeat (first | with_reducible assumption | with_reducible exact List.mem_cons_self | with_reducible refine List.mem_cons_of_mem _ ?_)); done))), .inr (by (((repeat (first | with_reducible assumption | with_reducible exact List.mem_cons_self | with_reducible refine List.mem_cons_of_mem _ ?_)); done))), ⟨_, _, _, .inr (by (((repeat (first | with_reducible assumption | with_reducible exact List.mem_cons_self | with_reducible refine List.mem_cons_of_mem _ ?_)); done)))⟩⟩, ⟨_, _, _, .inr (by (((repeat (first | with_reducible assumption | with_reducible exact List.mem_cons_self | with_reducible refine List.mem_cons_of_mem _ ?_)); done)))⟩⟩, ⟨_, _, rfl, rfl, ⟨_, _, _, _, _, .inr (by (((repeat (first | with_reducible assumption | with_reducible exact List.mem_cons_self | with_reducible refine List.mem_cons_of_mem _ ?_)); done))), .inr (by (((repeat (first | with_reducible assumption | with_reducible exact List.mem_cons_self | with_reducible refine List.mem_cons_of_mem _ ?_)); done))), ⟨_, _, _, .inr (by (((repeat (first | with_reducible assumption | with_reducible exact List.mem_cons_self | with_reducible refine List.mem_cons_of_mem _ ?_)); done)))⟩⟩, ⟨_, _, _, .inr (by (((repeat (first | with_reducible assumption | with_reducible exact List.mem_cons_self | with_reducible refine List.mem_cons_of_mem _ ?_)); done)))⟩⟩, trivial⟩, (fun p hp => by (((repeat (first | with_reducible assumption | with_reducible exact List.mem_cons_self | with_reducible refine List.mem_cons_of_mem _ ?_)); done))), ?_⟩
        intro hQ tkQ extQ FQ NQ SQ neQ
        rw [put_two' (2, vb) (1, vb) va 1 (by simp)] at SQ
        obtain ⟨e6, N7, r3, keep, thin, -⟩ := front1 (w := w) (c1 := sL.heap.objs.size + 1) NQ (List.mem_append_left _ (.head _)) (.cell (by with_reducible assumption))
        have D2 := thin dS _ SQ (Nat.ne_of_gt (lS (sL.heap.objs.size + 1, _) (.head _)))
        have D1 := thin dD _ (D1.mono (fun p hp => List.mem_append_left _ (.tail _ hp))) (Nat.ne_of_gt hdc)
        have hps := keep _ (List.mem_append_left _ (.tail _ hps)) (show @Ne Nat 147 (sL.heap.objs.size + 1) by omega)
        have hT2 := keep (152, tabObj ps2) (List.mem_append_left _ (.tail _ hT2)) (show @Ne Nat 152 (sL.heap.objs.size + 1) by omega)
        have hDS : dD ≠ dS := Nat.ne_of_lt (let ⟨_, _, _, q, _⟩ := D1o; lS (dD, _) (.tail _ q))
        obtain ⟨dU, eU⟩ : ∃ d, d = dS := ⟨_, rfl⟩
        subst eU
        clear F5 N5 SS lS NQ SQ neQ keep thin r2
        repeat (rename _ < _ ∧ _ < _ ∧ AllLt _ e5 => zz9; clear zz9)
        k_with_none
        k_with "zz6" => first | with_reducible assumption | (refine' all_ne ?zz6_x9 ?zz6_y9; (case zz6_x9 => assumption); (case zz6_y9 => ((try dsimp only); omega))) | (refine' all_ne' ?zz6_x9 ?zz6_y9; (case zz6_x9 => assumption); (case zz6_y9 => ((try dsimp only); omega)))
        k_with "zz5" => ((with_reducible refine inCells ?_); name_kind "cell"; k_dflt (refine' ldCN ?zz5_N ?zz5_c ?zz5_m ?zz5_d ?_ ?zz5_a ?zz5_b; (case zz5_a => rfl); (case zz5_b => rfl); (case zz5_N => k_asm); (case zz5_c => rfl); (case zz5_m => (((repeat (first | with_reducible assumption | with_reducible exact List.mem_cons_self | with_reducible refine List.mem_cons_of_mem _ ?_)); done))); (case zz5_d => with_reducible assumption)))
        k_with "zz7" => ((with_reducible show wpAny _ _ (eval (Expr.Name _ _) (compEnvC _ _ _ _)) _ _ _); k_dflt (refine' ldKN ?zz7_N ?zz7_a ?zz7_b ?zz7_c ?zz7_m ?zz7_d ?_ ?zz7_e; (case zz7_N => k_asm); (case zz7_a => exact rfl); (case zz7_b => exact rfl); (case zz7_c => exact rfl); (case zz7_m => (((repeat (first | with_reducible assumption | with_reducible exact List.mem_cons_self | with_reducible refine List.mem_cons_of_mem _ ?_)); done))); (case zz7_d => with_reducible assumption); (case zz7_e => decide)))
        k_with "call builtin:dict.update" => (k_dflt (refine StopHere.out ?_))
        k_steps
        unfold StopHere
        refine update_sum (by ktr_units) X0 FQ N7 (D1.mono (fun p hp => .tail _ hp)) (D2.mono (fun p hp => .tail _ hp)) hDS (List.cons_ne_nil _ _) (List.cons_ne_nil _ _) (show 3 + 2 ≤ 100000 by decide) ?_
        intro hU nU FU NU SU stU
        obtain ⟨e7, N8, r4, keep, thin, -⟩ := front1 (w := w) (c1 := sL.heap.objs.size + 1) NU (stU.2 _ (.head _) (Nat.ne_of_lt hdc)) (.cell (by with_reducible assumption))
        have D3 := thin dD _ SU (Nat.ne_of_gt hdc)
        have hps := keep _ (stU.2 _ (.tail _ hps) (show @Ne Nat 147 dD by omega)) (show @Ne Nat 147 (sL.heap.objs.size + 1) by omega)
        have hT2 := keep (152, tabObj ps2) (stU.2 _ (.tail _ hT2) (show @Ne Nat 152 dD by omega)) (show @Ne Nat 152 (sL.heap.objs.size + 1) by omega)
        clear FQ N7 D1 D2 NU SU stU keep thin r3 D1o
        k_with_none
        k_with "zz6" => first | with_reducible assumption | (refine' all_ne ?zz6_x9 ?zz6_y9; (case zz6_x9 => assumption); (case zz6_y9 => ((try dsimp only); omega))) | (refine' all_ne' ?zz6_x9 ?zz6_y9; (case zz6_x9 => assumption); (case zz6_y9 => ((try dsimp only); omega)))
        k_with "zz5" => ((with_reducible refine inCells ?_); name_kind "cell"; k_dflt (refine' ldCN ?zz5_N ?zz5_c ?zz5_m ?zz5_d ?_ ?zz5_a ?zz5_b; (case zz5_a => rfl); (case zz5_b => rfl); (case zz5_N => k_asm); (case zz5_c => rfl); (case zz5_m => (((repeat (first | with_reducible assumption | with_reducible exact List.mem_cons_self | with_reducible refine List.mem_cons_of_mem _ ?_)); done))); (case zz5_d => with_reducible assumption)))
        k_with "zz7" => ((with_reducible show wpAny _ _ (eval (Expr.Name _ _) (compEnvC _ _ _ _)) _ _ _); k_dflt (refine' ldKN ?zz7_N ?zz7_a ?zz7_b ?zz7_c ?zz7_m ?zz7_d ?_ ?zz7_e; (case zz7_N => k_asm); (case zz7_a => exact rfl); (case zz7_b => exact rfl); (case zz7_c => exact rfl); (case zz7_m => (((repeat (first | with_reducible assumption | with_reducible exact List.mem_cons_self | with_reducible refine List.mem_cons_of_mem _ ?_)); done))); (case zz7_d => with_reducible assumption); (case zz7_e => decide)))
        k_with "my adcomp" => (k_dflt (refine wpAny_Assign_Name ?_))
        k_with "my dcomp" => (k_dflt (refine DictComp_filter (by exact rfl) (by decide) (by exact rfl) (by decide) (by exact rfl) ?_ (by exact fun _ => rfl)))
        k_with "my src" => (k_dflt (refine StopHere.out ?_))
        k_steps
        unfold StopHere
        refine ⟨_, _, _, _, dD, _, rfl, rfl, by ktr_units, X0, TopRead.nolimit (by k_asm), FU, N8, D3.mono (fun p hp => .tail _ hp), Nat.le_trans (putAll_length _ _) (show 3 + 2 ≤ 1000 by decide), ?turna, ?fina⟩
        case turna =>
          intro k c a C oC I oI D4 m₂ n₁ l₁ h tk E' hk4 hP4 K4 S4 hI4 hC4 nC4 hm4 F9 N9 S9
          have cc1 := hP4 (sL.heap.objs.size + 1, _) (.head _)
          show wpAny _ _ _ _ _ _
          (try k_fold)
          k_with_none
          k_with "zz6" => first | with_reducible assumption | (refine' all_ne ?zz6_x9 ?zz6_y9; (case zz6_x9 => assumption); (case zz6_y9 => ((try dsimp only); omega))) | (refine' all_ne' ?zz6_x9 ?zz6_y9; (case zz6_x9 => assumption); (case zz6_y9 => ((try dsimp only); omega)))
          k_with "zz5" => ((with_reducible refine inCells ?_); name_kind "cell"; k_dflt (refine' ldCN ?zz5_N ?zz5_c ?zz5_m ?zz5_d ?_ ?zz5_a ?zz5_b; (case zz5_a => rfl); (case zz5_b => rfl); (case zz5_N => k_asm); (case zz5_c => rfl); (case zz5_m => (((repeat (first | with_reducible assumption | with_reducible exact List.mem_cons_self | with_reducible refine List.mem_cons_of_mem _ ?_)); done))); (case zz5_d => with_reducible assumption)))
          k_with "zz7" => ((with_reducible show wpAny _ _ (eval (Expr.Name _ _) (compEnvC _ _ _ _)) _ _ _); k_dflt (refine' ldKN ?zz7_N ?zz7_a ?zz7_b ?zz7_c ?zz7_m ?zz7_d ?_ ?zz7_e; (case zz7_N => k_asm); (case zz7_a => exact rfl); (case zz7_b => exact rfl); (case zz7_c => exact rfl); (case zz7_m => (((repeat (first | with_reducible assumption | with_reducible exact List.mem_cons_self | with_reducible refine List.mem_cons_of_mem _ ?_)); done))); (case zz7_d => with_reducible assumption); (case zz7_e => decide)))
          k_with "my sub" => (k_dflt (refine item_sum (by ktr_units) (by k_asm) (by k_asm) (by k_asm) (S4.mono (fun p hp => by (((repeat (first | with_reducible assumption | with_reducible exact List.mem_cons_self | with_reducible refine List.mem_cons_of_mem _ ?_)); done)))) (K4.tk (TK.of (fun p hp => by (((repeat (first | with_reducible assumption | with_reducible exact List.mem_cons_self | with_reducible refine List.mem_cons_of_mem _ ?_)); done))))) hk4 ?_ (by with_unfolding_all rfl) (by intro _; rfl)); intro ra4 tka4 Ra4)
          k_with "my ne" => (k_dflt (refine rat_ne (by ktr_units) X0 (by k_asm) (by k_asm) (Ra4.mono (fun p hp => by (((repeat (first | with_reducible assumption | with_reducible exact List.mem_cons_self | with_reducible refine List.mem_cons_of_mem _ ?_)); done)))) ⟨_, _, _, .inr (by (((repeat (first | with_reducible assumption | with_reducible exact List.mem_cons_self | with_reducible refine List.mem_cons_of_mem _ ?_)); done)))⟩ ?_))
          k_steps
          · refine' ⟨_, _, k, c, _, _, _, rfl, rfl, rfl, ?eFa, ?eNa, ?esuba, ?eKa, ?eRa, rfl, ?ePa⟩
            case eFa => k_asm
            case eNa => k_asm
            case esuba => exact fun p hp => by (((repeat (first | with_reducible assumption | with_reducible exact List.mem_cons_self | with_reducible refine List.mem_cons_of_mem _ ?_)); done))
            case eKa => exact K4.tk (TK.of (fun p hp => by (((repeat (first | with_reducible assumption | with_reducible exact List.mem_cons_self | with_reducible refine List.mem_cons_of_mem _ ?_)); done))))
            case eRa => exact Ra4
            case ePa => exact fun p hp => by have hq := hP4 p hp; (((repeat (first | with_reducible assumption | with_reducible exact List.mem_cons_self | with_reducible refine List.mem_cons_of_mem _ ?_)); done))
          · refine' ⟨_, _, _, rfl, ?sFa, ?sNa, ?ssuba, rfl, ?sPa⟩
            case sFa => k_asm
            case sNa => k_asm
            case ssuba => exact fun p hp => by (((repeat (first | with_reducible assumption | with_reducible exact List.mem_cons_self | with_reducible refine List.mem_cons_of_mem _ ?_)); done))
            case sPa => exact fun p hp => by have hq := hP4 p hp; (((repeat (first | with_reducible assumption | with_reducible exact List.mem_cons_self | with_reducible refine List.mem_cons_of_mem _ ?_)); done))
        case fina =>
          intro dE h tk n₁ F9 N9 S9 hP9 lt9
          obtain ⟨e8, N10, r5, keep, thin, -⟩ := front1 (w := w) (c1 := sL.heap.objs.size + 1) N9 (hP9 (sL.heap.objs.size + 1, _) (.head _)) (.cell (by with_reducible assumption))
          have hcE : @LT.lt Nat _ (sL.heap.objs.size + 1) dE := lt9 (sL.heap.objs.size + 1, _) (.head _)
          have SE := thin dE _ S9 (Nat.ne_of_gt hcE)
          replace hps := keep _ (hP9 _ (.tail _ hps)) (show @Ne Nat 147 (sL.heap.objs.size + 1) by omega)
          replace hT2 := keep _ (hP9 _ (.tail _ hT2)) (show @Ne Nat 152 (sL.heap.objs.size + 1) by omega)
          clear N8 FU D3 N9 S9 keep thin lt9 hP9 r4
          k_with_none
          k_with "zz6" => first | with_reducible assumption | (refine' all_ne ?zz6_x9 ?zz6_y9; (case zz6_x9 => assumption); (case zz6_y9 => ((try dsimp only); omega))) | (refine' all_ne' ?zz6_x9 ?zz6_y9; (case zz6_x9 => assumption); (case zz6_y9 => ((try dsimp only); omega)))
          k_with "zz5" => ((with_reducible refine inCells ?_); name_kind "cell"; k_dflt (refine' ldCN ?zz5_N ?zz5_c ?zz5_m ?zz5_d ?_ ?zz5_a ?zz5_b; (case zz5_a => rfl); (case zz5_b => rfl); (case zz5_N => k_asm); (case zz5_c => rfl); (case zz5_m => (((repeat (first | with_reducible assumption | with_reducible exact List.mem_cons_self | with_reducible refine List.mem_cons_of_mem _ ?_)); done))); (case zz5_d => with_reducible assumption)))
          k_with "zz7" => ((with_reducible show wpAny _ _ (eval (Expr.Name _ _) (compEnvC _ _ _ _)) _ _ _); k_dflt (refine' ldKN ?zz7_N ?zz7_a ?zz7_b ?zz7_c ?zz7_m ?zz7_d ?_ ?zz7_e; (case zz7_N => k_asm); (case zz7_a => exact rfl); (case zz7_b => exact rfl); (case zz7_c => exact rfl); (case zz7_m => (((repeat (first | with_reducible assumption | with_reducible exact List.mem_cons_self | with_reducible refine List.mem_cons_of_mem _ ?_)); done))); (case zz7_d => with_reducible assumption); (case zz7_e => decide)))
          k_with "my adict" => (k_dflt (refine StopHere.out ?_))
          show wpAny _ _ _ _ _ _
          (try k_fold)
          k_steps
          unfold StopHere
          rename Fr (ghostOf _ _) _ _ _ => F9
          rename News (ghostOf _ _) _ _ _ => N9
          k_with_none
          k_with "zz6" => first | with_reducible assumption | (refine' all_ne ?zz6_x9 ?zz6_y9; (case zz6_x9 => assumption); (case zz6_y9 => ((try dsimp only); omega))) | (refine' all_ne' ?zz6_x9 ?zz6_y9; (case zz6_x9 => assumption); (case zz6_y9 => ((try dsimp only); omega)))
          k_with "zz5" => ((with_reducible refine inCells ?_); name_kind "cell"; k_dflt (refine' ldCN ?zz5_N ?zz5_c ?zz5_m ?zz5_d ?_ ?zz5_a ?zz5_b; (case zz5_a => rfl); (case zz5_b => rfl); (case zz5_N => k_asm); (case zz5_c => rfl); (case zz5_m => (((repeat (first | with_reducible assumption | with_reducible exact List.mem_cons_self | with_reducible refine List.mem_cons_of_mem _ ?_)); done))); (case zz5_d => with_reducible assumption)))
          k_with "zz7" => ((with_reducible show wpAny _ _ (eval (Expr.Name _ _) (compEnvC _ _ _ _)) _ _ _); k_dflt (refine' ldKN ?zz7_N ?zz7_a ?zz7_b ?zz7_c ?zz7_m ?zz7_d ?_ ?zz7_e; (case zz7_N => k_asm); (case zz7_a => exact rfl); (case zz7_b => exact rfl); (case zz7_c => exact rfl); (case zz7_m => (((repeat (first | with_reducible assumption | with_reducible exact List.mem_cons_self | with_reducible refine List.mem_cons_of_mem _ ?_)); done))); (case zz7_d => with_reducible assumption); (case zz7_e => decide)))
          k_with "my display" => ((try k_fold); (with_reducible refine sealOut ?_); (k_dflt (refine' Dict_sumS ?y0 ?y1 ?y2 ?y3 (TopRead.nolimit (by k_asm)) ?y5 ?y6 ?y7 ?y8 ?_; (case y2 => k_asm); (case y3 => k_asm); (case y1 => k_asm); (case y0 => ktr_units); (case y5 => rfl); (case y6 => rfl); (case y7 => exact List.cons_ne_nil _ _); (case y8 => exact Nat.le_of_ble_eq_true rfl))); intro dS hS FS NS lS SS)
          k_with "my made" => (k_dflt (refine StopHere.out ?_))
          k_dflt (refine wpAny_Assign_Name ?_)
          k_steps
          unfold StopHere
          rename Fr (ghostOf _ _) _ _ _ => F5
          rename News (ghostOf _ _) _ _ _ => N5
          refine ⟨[((1, 0), 1), ((0, 0), -1)], _, F5, N5, SS.mono (fun p hp => by (((repeat (first | with_reducible assumption | with_reducible exact List.mem_cons_self | with_reducible refine List.mem_cons_of_mem _ ?_)); done))), ⟨⟨_, _, rfl, rfl, x_at w _, ⟨_, _, _, .inr (by (((repeat (first | with_reducible assumption | with_reducible exact List.mem_cons_self | with_reducible refine List.mem_cons_of_mem _ ?_)); done)))⟩⟩, ⟨_, _, rfl, rfl, still2_at w _, ⟨_, _, _, .inr (by (((repeat (first | with_reducible assumption | with_reducible exact List.mem_cons_self | with_reducible refine List.mem_cons_of_mem _ ?_)); done)))⟩⟩, trivial⟩, (fun p hp => by (((repeat (first | with_reducible assumption | with_reducible exact List.mem_cons_self | with_reducible refine List.mem_cons_of_mem _ ?_)); done))), ?_⟩
          intro hQ tkQ extQ FQ NQ SQ neQ
          rw [put_two' (1, 0) (0, 0) 1 (-1) (by decide)] at SQ
          obtain ⟨e9, N11, r6, keep, thin, -⟩ := front1 (w := w) (c1 := sL.heap.objs.size + 1) NQ (List.mem_append_left _ (.head _)) (.cell (by with_reducible assumption))
          have SO := thin dS _ SQ (Nat.ne_of_gt (lS (sL.heap.objs.size + 1, _) (.head _)))
          replace hps := keep _ (List.mem_append_left _ (.tail _ hps)) (show @Ne Nat 147 (sL.heap.objs.size + 1) by omega)
          replace hT2 := keep _ (List.mem_append_left _ (.tail _ hT2)) (show @Ne Nat 152 (sL.heap.objs.size + 1) by omega)
          have hEO : dE ≠ dS := Nat.ne_of_lt (let ⟨_, _, _, q, _⟩ := SE; lS (dE, _) (.tail _ q))
          replace SE := thin dE _ (SE.mono (fun p hp => List.mem_append_left _ (.tail _ hp))) (Nat.ne_of_gt hcE)
          have hcO : @LT.lt Nat _ (sL.heap.objs.size + 1) dS := lS (sL.heap.objs.size + 1, _) (.head _)
          obtain ⟨dO, eO⟩ : ∃ d, d = dS := ⟨_, rfl⟩
          subst eO
          clear F5 N5 SS lS NQ SQ neQ keep thin r5
          repeat (rename _ < _ ∧ _ < _ ∧ AllLt _ e8 => zz9; clear zz9)
          k_with_none
          k_with "zz6" => first | with_reducible assumption | (refine' all_ne ?zz6_x9 ?zz6_y9; (case zz6_x9 => assumption); (case zz6_y9 => ((try dsimp only); omega))) | (refine' all_ne' ?zz6_x9 ?zz6_y9; (case zz6_x9 => assumption); (case zz6_y9 => ((try dsimp only); omega)))
          k_with "zz5" => ((with_reducible refine inCells ?_); name_kind "cell"; k_dflt (refine' ldCN ?zz5_N ?zz5_c ?zz5_m ?zz5_d ?_ ?zz5_a ?zz5_b; (case zz5_a => rfl); (case zz5_b => rfl); (case zz5_N => k_asm); (case zz5_c => rfl); (case zz5_m => (((repeat (first | with_reducible assumption | with_reducible exact List.mem_cons_self | with_reducible refine List.mem_cons_of_mem _ ?_)); done))); (case zz5_d => with_reducible assumption)))
          k_with "zz7" => ((with_reducible show wpAny _ _ (eval (Expr.Name _ _) (compEnvC _ _ _ _)) _ _ _); k_dflt (refine' ldKN ?zz7_N ?zz7_a ?zz7_b ?zz7_c ?zz7_m ?zz7_d ?_ ?zz7_e; (case zz7_N => k_asm); (case zz7_a => exact rfl); (case zz7_b => exact rfl); (case zz7_c => exact rfl); (case zz7_m => (((repeat (first | with_reducible assumption | with_reducible exact List.mem_cons_self | with_reducible refine List.mem_cons_of_mem _ ?_)); done))); (case zz7_d => with_reducible assumption); (case zz7_e => decide)))
          k_with "my display" => (first | (exfalso; omega) | ((try k_fold); (with_reducible refine sealOut ?_); (k_dflt (refine' Dict_sumS ?y0 ?y1 ?y2 ?y3 (TopRead.nolimit (by k_asm)) ?y5 ?y6 ?y7 ?y8 ?_; (case y2 => k_asm); (case y3 => k_asm); (case y1 => k_asm); (case y0 => ktr_units); (case y5 => rfl); (case y6 => rfl); (case y7 => exact List.cons_ne_nil _ _); (case y8 => exact Nat.le_of_ble_eq_true rfl))); intro dS hS FS NS lS SS))
          k_with "my made" => (k_dflt (refine StopHere.out ?_))
          k_with "getMethod ref" => (k_dflt (refine getMethod_sum PySem.F.slot_dict_update PySem.F.type_dict_update (by k_asm) (SumAt.mono SO (fun p hp => by (((repeat (first | with_reducible assumption | with_reducible exact List.mem_cons_self | with_reducible refine List.mem_cons_of_mem _ ?_)); done)))) ?_))
          k_steps
          unfold StopHere
          rename Fr (ghostOf _ _) _ _ _ => F5
          rename News (ghostOf _ _) _ _ _ => N5
          refine ⟨[((1, vb), 1)], _, F5, N5, SS.mono (fun p hp => by (((repeat (first | with_reducible assumption | with_reducible exact List.mem_cons_self | with_reducible refine List.mem_cons_of_mem _ ?_)); done))), ⟨⟨_, _, rfl, rfl, ⟨_, _, _, _, _, .inr (by (((repeat (first | with_reducible assumption | with_reducible exact List.mem_cons_self | with_reducible refine List.mem_cons_of_mem _ ?_)); done))), .inr (by (((repeat (first | with_reducible assumption | with_reducible exact List.mem_cons_self | with_reducible refine List.mem_cons_of_mem _ ?_)); done))), ⟨_, _, _, .inr (by (((repeat (first | with_reducible assumption | with_reducible exact List.mem_cons_self | with_reducible refine List.mem_cons_of_mem _ ?_)); done)))⟩⟩, ⟨_, _, _, .inr (by (((repeat (first | with_reducible assumption | with_reducible exact List.mem_cons_self | with_reducible refine List.mem_cons_of_mem _ ?_)); done)))⟩⟩, trivial⟩, (fun p hp => by (((repeat (first | with_reducible assumption | with_reducible exact List.mem_cons_self | with_reducible refine List.mem_cons_of_mem _ ?_)); done))), ?_⟩
          intro hQ tkQ extQ FQ NQ SQ neQ
          rw [put_one] at SQ
          obtain ⟨e10, N12, r7, keep, thin, -⟩ := front1 (w := w) (c1 := sL.heap.objs.size + 1) NQ (List.mem_append_left _ (.head _)) (.cell (by with_reducible assumption))
          have SV := thin dS _ SQ (Nat.ne_of_gt (lS (sL.heap.objs.size + 1, _) (.head _)))
          replace hps := keep _ (List.mem_append_left _ (.tail _ hps)) (show @Ne Nat 147 (sL.heap.objs.size + 1) by omega)
          replace hT2 := keep _ (List.mem_append_left _ (.tail _ hT2)) (show @Ne Nat 152 (sL.heap.objs.size + 1) by omega)
          have hOS : dO ≠ dS := Nat.ne_of_lt (let ⟨_, _, _, q, _⟩ := SO; lS (dO, _) (.tail _ q))
          replace SE := thin dE _ (SE.mono (fun p hp => List.mem_append_left _ (.tail _ hp))) (Nat.ne_of_gt hcE)
          replace SO := thin dO _ (SO.mono (fun p hp => List.mem_append_left _ (.tail _ hp))) (Nat.ne_of_gt hcO)
          obtain ⟨dV, eV⟩ : ∃ d, d = dS := ⟨_, rfl⟩
          subst eV
          clear F5 N5 SS lS NQ SQ neQ keep thin r6
          repeat (rename _ < _ ∧ _ < _ ∧ AllLt _ e9 => zz9; clear zz9)
          k_with_none
          k_with "zz6" => first | with_reducible assumption | (refine' all_ne ?zz6_x9 ?zz6_y9; (case zz6_x9 => assumption); (case zz6_y9 => ((try dsimp only); omega))) | (refine' all_ne' ?zz6_x9 ?zz6_y9; (case zz6_x9 => assumption); (case zz6_y9 => ((try dsimp only); omega)))
          k_with "zz5" => ((with_reducible refine inCells ?_); name_kind "cell"; k_dflt (refine' ldCN ?zz5_N ?zz5_c ?zz5_m ?zz5_d ?_ ?zz5_a ?zz5_b; (case zz5_a => rfl); (case zz5_b => rfl); (case zz5_N => k_asm); (case zz5_c => rfl); (case zz5_m => (((repeat (first | with_reducible assumption | with_reducible exact List.mem_cons_self | with_reducible refine List.mem_cons_of_mem _ ?_)); done))); (case zz5_d => with_reducible assumption)))
          k_with "zz7" => ((with_reducible show wpAny _ _ (eval (Expr.Name _ _) (compEnvC _ _ _ _)) _ _ _); k_dflt (refine' ldKN ?zz7_N ?zz7_a ?zz7_b ?zz7_c ?zz7_m ?zz7_d ?_ ?zz7_e; (case zz7_N => k_asm); (case zz7_a => exact rfl); (case zz7_b => exact rfl); (case zz7_c => exact rfl); (case zz7_m => (((repeat (first | with_reducible assumption | with_reducible exact List.mem_cons_self | with_reducible refine List.mem_cons_of_mem _ ?_)); done))); (case zz7_d => with_reducible assumption); (case zz7_e => decide)))
          k_with "call builtin:dict.update" => (k_dflt (refine StopHere.out ?_))
          k_steps
          unfold StopHere
          refine update_sum (by ktr_units) X0 FQ N12 (SO.mono (fun p hp => .tail _ hp)) (SV.mono (fun p hp => .tail _ hp)) hOS (List.cons_ne_nil _ _) (List.cons_ne_nil _ _) (show 2 + 1 ≤ 100000 by decide) ?_
          intro hU nU FU NU SU stU
          obtain ⟨e11, N13, r8, keep, thin, -⟩ := front1 (w := w) (c1 := sL.heap.objs.size + 1) NU (stU.2 _ (.head _) (Nat.ne_of_lt hcO)) (.cell (by with_reducible assumption))
          replace SE := thin dE _ ((SE.mono (fun p hp => .tail _ hp)).stp stU hEO) (Nat.ne_of_gt hcE)
          replace SO := thin dO _ SU (Nat.ne_of_gt hcO)
          replace hps := keep _ (stU.2 _ (.tail _ hps) (show @Ne Nat 147 dO by omega)) (show @Ne Nat 147 (sL.heap.objs.size + 1) by omega)
          replace hT2 := keep _ (stU.2 _ (.tail _ hT2) (show @Ne Nat 152 dO by omega)) (show @Ne Nat 152 (sL.heap.objs.size + 1) by omega)
          clear FQ N12 SV NU SU stU keep thin r7
          k_with_none
          k_with "zz6" => first | with_reducible assumption | (refine' all_ne ?zz6_x9 ?zz6_y9; (case zz6_x9 => assumption); (case zz6_y9 => ((try dsimp only); omega))) | (refine' all_ne' ?zz6_x9 ?zz6_y9; (case zz6_x9 => assumption); (case zz6_y9 => ((try dsimp only); omega)))
          k_with "zz5" => ((with_reducible refine inCells ?_); name_kind "cell"; k_dflt (refine' ldCN ?zz5_N ?zz5_c ?zz5_m ?zz5_d ?_ ?zz5_a ?zz5_b; (case zz5_a => rfl); (case zz5_b => rfl); (case zz5_N => k_asm); (case zz5_c => rfl); (case zz5_m => (((repeat (first | with_reducible assumption | with_reducible exact List.mem_cons_self | with_reducible refine List.mem_cons_of_mem _ ?_)); done))); (case zz5_d => with_reducible assumption)))
          k_with "zz7" => ((with_reducible show wpAny _ _ (eval (Expr.Name _ _) (compEnvC _ _ _ _)) _ _ _); k_dflt (refine' ldKN ?zz7_N ?zz7_a ?zz7_b ?zz7_c ?zz7_m ?zz7_d ?_ ?zz7_e; (case zz7_N => k_asm); (case zz7_a => exact rfl); (case zz7_b => exact rfl); (case zz7_c => exact rfl); (case zz7_m => (((repeat (first | with_reducible assumption | with_reducible exact List.mem_cons_self | with_reducible refine List.mem_cons_of_mem _ ?_)); done))); (case zz7_d => with_reducible assumption); (case zz7_e => decide)))
          k_with "my display" => ((try k_fold); (with_reducible refine sealOut ?_); (k_dflt (refine' Dict_sumS ?y0 ?y1 ?y2 ?y3 (TopRead.nolimit (by k_asm)) ?y5 ?y6 ?y7 ?y8 ?_; (case y2 => k_asm); (case y3 => k_asm); (case y1 => k_asm); (case y0 => ktr_units); (case y5 => rfl); (case y6 => rfl); (case y7 => exact List.cons_ne_nil _ _); (case y8 => exact Nat.le_of_ble_eq_true rfl))); intro dS hS FS NS lS SS)
          k_with "my made" => (k_dflt (refine StopHere.out ?_))
          show wpAny _ _ _ _ _ _
          (try k_fold)
          k_steps
          unfold StopHere
          rename Fr (ghostOf _ _) _ _ _ => F5
          rename News (ghostOf _ _) _ _ _ => N5
          refine ⟨[((1, 0), va), ((0, 0), 1)], _, F5, N5, SS.mono (fun p hp => by (((repeat (first | with_reducible assumption | with_reducible exact List.mem_cons_self | with_reducible refine List.mem_cons_of_mem _ ?_)); done))), ⟨⟨_, _, rfl, rfl, x_at w _, ⟨_, _, _, .inr (by (((repeat (first | with_reducible assumption | with_reducible exact List.mem_cons_self | with_reducible refine List.mem_cons_of_mem _ ?_)); done)))⟩⟩, ⟨_, _, rfl, rfl, still2_at w _, ⟨_, _, _, .inr (by (((repeat (first | with_reducible assumption | with_reducible exact List.mem_cons_self | with_reducible refine List.mem_cons_of_mem _ ?_)); done)))⟩⟩, trivial⟩, (fun p hp => by (((repeat (first | with_reducible assumption | with_reducible exact List.mem_cons_self | with_reducible refine List.mem_cons_of_mem _ ?_)); done))), ?_⟩
          intro hQ tkQ extQ FQ NQ SQ neQ
          rw [put_two' (1, 0) (0, 0) va 1 (by decide)] at SQ
          obtain ⟨e12, N14, r9, keep, thin, -⟩ := front1 (w := w) (c1 := sL.heap.objs.size + 1) NQ (List.mem_append_left _ (.head _)) (.cell (by with_reducible assumption))
          have SV := thin dS _ SQ (Nat.ne_of_gt (lS (sL.heap.objs.size + 1, _) (.head _)))
          replace hps := keep _ (List.mem_append_left _ (.tail _ hps)) (show @Ne Nat 147 (sL.heap.objs.size + 1) by omega)
          replace hT2 := keep _ (List.mem_append_left _ (.tail _ hT2)) (show @Ne Nat 152 (sL.heap.objs.size + 1) by omega)
          replace SE := thin dE _ (SE.mono (fun p hp => List.mem_append_left _ (.tail _ hp))) (Nat.ne_of_gt hcE)
          replace SO := thin dO _ (SO.mono (fun p hp => List.mem_append_left _ (.tail _ hp))) (Nat.ne_of_gt hcO)
          obtain ⟨dV, eV⟩ : ∃ d, d = dS := ⟨_, rfl⟩
          subst eV
          clear F5 N5 SS lS NQ SQ neQ keep thin r8
          repeat (rename _ < _ ∧ _ < _ ∧ AllLt _ e11 => zz9; clear zz9)
          k_with_none
          k_with "zz6" => first | with_reducible assumption | (refine' all_ne ?zz6_x9 ?zz6_y9; (case zz6_x9 => assumption); (case zz6_y9 => ((try dsimp only); omega))) | (refine' all_ne' ?zz6_x9 ?zz6_y9; (case zz6_x9 => assumption); (case zz6_y9 => ((try dsimp only); omega)))
          k_with "zz5" => ((with_reducible refine inCells ?_); name_kind "cell"; k_dflt (refine' ldCN ?zz5_N ?zz5_c ?zz5_m ?zz5_d ?_ ?zz5_a ?zz5_b; (case zz5_a => rfl); (case zz5_b => rfl); (case zz5_N => k_asm); (case zz5_c => rfl); (case zz5_m => (((repeat (first | with_reducible assumption | with_reducible exact List.mem_cons_self | with_reducible refine List.mem_cons_of_mem _ ?_)); done))); (case zz5_d => with_reducible assumption)))
          k_with "zz7" => ((with_reducible show wpAny _ _ (eval (Expr.Name _ _) (compEnvC _ _ _ _)) _ _ _); k_dflt (refine' ldKN ?zz7_N ?zz7_a ?zz7_b ?zz7_c ?zz7_m ?zz7_d ?_ ?zz7_e; (case zz7_N => k_asm); (case zz7_a => exact rfl); (case zz7_b => exact rfl); (case zz7_c => exact rfl); (case zz7_m => (((repeat (first | with_reducible assumption | with_reducible exact List.mem_cons_self | with_reducible refine List.mem_cons_of_mem _ ?_)); done))); (case zz7_d => with_reducible assumption); (case zz7_e => decide)))
          k_with "call ref" => (k_dflt (refine' Call.use (gmul_spec w _ _ _ (facL va) (putAll [((1, vb), 1)] othL) ?Sa ?Sb ?l1 ?l2 ?hc) ?k1 ?k2 ?k3 ?k4 ?k5 ?kK ?kd ?ku ?_; (case k1 => k_asm); (case k2 => k_asm); (case k3 => k_asm); (case k4 => k_asm); (case k5 => k_asm); (case kK => exact rfl); (case kd => ktr_room); (case ku => ktr_units); (case Sa => exact SV.mono (fun p hp => by (((repeat (first | with_reducible assumption | with_reducible exact List.mem_cons_self | with_reducible refine List.mem_cons_of_mem _ ?_)); done)))); (case Sb => exact SO.mono (fun p hp => by (((repeat (first | with_reducible assumption | with_reducible exact List.mem_cons_self | with_reducible refine List.mem_cons_of_mem _ ?_)); done)))); (case l1 => exact (show 2 ≤ 100 by decide)); (case l2 => exact Nat.le_trans (putAll_length _ _) (show 2 + 1 ≤ 100 by decide)); (case hc => exact muls_a ha1 ha4 hb1 hb2 (by assumption)); (intro dG nG hsG ltG SG hG tkG FG NG); (try dsimp only at NG); (have ccG := hsG (sL.heap.objs.size + 1, _) (.head _)); (have hpG := hsG _ (.tail _ hps)); (have htG := hsG _ (.tail _ hT2))))
          k_with "my eq" => ((with_reducible refine sealOut ?_); k_dflt (refine sum_eqS (by ktr_units) X0 (by k_asm) (by k_asm) (SG.mono (fun p hp => by (((repeat (first | with_reducible assumption | with_reducible exact List.mem_cons_self | with_reducible refine List.mem_cons_of_mem _ ?_)); done)))) (SE.mono (fun p hp => by have hq := hsG p (by (((repeat (first | with_reducible assumption | with_reducible exact List.mem_cons_self | with_reducible refine List.mem_cons_of_mem _ ?_)); done))); (((repeat (first | with_reducible assumption | with_reducible exact List.mem_cons_self | with_reducible refine List.mem_cons_of_mem _ ?_)); done)))) (prod_a ha1 ha4 hb1 hb2 (by assumption)).1 (prod_a ha1 ha4 hb1 hb2 (by assumption)).2 ?_))
          k_with "my grown" => (k_dflt (exact ⟨GrownAt.of (by k_asm) hpG, GrownAt.of (by k_asm) htG, True.intro⟩))
          k_steps
          refine hQ0 _ _ ?_
          k_steps
      · unfold StopHere
        rename Fr (ghostOf _ _) _ _ _ => F5
        rename News (ghostOf _ _) _ _ _ => N5
        refine ⟨[((2, 0), 2 * va), ((1, 0), 2 - va)], _, F5, N5, SS.mono (fun p hp => by (((repeat (first | with_reducible assumption | with_reducible exact List.mem_cons_self | with_reducible refine List.mem_cons_of_mem _ ?_)); done))), ⟨⟨_, _, rfl, rfl, ⟨_, _, _, _, _, .inr (by (((repeat (first | with_reducible assumption | with_reducible exact List.mem_cons_self | with_reducible refine List.mem_cons_of_mem _ ?_)); done))), .inr (by (((repeat (first | with_reducible assumption | with_reducible exact List.mem_cons_self | with_reducible refine List.mem_cons_of_mem _ ?_)); done))), ⟨_, _, _, .inr (by (((repeat (first | with_reducible assumption | with_reducible exact List.mem_cons_self | with_reducible refine List.mem_cons_of_mem _ ?_)); done)))⟩⟩, ⟨_, _, _, .inr (by (((repeat (first | with_reducible assumption | with_reducible exact List.mem_cons_self | with_reducible refine List.mem_cons_of_mem _ ?_)); done)))⟩⟩, ⟨_, _, rfl, rfl, x_at w _, ⟨_, _, _, .inr (by (((repeat (first | with_reducible assumption | with_reducible exact List.mem_cons_self | with_reducible refine List.mem_cons_of_mem _ ?_)); done)))⟩⟩, trivial⟩, (fun p hp => by (((repeat (first | with_reducible assumption | with_reducible exact List.mem_cons_self | with_reducible refine List.mem_cons_of_mem _ ?_)); done))), ?_⟩
        intro hQ tkQ extQ FQ NQ SQ neQ
        rw [put_two' (2, 0) (1, 0) (2 * va) (2 - va) (by decide)] at SQ
        obtain ⟨e6, N7, r3, keep, thin, -⟩ := front1 (w := w) (c1 := sL.heap.objs.size + 1) NQ (List.mem_append_left _ (.head _)) (.cell (by with_reducible assumption))
        have D2 := thin dS _ SQ (Nat.ne_of_gt (lS (sL.heap.objs.size + 1, _) (.head _)))
        have D1 := thin dD _ (D1.mono (fun p hp => List.mem_append_left _ (.tail _ hp))) (Nat.ne_of_gt hdc)
        have hps := keep _ (List.mem_append_left _ (.tail _ hps)) (show @Ne Nat 147 (sL.heap.objs.size + 1) by omega)
        have hT2 := keep (152, tabObj ps2) (List.mem_append_left _ (.tail _ hT2)) (show @Ne Nat 152 (sL.heap.objs.size + 1) by omega)
        have hDS : dD ≠ dS := Nat.ne_of_lt (let ⟨_, _, _, q, _⟩ := D1o; lS (dD, _) (.tail _ q))
        obtain ⟨dU, eU⟩ : ∃ d, d = dS := ⟨_, rfl⟩
        subst eU
        clear F5 N5 SS lS NQ SQ neQ keep thin r2
        repeat (rename _ < _ ∧ _ < _ ∧ AllLt _ e5 => zz9; clear zz9)
        k_with_none
        k_with "zz6" => first | with_reducible assumption | (refine' all_ne ?zz6_x9 ?zz6_y9; (case zz6_x9 => assumption); (case zz6_y9 => ((try dsimp only); omega))) | (refine' all_ne' ?zz6_x9 ?zz6_y9; (case zz6_x9 => assumption); (case zz6_y9 => ((try dsimp only); omega)))
        k_with "zz5" => ((with_reducible refine inCells ?_); name_kind "cell"; k_dflt (refine' ldCN ?zz5_N ?zz5_c ?zz5_m ?zz5_d ?_ ?zz5_a ?zz5_b; (case zz5_a => rfl); (case zz5_b => rfl); (case zz5_N => k_asm); (case zz5_c => rfl); (case zz5_m => (((repeat (first | with_reducible assumption | with_reducible exact List.mem_cons_self | with_reducible refine List.mem_cons_of_mem _ ?_)); done))); (case zz5_d => with_reducible assumption)))
        k_with "zz7" => ((with_reducible show wpAny _ _ (eval (Expr.Name _ _) (compEnvC _ _ _ _)) _ _ _); k_dflt (refine' ldKN ?zz7_N ?zz7_a ?zz7_b ?zz7_c ?zz7_m ?zz7_d ?_ ?zz7_e; (case zz7_N => k_asm); (case zz7_a => exact rfl); (case zz7_b => exact rfl); (case zz7_c => exact rfl); (case zz7_m => (((repeat (first | with_reducible assumption | with_reducible exact List.mem_cons_self | with_reducible refine List.mem_cons_of_mem _ ?_)); done))); (case zz7_d => with_reducible assumption); (case zz7_e => decide)))
        k_with "call builtin:dict.update" => (k_dflt (refine StopHere.out ?_))
        k_steps
        unfold StopHere
        refine update_sum (by ktr_units) X0 FQ N7 (D1.mono (fun p hp => .tail _ hp)) (D2.mono (fun p hp => .tail _ hp)) hDS (List.cons_ne_nil _ _) (List.cons_ne_nil _ _) (show 3 + 2 ≤ 100000 by decide) ?_
        intro hU nU FU NU SU stU
        obtain ⟨e7, N8, r4, keep, thin, -⟩ := front1 (w := w) (c1 := sL.heap.objs.size + 1) NU (stU.2 _ (.head _) (Nat.ne_of_lt hdc)) (.cell (by with_reducible assumption))
        have D3 := thin dD _ SU (Nat.ne_of_gt hdc)
        have hps := keep _ (stU.2 _ (.tail _ hps) (show @Ne Nat 147 dD by omega)) (show @Ne Nat 147 (sL.heap.objs.size + 1) by omega)
        have hT2 := keep (152, tabObj ps2) (stU.2 _ (.tail _ hT2) (show @Ne Nat 152 dD by omega)) (show @Ne Nat 152 (sL.heap.objs.size + 1) by omega)
        clear FQ N7 D1 D2 NU SU stU keep thin r3 D1o
        k_with_none
        k_with "zz6" => first | with_reducible assumption | (refine' all_ne ?zz6_x9 ?zz6_y9; (case zz6_x9 => assumption); (case zz6_y9 => ((try dsimp only); omega))) | (refine' all_ne' ?zz6_x9 ?zz6_y9; (case zz6_x9 => assumption); (case zz6_y9 => ((try dsimp only); omega)))
        k_with "zz5" => ((with_reducible refine inCells ?_); name_kind "cell"; k_dflt (refine' ldCN ?zz5_N ?zz5_c ?zz5_m ?zz5_d ?_ ?zz5_a ?zz5_b; (case zz5_a => rfl); (case zz5_b => rfl); (case zz5_N => k_asm); (case zz5_c => rfl); (case zz5_m => (((repeat (first | with_reducible assumption | with_reducible exact List.mem_cons_self | with_reducible refine List.mem_cons_of_mem _ ?_)); done))); (case zz5_d => with_reducible assumption)))
        k_with "zz7" => ((with_reducible show wpAny _ _ (eval (Expr.Name _ _) (compEnvC _ _ _ _)) _ _ _); k_dflt (refine' ldKN ?zz7_N ?zz7_a ?zz7_b ?zz7_c ?zz7_m ?zz7_d ?_ ?zz7_e; (case zz7_N => k_asm); (case zz7_a => exact rfl); (case zz7_b => exact rfl); (case zz7_c => exact rfl); (case zz7_m => (((repeat (first | with_reducible assumption | with_reducible exact List.mem_cons_self | with_reducible refine List.mem_cons_of_mem _ ?_)); done))); (case zz7_d => with_reducible assumption); (case zz7_e => decide)))
        k_with "my adcomp" => (k_dflt (refine wpAny_Assign_Name ?_))
        k_with "my dcomp" => (k_dflt (refine DictComp_filter (by exact rfl) (by decide) (by exact rfl) (by decide) (by exact rfl) ?_ (by exact fun _ => rfl)))
        k_with "my src" => (k_dflt (refine StopHere.out ?_))
        k_steps
        unfold StopHere
        refine ⟨_, _, _, _, dD, _, rfl, rfl, by ktr_units, X0, TopRead.nolimit (by k_asm), FU, N8, D3.mono (fun p hp => .tail _ hp), Nat.le_trans (putAll_length _ _) (show 3 + 2 ≤ 1000 by decide), ?turnb, ?finb⟩
        case turnb =>
          intro k c a C oC I oI D4 m₂ n₁ l₁ h tk E' hk4 hP4 K4 S4 hI4 hC4 nC4 hm4 F9 N9 S9
          have cc1 := hP4 (sL.heap.objs.size + 1, _) (.head _)
          show wpAny _ _ _ _ _ _
          (try k_fold)
          k_with_none
          k_with "zz6" => first | with_reducible assumption | (refine' all_ne ?zz6_x9 ?zz6_y9; (case zz6_x9 => assumption); (case zz6_y9 => ((try dsimp only); omega))) | (refine' all_ne' ?zz6_x9 ?zz6_y9; (case zz6_x9 => assumption); (case zz6_y9 => ((try dsimp only); omega)))
          k_with "zz5" => ((with_reducible refine inCells ?_); name_kind "cell"; k_dflt (refine' ldCN ?zz5_N ?zz5_c ?zz5_m ?zz5_d ?_ ?zz5_a ?zz5_b; (case zz5_a => rfl); (case zz5_b => rfl); (case zz5_N => k_asm); (case zz5_c => rfl); (case zz5_m => (((repeat (first | with_reducible assumption | with_reducible exact List.mem_cons_self | with_reducible refine List.mem_cons_of_mem _ ?_)); done))); (case zz5_d => with_reducible assumption)))
          k_with "zz7" => ((with_reducible show wpAny _ _ (eval (Expr.Name _ _) (compEnvC _ _ _ _)) _ _ _); k_dflt (refine' ldKN ?zz7_N ?zz7_a ?zz7_b ?zz7_c ?zz7_m ?zz7_d ?_ ?zz7_e; (case zz7_N => k_asm); (case zz7_a => exact rfl); (case zz7_b => exact rfl); (case zz7_c => exact rfl); (case zz7_m => (((repeat (first | with_reducible assumption | with_reducible exact List.mem_cons_self | with_reducible refine List.mem_cons_of_mem _ ?_)); done))); (case zz7_d => with_reducible assumption); (case zz7_e => decide)))
          k_with "my sub" => (k_dflt (refine item_sum (by ktr_units) (by k_asm) (by k_asm) (by k_asm) (S4.mono (fun p hp => by (((repeat (first | with_reducible assumption | with_reducible exact List.mem_cons_self | with_reducible refine List.mem_cons_of_mem _ ?_)); done)))) (K4.tk (TK.of (fun p hp => by (((repeat (first | with_reducible assumption | with_reducible exact List.mem_cons_self | with_reducible refine List.mem_cons_of_mem _ ?_)); done))))) hk4 ?_ (by with_unfolding_all rfl) (by intro _; rfl)); intro ra4 tka4 Ra4)
          k_with "my ne" => (k_dflt (refine rat_ne (by ktr_units) X0 (by k_asm) (by k_asm) (Ra4.mono (fun p hp => by (((repeat (first | with_reducible assumption | with_reducible exact List.mem_cons_self | with_reducible refine List.mem_cons_of_mem _ ?_)); done)))) ⟨_, _, _, .inr (by (((repeat (first | with_reducible assumption | with_reducible exact List.mem_cons_self | with_reducible refine List.mem_cons_of_mem _ ?_)); done)))⟩ ?_))
          k_steps
          · refine' ⟨_, _, k, c, _, _, _, rfl, rfl, rfl, ?eFb, ?eNb, ?esubb, ?eKb, ?eRb, rfl, ?ePb⟩
            case eFb => k_asm
            case eNb => k_asm
            case esubb => exact fun p hp => by (((repeat (first | with_reducible assumption | with_reducible exact List.mem_cons_self | with_reducible refine List.mem_cons_of_mem _ ?_)); done))
            case eKb => exact K4.tk (TK.of (fun p hp => by (((repeat (first | with_reducible assumption | with_reducible exact List.mem_cons_self | with_reducible refine List.mem_cons_of_mem _ ?_)); done))))
            case eRb => exact Ra4
            case ePb => exact fun p hp => by have hq := hP4 p hp; (((repeat (first | with_reducible assumption | with_reducible exact List.mem_cons_self | with_reducible refine List.mem_cons_of_mem _ ?_)); done))
          · refine' ⟨_, _, _, rfl, ?sFb, ?sNb, ?ssubb, rfl, ?sPb⟩
            case sFb => k_asm
            case sNb => k_asm
            case ssubb => exact fun p hp => by (((repeat (first | with_reducible assumption | with_reducible exact List.mem_cons_self | with_reducible refine List.mem_cons_of_mem _ ?_)); done))
            case sPb => exact fun p hp => by have hq := hP4 p hp; (((repeat (first | with_reducible assumption | with_reducible exact List.mem_cons_self | with_reducible refine List.mem_cons_of_mem _ ?_)); done))
        case finb =>
          intro dE h tk n₁ F9 N9 S9 hP9 lt9
          obtain ⟨e8, N10, r5, keep, thin, -⟩ := front1 (w := w) (c1 := sL.heap.objs.size + 1) N9 (hP9 (sL.heap.objs.size + 1, _) (.head _)) (.cell (by with_reducible assumption))
          have hcE : @LT.lt Nat _ (sL.heap.objs.size + 1) dE := lt9 (sL.heap.objs.size + 1, _) (.head _)
          have SE := thin dE _ S9 (Nat.ne_of_gt hcE)
          replace hps := keep _ (hP9 _ (.tail _ hps)) (show @Ne Nat 147 (sL.heap.objs.size + 1) by omega)
          replace hT2 := keep _ (hP9 _ (.tail _ hT2)) (show @Ne Nat 152 (sL.heap.objs.size + 1) by omega)
          clear N8 FU D3 N9 S9 keep thin lt9 hP9 r4
          k_with_none
          k_with "zz6" => first | with_reducible assumption | (refine' all_ne ?zz6_x9 ?zz6_y9; (case zz6_x9 => assumption); (case zz6_y9 => ((try dsimp only); omega))) | (refine' all_ne' ?zz6_x9 ?zz6_y9; (case zz6_x9 => assumption); (case zz6_y9 => ((try dsimp only); omega)))
          k_with "zz5" => ((with_reducible refine inCells ?_); name_kind "cell"; k_dflt (refine' ldCN ?zz5_N ?zz5_c ?zz5_m ?zz5_d ?_ ?zz5_a ?zz5_b; (case zz5_a => rfl); (case zz5_b => rfl); (case zz5_N => k_asm); (case zz5_c => rfl); (case zz5_m => (((repeat (first | with_reducible assumption | with_reducible exact List.mem_cons_self | with_reducible refine List.mem_cons_of_mem _ ?_)); done))); (case zz5_d => with_reducible assumption)))
          k_with "zz7" => ((with_reducible show wpAny _ _ (eval (Expr.Name _ _) (compEnvC _ _ _ _)) _ _ _); k_dflt (refine' ldKN ?zz7_N ?zz7_a ?zz7_b ?zz7_c ?zz7_m ?zz7_d ?_ ?zz7_e; (case zz7_N => k_asm); (case zz7_a => exact rfl); (case zz7_b => exact rfl); (case zz7_c => exact rfl); (case zz7_m => (((repeat (first | with_reducible assumption | with_reducible exact List.mem_cons_self | with_reducible refine List.mem_cons_of_mem _ ?_)); done))); (case zz7_d => with_reducible assumption); (case zz7_e => decide)))
          k_with "my adict" => (k_dflt (refine StopHere.out ?_))
          show wpAny _ _ _ _ _ _
          (try k_fold)
          k_steps
          unfold StopHere
          rename Fr (ghostOf _ _) _ _ _ => F9
          rename News (ghostOf _ _) _ _ _ => N9
          k_with_none
          k_with "zz6" => first | with_reducible assumption | (refine' all_ne ?zz6_x9 ?zz6_y9; (case zz6_x9 => assumption); (case zz6_y9 => ((try dsimp only); omega))) | (refine' all_ne' ?zz6_x9 ?zz6_y9; (case zz6_x9 => assumption); (case zz6_y9 => ((try dsimp only); omega)))
          k_with "zz5" => ((with_reducible refine inCells ?_); name_kind "cell"; k_dflt (refine' ldCN ?zz5_N ?zz5_c ?zz5_m ?zz5_d ?_ ?zz5_a ?zz5_b; (case zz5_a => rfl); (case zz5_b => rfl); (case zz5_N => k_asm); (case zz5_c => rfl); (case zz5_m => (((repeat (first | with_reducible assumption | with_reducible exact List.mem_cons_self | with_reducible refine List.mem_cons_of_mem _ ?_)); done))); (case zz5_d => with_reducible assumption)))
          k_with "zz7" => ((with_reducible show wpAny _ _ (eval (Expr.Name _ _) (compEnvC _ _ _ _)) _ _ _); k_dflt (refine' ldKN ?zz7_N ?zz7_a ?zz7_b ?zz7_c ?zz7_m ?zz7_d ?_ ?zz7_e; (case zz7_N => k_asm); (case zz7_a => exact rfl); (case zz7_b => exact rfl); (case zz7_c => exact rfl); (case zz7_m => (((repeat (first | with_reducible assumption | with_reducible exact List.mem_cons_self | with_reducible refine List.mem_cons_of_mem _ ?_)); done))); (case zz7_d => with_reducible assumption); (case zz7_e => decide)))
          k_with "my display" => ((try k_fold); (with_reducible refine sealOut ?_); (k_dflt (refine' Dict_sumS ?y0 ?y1 ?y2 ?y3 (TopRead.nolimit (by k_asm)) ?y5 ?y6 ?y7 ?y8 ?_; (case y2 => k_asm); (case y3 => k_asm); (case y1 => k_asm); (case y0 => ktr_units); (case y5 => rfl); (case y6 => rfl); (case y7 => exact List.cons_ne_nil _ _); (case y8 => exact Nat.le_of_ble_eq_true rfl))); intro dS hS FS NS lS SS)
          k_with "my made" => (k_dflt (refine StopHere.out ?_))
          k_dflt (refine wpAny_Assign_Name ?_)
          k_steps
          unfold StopHere
          rename Fr (ghostOf _ _) _ _ _ => F5
          rename News (ghostOf _ _) _ _ _ => N5
          refine ⟨[((1, 0), 1), ((0, 0), -1)], _, F5, N5, SS.mono (fun p hp => by (((repeat (first | with_reducible assumption | with_reducible exact List.mem_cons_self | with_reducible refine List.mem_cons_of_mem _ ?_)); done))), ⟨⟨_, _, rfl, rfl, x_at w _, ⟨_, _, _, .inr (by (((repeat (first | with_reducible assumption | with_reducible exact List.mem_cons_self | with_reducible refine List.mem_cons_of_mem _ ?_)); done)))⟩⟩, ⟨_, _, rfl, rfl, still2_at w _, ⟨_, _, _, .inr (by (((repeat (first | with_reducible assumption | with_reducible exact List.mem_cons_self | with_reducible refine List.mem_cons_of_mem _ ?_)); done)))⟩⟩, trivial⟩, (fun p hp => by (((repeat (first | with_reducible assumption | with_reducible exact List.mem_cons_self | with_reducible refine List.mem_cons_of_mem _ ?_)); done))), ?_⟩
          intro hQ tkQ extQ FQ NQ SQ neQ
          rw [put_two' (1, 0) (0, 0) 1 (-1) (by decide)] at SQ
          obtain ⟨e9, N11, r6, keep, thin, -⟩ := front1 (w := w) (c1 := sL.heap.objs.size + 1) NQ (List.mem_append_left _ (.head _)) (.cell (by with_reducible assumption))
          have SO := thin dS _ SQ (Nat.ne_of_gt (lS (sL.heap.objs.size + 1, _) (.head _)))
          replace hps := keep _ (List.mem_append_left _ (.tail _ hps)) (show @Ne Nat 147 (sL.heap.objs.size + 1) by omega)
          replace hT2 := keep _ (List.mem_append_left _ (.tail _ hT2)) (show @Ne Nat 152 (sL.heap.objs.size + 1) by omega)
          have hEO : dE ≠ dS := Nat.ne_of_lt (let ⟨_, _, _, q, _⟩ := SE; lS (dE, _) (.tail _ q))
          replace SE := thin dE _ (SE.mono (fun p hp => List.mem_append_left _ (.tail _ hp))) (Nat.ne_of_gt hcE)
          have hcO : @LT.lt Nat _ (sL.heap.objs.size + 1) dS := lS (sL.heap.objs.size + 1, _) (.head _)
          obtain ⟨dO, eO⟩ : ∃ d, d = dS := ⟨_, rfl⟩
          subst eO
          clear F5 N5 SS lS NQ SQ neQ keep thin r5
          repeat (rename _ < _ ∧ _ < _ ∧ AllLt _ e8 => zz9; clear zz9)
          k_with_none
          k_with "zz6" => first | with_reducible assumption | (refine' all_ne ?zz6_x9 ?zz6_y9; (case zz6_x9 => assumption); (case zz6_y9 => ((try dsimp only); omega))) | (refine' all_ne' ?zz6_x9 ?zz6_y9; (case zz6_x9 => assumption); (case zz6_y9 => ((try dsimp only); omega)))
          k_with "zz5" => ((with_reducible refine inCells ?_); name_kind "cell"; k_dflt (refine' ldCN ?zz5_N ?zz5_c ?zz5_m ?zz5_d ?_ ?zz5_a ?zz5_b; (case zz5_a => rfl); (case zz5_b => rfl); (case zz5_N => k_asm); (case zz5_c => rfl); (case zz5_m => (((repeat (first | with_reducible assumption | with_reducible exact List.mem_cons_self | with_reducible refine List.mem_cons_of_mem _ ?_)); done))); (case zz5_d => with_reducible assumption)))
          k_with "zz7" => ((with_reducible show wpAny _ _ (eval (Expr.Name _ _) (compEnvC _ _ _ _)) _ _ _); k_dflt (refine' ldKN ?zz7_N ?zz7_a ?zz7_b ?zz7_c ?zz7_m ?zz7_d ?_ ?zz7_e; (case zz7_N => k_asm); (case zz7_a => exact rfl); (case zz7_b => exact rfl); (case zz7_c => exact rfl); (case zz7_m => (((repeat (first | with_reducible assumption | with_reducible exact List.mem_cons_self | with_reducible refine List.mem_cons_of_mem _ ?_)); done))); (case zz7_d => with_reducible assumption); (case zz7_e => decide)))
          k_with "my display" => (first | (exfalso; omega) | ((try k_fold); (with_reducible refine sealOut ?_); (k_dflt (refine' Dict_sumS ?y0 ?y1 ?y2 ?y3 (TopRead.nolimit (by k_asm)) ?y5 ?y6 ?y7 ?y8 ?_; (case y2 => k_asm); (case y3 => k_asm); (case y1 => k_asm); (case y0 => ktr_units); (case y5 => rfl); (case y6 => rfl); (case y7 => exact List.cons_ne_nil _ _); (case y8 => exact Nat.le_of_ble_eq_true rfl))); intro dS hS FS NS lS SS))
          k_with "my made" => (k_dflt (refine StopHere.out ?_))
          k_with "getMethod ref" => (k_dflt (refine getMethod_sum PySem.F.slot_dict_update PySem.F.type_dict_update (by k_asm) (SumAt.mono SO (fun p hp => by (((repeat (first | with_reducible assumption | with_reducible exact List.mem_cons_self | with_reducible refine List.mem_cons_of_mem _ ?_)); done)))) ?_))
          k_steps
          unfold StopHere
          rename Fr (ghostOf _ _) _ _ _ => F5
          rename News (ghostOf _ _) _ _ _ => N5
          refine ⟨[((1, 0), 2)], _, F5, N5, SS.mono (fun p hp => by (((repeat (first | with_reducible assumption | with_reducible exact List.mem_cons_self | with_reducible refine List.mem_cons_of_mem _ ?_)); done))), ⟨⟨_, _, rfl, rfl, x_at w _, ⟨_, _, _, .inr (by (((repeat (first | with_reducible assumption | with_reducible exact List.mem_cons_self | with_reducible refine List.mem_cons_of_mem _ ?_)); done)))⟩⟩, trivial⟩, (fun p hp => by (((repeat (first | with_reducible assumption | with_reducible exact List.mem_cons_self | with_reducible refine List.mem_cons_of_mem _ ?_)); done))), ?_⟩
          intro hQ tkQ extQ FQ NQ SQ neQ
          rw [put_one] at SQ
          obtain ⟨e10, N12, r7, keep, thin, -⟩ := front1 (w := w) (c1 := sL.heap.objs.size + 1) NQ (List.mem_append_left _ (.head _)) (.cell (by with_reducible assumption))
          have SV := thin dS _ SQ (Nat.ne_of_gt (lS (sL.heap.objs.size + 1, _) (.head _)))
          replace hps := keep _ (List.mem_append_left _ (.tail _ hps)) (show @Ne Nat 147 (sL.heap.objs.size + 1) by omega)
          replace hT2 := keep _ (List.mem_append_left _ (.tail _ hT2)) (show @Ne Nat 152 (sL.heap.objs.size + 1) by omega)
          have hOS : dO ≠ dS := Nat.ne_of_lt (let ⟨_, _, _, q, _⟩ := SO; lS (dO, _) (.tail _ q))
          replace SE := thin dE _ (SE.mono (fun p hp => List.mem_append_left _ (.tail _ hp))) (Nat.ne_of_gt hcE)
          replace SO := thin dO _ (SO.mono (fun p hp => List.mem_append_left _ (.tail _ hp))) (Nat.ne_of_gt hcO)
          obtain ⟨dV, eV⟩ : ∃ d, d = dS := ⟨_, rfl⟩
          subst eV
          clear F5 N5 SS lS NQ SQ neQ keep thin r6
          repeat (rename _ < _ ∧ _ < _ ∧ AllLt _ e9 => zz9; clear zz9)
          k_with_none
          k_with "zz6" => first | with_reducible assumption | (refine' all_ne ?zz6_x9 ?zz6_y9; (case zz6_x9 => assumption); (case zz6_y9 => ((try dsimp only); omega))) | (refine' all_ne' ?zz6_x9 ?zz6_y9; (case zz6_x9 => assumption); (case zz6_y9 => ((try dsimp only); omega)))
          k_with "zz5" => ((with_reducible refine inCells ?_); name_kind "cell"; k_dflt (refine' ldCN ?zz5_N ?zz5_c ?zz5_m ?zz5_d ?_ ?zz5_a ?zz5_b; (case zz5_a => rfl); (case zz5_b => rfl); (case zz5_N => k_asm); (case zz5_c => rfl); (case zz5_m => (((repeat (first | with_reducible assumption | with_reducible exact List.mem_cons_self | with_reducible refine List.mem_cons_of_mem _ ?_)); done))); (case zz5_d => with_reducible assumption)))
          k_with "zz7" => ((with_reducible show wpAny _ _ (eval (Expr.Name _ _) (compEnvC _ _ _ _)) _ _ _); k_dflt (refine' ldKN ?zz7_N ?zz7_a ?zz7_b ?zz7_c ?zz7_m ?zz7_d ?_ ?zz7_e; (case zz7_N => k_asm); (case zz7_a => exact rfl); (case zz7_b => exact rfl); (case zz7_c => exact rfl); (case zz7_m => (((repeat (first | with_reducible assumption | with_reducible exact List.mem_cons_self | with_reducible refine List.mem_cons_of_mem _ ?_)); done))); (case zz7_d => with_reducible assumption); (case zz7_e => decide)))
          k_with "call builtin:dict.update" => (k_dflt (refine StopHere.out ?_))
          k_steps
          unfold StopHere
          refine update_sum (by ktr_units) X0 FQ N12 (SO.mono (fun p hp => .tail _ hp)) (SV.mono (fun p hp => .tail _ hp)) hOS (List.cons_ne_nil _ _) (List.cons_ne_nil _ _) (show 2 + 1 ≤ 100000 by decide) ?_
          intro hU nU FU NU SU stU
          obtain ⟨e11, N13, r8, keep, thin, -⟩ := front1 (w := w) (c1 := sL.heap.objs.size + 1) NU (stU.2 _ (.head _) (Nat.ne_of_lt hcO)) (.cell (by with_reducible assumption))
          replace SE := thin dE _ ((SE.mono (fun p hp => .tail _ hp)).stp stU hEO) (Nat.ne_of_gt hcE)
          replace SO := thin dO _ SU (Nat.ne_of_gt hcO)
          replace hps := keep _ (stU.2 _ (.tail _ hps) (show @Ne Nat 147 dO by omega)) (show @Ne Nat 147 (sL.heap.objs.size + 1) by omega)
          replace hT2 := keep _ (stU.2 _ (.tail _ hT2) (show @Ne Nat 152 dO by omega)) (show @Ne Nat 152 (sL.heap.objs.size + 1) by omega)
          clear FQ N12 SV NU SU stU keep thin r7
          k_with_none
          k_with "zz6" => first | with_reducible assumption | (refine' all_ne ?zz6_x9 ?zz6_y9; (case zz6_x9 => assumption); (case zz6_y9 => ((try dsimp only); omega))) | (refine' all_ne' ?zz6_x9 ?zz6_y9; (case zz6_x9 => assumption); (case zz6_y9 => ((try dsimp only); omega)))
          k_with "zz5" => ((with_reducible refine inCells ?_); name_kind "cell"; k_dflt (refine' ldCN ?zz5_N ?zz5_c ?zz5_m ?zz5_d ?_ ?zz5_a ?zz5_b; (case zz5_a => rfl); (case zz5_b => rfl); (case zz5_N => k_asm); (case zz5_c => rfl); (case zz5_m => (((repeat (first | with_reducible assumption | with_reducible exact List.mem_cons_self | with_reducible refine List.mem_cons_of_mem _ ?_)); done))); (case zz5_d => with_reducible assumption)))
          k_with "zz7" => ((with_reducible show wpAny _ _ (eval (Expr.Name _ _) (compEnvC _ _ _ _)) _ _ _); k_dflt (refine' ldKN ?zz7_N ?zz7_a ?zz7_b ?zz7_c ?zz7_m ?zz7_d ?_ ?zz7_e; (case zz7_N => k_asm); (case zz7_a => exact rfl); (case zz7_b => exact rfl); (case zz7_c => exact rfl); (case zz7_m => (((repeat (first | with_reducible assumption | with_reducible exact List.mem_cons_self | with_reducible refine List.mem_cons_of_mem _ ?_)); done))); (case zz7_d => with_reducible assumption); (case zz7_e => decide)))
          k_with "my display" => ((try k_fold); (with_reducible refine sealOut ?_); (k_dflt (refine' Dict_sumS ?y0 ?y1 ?y2 ?y3 (TopRead.nolimit (by k_asm)) ?y5 ?y6 ?y7 ?y8 ?_; (case y2 => k_asm); (case y3 => k_asm); (case y1 => k_asm); (case y0 => ktr_units); (case y5 => rfl); (case y6 => rfl); (case y7 => exact List.cons_ne_nil _ _); (case y8 => exact Nat.le_of_ble_eq_true rfl))); intro dS hS FS NS lS SS)
          k_with "my made" => (k_dflt (refine StopHere.out ?_))
          show wpAny _ _ _ _ _ _
          (try k_fold)
          k_steps
          unfold StopHere
          rename Fr (ghostOf _ _) _ _ _ => F5
          rename News (ghostOf _ _) _ _ _ => N5
          refine ⟨[((1, 0), va), ((0, 0), 1)], _, F5, N5, SS.mono (fun p hp => by (((repeat (first | with_reducible assumption | with_reducible exact List.mem_cons_self | with_reducible refine List.mem_cons_of_mem _ ?_)); done))), ⟨⟨_, _, rfl, rfl, x_at w _, ⟨_, _, _, .inr (by (((repeat (first | with_reducible assumption | with_reducible exact List.mem_cons_self | with_reducible refine List.mem_cons_of_mem _ ?_)); done)))⟩⟩, ⟨_, _, rfl, rfl, still2_at w _, ⟨_, _, _, .inr (by (((repeat (first | with_reducible assumption | with_reducible exact List.mem_cons_self | with_reducible refine List.mem_cons_of_mem _ ?_)); done)))⟩⟩, trivial⟩, (fun p hp => by (((repeat (first | with_reducible assumption | with_reducible exact List.mem_cons_self | with_reducible refine List.mem_cons_of_mem _ ?_)); done))), ?_⟩
          intro hQ tkQ extQ FQ NQ SQ neQ
          rw [put_two' (1, 0) (0, 0) va 1 (by decide)] at SQ
          obtain ⟨e12, N14, r9, keep, thin, -⟩ := front1 (w := w) (c1 := sL.heap.objs.size + 1) NQ (List.mem_append_left _ (.head _)) (.cell (by with_reducible assumption))
          have SV := thin dS _ SQ (Nat.ne_of_gt (lS (sL.heap.objs.size + 1, _) (.head _)))
          replace hps := keep _ (List.mem_append_left _ (.tail _ hps)) (show @Ne Nat 147 (sL.heap.objs.size + 1) by omega)
          replace hT2 := keep _ (List.mem_append_left _ (.tail _ hT2)) (show @Ne Nat 152 (sL.heap.objs.size + 1) by omega)
          replace SE := thin dE _ (SE.mono (fun p hp => List.mem_append_left _ (.tail _ hp))) (Nat.ne_of_gt hcE)
          replace SO := thin dO _ (SO.mono (fun p hp => List.mem_append_left _ (.tail _ hp))) (Nat.ne_of_gt hcO)
          obtain ⟨dV, eV⟩ : ∃ d, d = dS := ⟨_, rfl⟩
          subst eV
          clear F5 N5 SS lS NQ SQ neQ keep thin r8
          repeat (rename _ < _ ∧ _ < _ ∧ AllLt _ e11 => zz9; clear zz9)
          k_with_none
          k_with "zz6" => first | with_reducible assumption | (refine' all_ne ?zz6_x9 ?zz6_y9; (case zz6_x9 => assumption); (case zz6_y9 => ((try dsimp only); omega))) | (refine' all_ne' ?zz6_x9 ?zz6_y9; (case zz6_x9 => assumption); (case zz6_y9 => ((try dsimp only); omega)))
          k_with "zz5" => ((with_reducible refine inCells ?_); name_kind "cell"; k_dflt (refine' ldCN ?zz5_N ?zz5_c ?zz5_m ?zz5_d ?_ ?zz5_a ?zz5_b; (case zz5_a => rfl); (case zz5_b => rfl); (case zz5_N => k_asm); (case zz5_c => rfl); (case zz5_m => (((repeat (first | with_reducible assumption | with_reducible exact List.mem_cons_self | with_reducible refine List.mem_cons_of_mem _ ?_)); done))); (case zz5_d => with_reducible assumption)))
          k_with "zz7" => ((with_reducible show wpAny _ _ (eval (Expr.Name _ _) (compEnvC _ _ _ _)) _ _ _); k_dflt (refine' ldKN ?zz7_N ?zz7_a ?zz7_b ?zz7_c ?zz7_m ?zz7_d ?_ ?zz7_e; (case zz7_N => k_asm); (case zz7_a => exact rfl); (case zz7_b => exact rfl); (case zz7_c => exact rfl); (case zz7_m => (((repeat (first | with_reducible assumption | with_reducible exact List.mem_cons_self | with_reducible refine List.mem_cons_of_mem _ ?_)); done))); (case zz7_d => with_reducible assumption); (case zz7_e => decide)))
          k_with "call ref" => (k_dflt (refine' Call.use (gmul_spec w _ _ _ (facL va) (putAll [((1, 0), 2)] othL) ?Sa ?Sb ?l1 ?l2 ?hc) ?k1 ?k2 ?k3 ?k4 ?k5 ?kK ?kd ?ku ?_; (case k1 => k_asm); (case k2 => k_asm); (case k3 => k_asm); (case k4 => k_asm); (case k5 => k_asm); (case kK => exact rfl); (case kd => ktr_room); (case ku => ktr_units); (case Sa => exact SV.mono (fun p hp => by (((repeat (first | with_reducible assumption | with_reducible exact List.mem_cons_self | with_reducible refine List.mem_cons_of_mem _ ?_)); done)))); (case Sb => exact SO.mono (fun p hp => by (((repeat (first | with_reducible assumption | with_reducible exact List.mem_cons_self | with_reducible refine List.mem_cons_of_mem _ ?_)); done)))); (case l1 => exact (show 2 ≤ 100 by decide)); (case l2 => exact Nat.le_trans (putAll_length _ _) (show 2 + 1 ≤ 100 by decide)); (case hc => exact muls_b ha1 ha4); (intro dG nG hsG ltG SG hG tkG FG NG); (try dsimp only at NG); (have ccG := hsG (sL.heap.objs.size + 1, _) (.head _)); (have hpG := hsG _ (.tail _ hps)); (have htG := hsG _ (.tail _ hT2))))
          k_with "my eq" => ((with_reducible refine sealOut ?_); k_dflt (refine sum_eqS (by ktr_units) X0 (by k_asm) (by k_asm) (SG.mono (fun p hp => by (((repeat (first | with_reducible assumption | with_reducible exact List.mem_cons_self | with_reducible refine List.mem_cons_of_mem _ ?_)); done)))) (SE.mono (fun p hp => by have hq := hsG p (by (((repeat (first | with_reducible assumption | with_reducible exact List.mem_cons_self | with_reducible refine List.mem_cons_of_mem _ ?_)); done))); (((repeat (first | with_reducible assumption | with_reducible exact List.mem_cons_self | with_reducible refine List.mem_cons_of_mem _ ?_)); done)))) (prod_b ha1 ha4).1 (prod_b ha1 ha4).2 ?_))
          k_with "my grown" => (k_dflt (exact ⟨GrownAt.of (by k_asm) hpG, GrownAt.of (by k_asm) htG, True.intro⟩))
          k_steps
          refine hQ0 _ _ ?_
          k_steps)
end Mine
end

set_option maxRecDepth 100000 in
theorem PySem.Challenge.cw_rh0021_01_holds : PySem.Challenge.rw_rh0021_01.Holds := by
  exact Mine.law_holds
