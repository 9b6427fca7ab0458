import PyProof.Rows.All
import Wide.All
import Open.Fors
import OpenK.KSplit
import OpenK.KNot
import OpenK.KApp
import KE.KPop
import KE.KListMore
import KE.RegKMod
import KE.KDictOf
import KE.KDictMeth
import KE.KEqSeq
import KE.KSlice
import KE.GnPush
import KE.KSorted
import KE.KJoinElse
import KE.RegTryLedger
import KE.KTops
import KE.RegKSuper
import KE.KSort
import KE.KDictLoop
import KE.RegLcTurns
import KE.RegLcAnyAll
import KE.KCat
import KE.KTemps
import KE.KTup
import KE.KxMul
import KE.KxSplit
import KE.KxIndex
import KE.KxText
import KE.KCells
import KE.KPassesOwn
import KE.RegKIsNot
import KE.KTempsTwo
import KE.KSetInts
import KE.KSortedL
import KE.KxBytes
import KE.KClos
import KE.KNestStore
import KE.KOwnIter
import KE.KStopIter
import KE.RegKBase
import KE.KDictOne
import KE.RegKMathG
import KE.KDictAny
import KE.RegKCallOwn
import KE.KSliceW
import KE.KxDecode
import KE.RegKMathGB
import KE.KLam
import KE.KDictBranch
import KE.KTree
import KE.KTreeB
import KE.KNestM
import KE.KDflt
import KE.KOwnIterCall
import KE.KSortedM
import KE.KTurns
import KE.KEqText
import KE.KxLen
import KE.RegKMathGC
import KE.KIsClose
import KE.KEqDict
import KE.KDisp
import KE.KDictAnyGet
import KE.KDictObj
import KE.KSetIn
import KE.KRevSl
import KE.KEqDeep
import KE.KAnyBase
import KE.KBoundM
import KE.KWhile
import KE.KRevIter
import KE.KCount
import KE.KTreeR
import KE.KxStill
import KE.KFinally
import KE.KTopLam
import KE.KWithOwn
import KE.KCases
import KE.KOpsOwn
import KE.KDictNew
import KE.KDictList
import KE.KDictIter
import KE.RegKUnpackStar
import KE.KSortAsk
import KE.KWhileD
import KE.KLcTest
import KE.KSumEnd
import KE.KPopAny
import KE.KGrown
import KE.KItemAt
import KE.KTextLit
import KE.KTupDict
import KE.KFmtOwn
import KE.KUnrMore
import KE.KMinKey
import KE.KTurnsDict
import KE.KExtendNil
import KE.KMethU
import KE.BytesMul
import KE.KCompFold
import KE.KDictSum
import KE.KDictName
import KE.KDictSym
import KE.KTurnsAny
import KE.KDictAnyTail
import KE.RegKStar
import KE.RegKParD
import KE.RegKTupTruth
import KE.RegKTupSum
import KE.KCallJoin
import KE.KMethJoin
import KE.KPathRangeEnd
import KE.KStateW
import KE.RegKParC
import KE.KxWritten
import KE.KxAdd
import KE.KxAffix
import KE.KxField
import KE.RegKIsAll
import KE.RegKMatchCls
import KE.KLcPair
import KE.RegKTryDeep
import KE.KJoinL
import KE.RegKNeg
import KE.KxPercentT
import KE.KBytesCut
import KE.KCellOne
import KE.KCompIf
import KE.KMenu
import KE.KxFormat
import KE.KTypeName
import KE.KCompText
import KE.BytesMulAny
import KE.KDictSymLen
import KE.KSortTup
import KE.KPairAssign
import KE.KTypeOf
import KE.KFinEnd
import KE.KMulAny
import KE.KBytesMenu
import KE.KTextDict
import KE.KPathShort
import KE.KSplitRange
import KE.KKinds
import KE.KxPart
import KE.KRangeItem
import KE.KDictLetter
import KE.KRangeNest
import KE.KSetAt
import KE.KWords
import KE.KxTruthy
import KE.KPairRows
import KE.KBytesMore
import KE.RegKStateDown
import KE.KItemsList
import KE.KRangePlain
import KE.KStateGiven
import KE.KBitsMul
import KE.KTextTable
import KE.KForList
import KE.KIdxIf
import KE.KAssignIn
import KE.KFirstTurn
import KE.KOwnRange
import KE.KLooksOwn
import KE.KDictWord
import KE.KStrOpen
import KE.KTurnsGround
import KE.KListEnd
import KE.KSearch
import KE.KFinFacts
import KE.RegKTryOn
import KE.KCenter
import KE.KStrWords
import KE.KStateTextK
import KE.KBools
import KE.KStateWGiven
import KE.KData
import KE.KCallTup
import KE.KTreeD
import KE.KTreeF
import KE.KEndWord
import KE.KStateBytes
import KE.KRangeEnd
import KE.KOf
import KE.KRepItem
import KE.KListLetter
import KE.KSliceSign
import KE.KCallBy
import KE.KToBytes
import KE.KPathText
import KE.KMinBuiltin
import KE.KFromBytes
import KE.KEqDat
import KE.KBytesUnr
import KE.KIsBytes
import KE.KCallRec
import KE.KEndW
import KE.RegLGe
import KE.RegLGeC
import Wide.FinOn
import Wide.FinOn
import Lean
import PySem.Challenge.RW_xm0767_01
open PySem PySem.Calls PySem.W PyProof.Rows
set_option Elab.async false
set_option maxRecDepth 100000
namespace Mine
theorem both {P P' P'' Q : Prop} (hl : P) (hw : P') (hc : P'') (main : Q) : Q := (fun _ _ _ => main) hl hw hc
set_option maxHeartbeats 8000000 in
theorem kept (no : False) : True := by
  have all : PySem.Challenge.rw_xm0767_01.Holds := ensure_expected_type% "" (by exact ?walk9 : type_of% (let_mvar% ?walk9 := (by
    w_on
    refine holds_law (by exact no.elim) fun said => ?_
    apply both
    case main => k_head
    all_goals exact no.elim
    : _); ?walk9))
  trivial
local macro_rules | `(tactic| walk_at $s:str) => `(tactic| k_extra $s)
local macro_rules | `(tactic| k_mem) => `(tactic| k_extra "k_mem")
local macro_rules | `(tactic| k_all) => `(tactic| k_extra "k_all")
local macro_rules | `(tactic| k_room) => `(tactic| k_extra "k_room")
local macro_rules | `(tactic| k_units) => `(tactic| k_extra "k_units")
local macro_rules | `(tactic| k_handed) => `(tactic| k_extra "k_handed")
local macro_rules | `(tactic| size_fits) => `(tactic| k_extra "size_fits")
local macro_rules | `(tactic| ktr_room) => `(tactic| k_extra "ktr_room")
local macro_rules | `(tactic| ktr_units) => `(tactic| k_extra "ktr_units")
local macro_rules | `(tactic| k_in) => `(tactic| k_extra "k_in")
def AllIn (n : List (Addr × Obj)) : List (Addr × Obj) → Prop
  | [] => True
  | p :: r => p ∈ n ∧ AllIn n r
theorem allIn_of {n : List (Addr × Obj)} : ∀ {l : List (Addr × Obj)}, (∀ p ∈ l, p ∈ n) → AllIn n l
  | [], _ => trivial
  | p :: _, h => ⟨h p (.head _), allIn_of fun q hq => h q (.tail _ hq)⟩
theorem AllIn.hd {n r : List (Addr × Obj)} {p : Addr × Obj} (h : AllIn n (p :: r)) : p ∈ n := h.1
theorem AllIn.tl {n r : List (Addr × Obj)} {p : Addr × Obj} (h : AllIn n (p :: r)) : AllIn n r := h.2
theorem AllIn.sub {n : List (Addr × Obj)} : ∀ {l : List (Addr × Obj)}, AllIn n l → ∀ p ∈ l, p ∈ n := by
  intro l
  induction l with
  | nil => exact fun _ p h => absurd h List.not_mem_nil
  | cons a r ih =>
    intro h p hp
    rcases List.mem_cons.mp hp with rfl | hp
    · exact h.1
    · exact ih h.2 p hp
theorem l9_one {a d : Addr} {o : Obj} {r : List (Addr × Obj)} (h : ∀ p ∈ (a, o) :: r, p.1 < d) : @LT.lt Nat _ a d ∧ ∀ p ∈ r, p.1 < d := ⟨h _ (.head _), fun p hp => h p (.tail _ hp)⟩
theorem l9_four {a b c e d : Addr} {oa ob oc oe : Obj} {r : List (Addr × Obj)} (h : ∀ p ∈ (a, oa) :: (b, ob) :: (c, oc) :: (e, oe) :: r, p.1 < d) : (@LT.lt Nat _ a d ∧ @LT.lt Nat _ b d ∧ @LT.lt Nat _ c d ∧ @LT.lt Nat _ e d) ∧ ∀ p ∈ r, p.1 < d :=
  ⟨⟨h _ (.head _), h _ (.tail _ (.head _)), h _ (.tail _ (.tail _ (.head _))), h _ (.tail _ (.tail _ (.tail _ (.head _))))⟩, fun p hp => h p (.tail _ (.tail _ (.tail _ (.tail _ hp))))⟩
theorem l9_ne {l : List (Addr × Obj)} {d : Addr} (h : ∀ p ∈ l, p.1 < d) : ∀ p ∈ l, p.1 ≠ d := fun p hp => Nat.ne_of_lt (h p hp)
theorem mem_hd {p : Addr × Obj} {l : List (Addr × Obj)} : p ∈ p :: l := .head _
theorem mem_tl {p q : Addr × Obj} {l : List (Addr × Obj)} (h : p ∈ l) : p ∈ q :: l := .tail _ h
theorem gen_toks {P : Nat → Prop} (k : Nat) (h : ∀ k, P k) : P k := h k
theorem ite_t {b : Bool} {x y : Prop} {i : Decidable (b = true)} (hb : b = true) (h : x) : @ite Prop (b = true) i x y := by rw [if_pos hb]; exact h
theorem ite_f {b : Bool} {x y : Prop} {i : Decidable (b = true)} (hb : b = false) (h : y) : @ite Prop (b = true) i x y := by rw [if_neg (by rw [hb]; exact Bool.false_ne_true)]; exact h
theorem ite_ff {x y : Prop} {i : Decidable (false = true)} (h : y) : @ite Prop (false = true) i x y := by rw [if_neg Bool.false_ne_true]; exact h
theorem ite_tt {x y : Prop} {i : Decidable (true = true)} (h : x) : @ite Prop (true = true) i x y := by rw [if_pos rfl]; exact h
theorem room0 {dp n lim : Nat} (h : dp + n < lim) : dp < lim := Nat.lt_of_le_of_lt (Nat.le_add_right _ _) h
theorem room1 {dp a k n lim : Nat} (h : dp + n < lim) (hk : Nat.ble (a + k) n = true) : dp + a + k < lim := by
  have := Nat.le_of_ble_eq_true hk
  omega
theorem units1 {un a k n lim : Nat} (h : un + 8 * n < lim) (hk : Nat.ble (a + 8 * k) (8 * n) = true) : un + a + 8 * k < lim := by
  have := Nat.le_of_ble_eq_true hk
  omega
theorem units0 {un a n lim : Nat} (h : un + 8 * n < lim) (hk : Nat.ble a (8 * n) = true) : un + a < lim := by
  have := Nat.le_of_ble_eq_true hk
  omega
theorem ne_cons {src x : Addr} {o : Obj} {r : List (Addr × Obj)} (h : x ≠ src) (h2 : ∀ q ∈ r, q.1 ≠ src) : ∀ q ∈ (x, o) :: r, q.1 ≠ src := List.forall_mem_cons.mpr ⟨h, h2⟩
theorem ne_l1 {src d : Addr} {o : Obj} {l : List (Addr × Obj)} (h : ∀ p ∈ l, p.1 < d) (m : (src, o) ∈ l) : d ≠ src := Nat.ne_of_gt (h _ m)
theorem ne_l2 {src d e : Addr} {o : Obj} {l : List (Addr × Obj)} (l2 : @LT.lt Nat _ d e) (h : ∀ p ∈ l, p.1 < d) (m : (src, o) ∈ l) : e ≠ src := Nat.ne_of_gt (Nat.lt_trans (h _ m) l2)
theorem ne_l3 {src d e f : Addr} {o : Obj} {l : List (Addr × Obj)} (l3 : @LT.lt Nat _ e f) (l2 : @LT.lt Nat _ d e) (h : ∀ p ∈ l, p.1 < d) (m : (src, o) ∈ l) : f ≠ src := Nat.ne_of_gt (Nat.lt_trans (h _ m) (Nat.lt_trans l2 l3))
theorem ne_l4 {src d e f g : Addr} {o : Obj} {l : List (Addr × Obj)} (l4 : @LT.lt Nat _ f g) (l3 : @LT.lt Nat _ e f) (l2 : @LT.lt Nat _ d e) (h : ∀ p ∈ l, p.1 < d) (m : (src, o) ∈ l) : g ≠ src := Nat.ne_of_gt (Nat.lt_trans (h _ m) (Nat.lt_trans l2 (Nat.lt_trans l3 l4)))
theorem top_in {M : Model} {α : Type} {dp un n : Nat} {gd : Option (List Code)} {cn cn' : Str} {cs cs' : Scope} {L L' a a' : Addr} {ccd ccd' : Value} {cl : List (Str × Addr)} {outer : List Env} {t : Sem α} {Q : α → Shared → Prop} {E : Value → Shared → Prop} {s : Shared} {base g : Heap} {A₁ : Around} (B : Below A₁ base (envX cn cs L a ccd cl :: outer) g) (hd : dp + (n + 1) < recursionLimit) (hu : un + 8 * (n + 1) < cLine)
    (h : ∀ dp' un' outer' A₂, Below A₂ base outer' g → dp' + n < recursionLimit → un' + 8 * n < cLine → wpAny M (ktrTop dp' un' gd cn' cs' L' a' ccd' [] outer') t Q E s) : wpAny M ((ktrTop dp un gd cn cs L a ccd cl outer).deeper (envOf cn' cs' L' a' ccd')) t Q E s :=
  h (dp + 1) (un + 3) (envX cn cs L a ccd cl :: outer) A₁ B (by omega) (by omega)
theorem top_inC {M : Model} {α : Type} {dp un n : Nat} {gd : Option (List Code)} {cn cn' : Str} {cs cs' : Scope} {L L' a a' : Addr} {ccd ccd' : Value} {cl : List (Str × Addr)} {outer : List Env} {t : Sem α} {Q : α → Shared → Prop} {E : Value → Shared → Prop} {s : Shared} {base g : Heap} {A₁ : Around} (B : Below A₁ base (envX cn cs L a ccd cl :: outer) g) (hd : dp + (n + 1) < recursionLimit) (hu : un + 8 * (n + 1) < cLine)
    (h : ∀ dp' un' outer' A₂, Below A₂ base outer' g → dp' + n < recursionLimit → un' + 8 * n < cLine → wpAny M (ktrTop dp' un' gd cn' cs' L' a' ccd' (cellsFrom (L' + 1) cs'.names []) outer') t Q E s) : wpAny M ((ktrTop dp un gd cn cs L a ccd cl outer).deeper (envOfC cn' cs' L' a' ccd')) t Q E s :=
  h (dp + 1) (un + 3) (envX cn cs L a ccd cl :: outer) A₁ B (by omega) (by omega)
theorem room2 {dp k n lim : Nat} (h : dp + n < lim) (hk : Nat.ble k n = true) : dp + k < lim := by
  have := Nat.le_of_ble_eq_true hk
  omega
theorem units2 {un k n lim : Nat} (h : un + 8 * n < lim) (hk : Nat.ble k n = true) : un + 8 * k < lim := by
  have := Nat.le_of_ble_eq_true hk
  omega
abbrev PG : Program := PySem.Challenge.pw_xm0767_01
abbrev Led := List (Addr × Obj)

/-- what a call of the text's own def at f does, from any frame: it comes back with r and the ledger news' -/
abbrev CallTo (w : World) (p : Program) (loose : List Str) (mean : ExcName → Option Value) (mg mb : Str → Option Value) (f : Addr) (vs : List Value) (news : Led) (need : Nat) (Post : Value → Led → Prop) : Prop :=
  ∀ (dp un : Nat) (gd : Option (List Code)) (cn : Str) (cs : Scope) (a : Addr) (ccd : Value) (cl : List (Str × Addr)) (outer : List Env) (A₀ : Around) (base h₀ : Heap) (L : Addr) (m : Str → Option Value) (s : Shared) (Q E : Value → Shared → Prop),
    Below A₀ base outer h₀ → Fr h₀ L s.heap m → (Mine.kept.heap_1 w.params).In h₀ → News h₀ L s.heap news → Top p loose mean mg mb h₀ → cs.kind = .function →
    dp + need < recursionLimit → un + 8 * need < cLine →
    (∀ r news' h' tk', Post r news' → Fr h₀ L h' m → News h₀ L h' news' → Q r { s with heap := h', toks := tk' }) →
    wpAny (model PG w) (ktrTop dp un gd cn cs L a ccd cl outer) (call (.ref f) vs) Q E s

def SrcOk (o : Obj) : Prop := ∃ a b ta tb n, o = listOf #[.int a ta, .int b tb] n ∧ 0 ≤ a ∧ 0 ≤ b ∧ b < 2147483647
theorem rows1 : True := by
  w_top off
  (k_with "execs cons" => ((k_here; (with_reducible refine gen_toks (P := fun k => wpAny _ _ _ _ _ ⟨_, _, _, k, _⟩) (_ + _) ?_); intro tk9'; walk_say "TOKS")))
  (k_with "eval Name" => ((k_here; name_kind "globalImplicit"; k_dflt (refine' nameX_K ?F ?X ?T ?e ?_ ?a ?b; (case F => k_asm); (case X => k_asm); (case T => k_asm); (case a => kernel_rfl!); (case b => kernel_rfl!); (case e => k_is); k_whole))))
  (k_with "eval Name" => ((k_here; name_kind "local"; k_dflt (refine' nameX_L ?F ?v ?_ ?a ?b; (case F => k_asm); (case a => kernel_rfl!); (case b => kernel_rfl!); (case v => rfl); k_whole))))
  (k_with "execs nil" => ((k_here; (with_reducible refine gen_toks (P := fun k => wpAny _ _ _ _ _ ⟨_, _, _, k, _⟩) (_ + _) ?_); intro tk9'; walk_say "TOKS")))
  (k_with "eval Name" => ((k_here; name_kind "globalImplicit"; name_is_builtin; k_dflt (refine' nameX_B ?F ?X ?T ?e ?v ?n ?_ ?a ?b; (case F => k_asm); (case X => k_asm); (case T => k_asm); (case a => kernel_rfl!); (case b => kernel_rfl!); (case e => k_is); (case v => boot_fast); (case n => decide); k_whole))))
  (k_with "ite" => ((k_closed; first | with_reducible refine ite_ff ?_ | with_reducible refine ite_tt ?_ | k_dflt (first | refine ite_t rfl ?_ | refine ite_f rfl ?_))))
  (k_with "call builtin:isinstance" => ((k_here; k_dflt (refine' isi_call ?k1 ?k2 ?k3 ?k4 ?_; (case k1 => k_in); (case k2 => k_types); (case k3 => k_is); (case k4 => intro e; cases e); k_whole))))
  (k_with "ktr_room" => (k_dflt (first | exact room2 (by with_reducible assumption) (by decide) | exact room1 (by with_reducible assumption) rfl | exact room0 (by with_reducible assumption))))
  (k_with "ktr_units" => (k_dflt (first | exact units2 (by with_reducible assumption) (by decide) | exact units1 (by with_reducible assumption) rfl | exact units0 (by with_reducible assumption) rfl | exact room0 (by with_reducible assumption))))
  (k_with "k_in" => (first | with_reducible assumption | exact Frag.In.keeps (by with_reducible assumption) (Fr.keep (by with_reducible assumption))))
  (k_with "call builtin:isinstance" => ((k_here; (with_reducible show wpAny _ _ (call _ [Value.ref _, Value.ref _]) _ _ _); k_dflt (refine' kin_callC ?k1 ?k2 ?k3 ?k4 ?k5 ?k6 ?k7 ?k8 ?k9 ?_; (case k1 => k_in); (case k2 => k_inst); (case k3 => kin_no); (case k4 => k_is); (case k5 => k_is); (case k6 => k_is); (case k7 => k_is); (case k8 => k_is); (case k9 => k_is); k_whole))))
  (k_with "getAttr ref" => ((k_here; k_dflt (refine' get_own ?k1 ?k2 ?k3 ?k4 ?k5 ?k6 ?k7 ?k8 ?k9 ?_; (case k1 => k_asm); (case k2 => k_asm); (case k3 => k_inst); (case k4 => k_is); (case k5 => k_is); (case k6 => k_is); (case k7 => k_is); (case k8 => k_get); (case k9 => k_handed); k_whole))))
  trivial
section
theorem sq_ok (y : Int) : IntMulOk (y.fmod 2147483647) (y.fmod 2147483647) :=
  IntMulOk.of_left (intBits_le_64 (by have := fmod_lo y (n := 2147483647) (by decide); omega) (by have := fmod_hi y (n := 2147483647) (by decide); omega))
theorem rows2 : True := by
  w_top off
  (k_with "k_all" => (assumption))
  (k_with "binaryOp Mult int int" => ((k_here; with_unfolding_all refine mul_int ?_ (sq_ok _))))
  trivial
set_option maxHeartbeats 4000000 in
theorem take_call {w : World} {p : Program} {loose : List Str} {mean : ExcName → Option Value} {mg mb : Str → Option Value} {src : Addr} {o : Obj} {rest : Led} {top : Int} {tt : Tok}
    (ho : SrcOk o) (h2 : 2 ≤ top) (ht : top ≤ 2000) (hr : ∀ q ∈ rest, q.1 ≠ src) :
    CallTo w p loose mean mg mb 965 [.ref src, .int top tt] ((src, o) :: rest) 1 (fun r news' => ∃ d t o', r = .int d t ∧ 0 ≤ d ∧ d < top ∧ SrcOk o' ∧ news' = (src, o') :: rest) := by
  exact ensure_expected_type% "" (by exact ?walk9 : type_of% (let_mvar% ?walk9 := (by
    obtain ⟨a, b, ta, tb, n, rfl, ha, hb, hb'⟩ := ho
    intro dp un gd cn cs ac ccd cl outer A₀ base h₀ L m s Q E B F X N T hk hdp hun hret
    refine wpAny_call ?_
    k_dflt cell_enter
    refine top_in (by k_asm) hdp hun ?_; clear hdp hun; intro dp9 un9 out9 A9 B9 hdp hun
    k_steps
    all_goals (refine hret _ _ _ _ ?_ (by k_asm) (by k_asm))
    · refine ⟨_, _, _, rfl, fmod_lo _ (by omega), fmod_hi _ (by omega), ⟨_, _, _, _, _, rfl, ?_, ?_, ?_⟩, rfl⟩
      · show 0 ≤ Int.fdiv a top
        exact Int.fdiv_nonneg ha (by omega)
      · exact hb
      · exact hb'
    · refine ⟨_, _, _, rfl, fmod_lo _ (by omega), fmod_hi _ (by omega), ⟨_, _, _, _, _, rfl, ha, ?_, ?_⟩, rfl⟩
      · exact fmod_lo _ (by omega)
      · exact fmod_hi _ (by omega)
    : _); ?walk9))
end

inductive Pick (p : Addr × Obj) : Led → Led → Prop
  | head {r : Led} : Pick p (p :: r) r
  | tail {q : Addr × Obj} {r r' : Led} : Pick p r r' → Pick p (q :: r) (q :: r')
theorem rows3 : True := by
  w_top off
  k_with_none
  (k_with "execs cons" => ((k_here; (with_reducible refine gen_toks (P := fun k => wpAny _ _ _ _ _ ⟨_, _, _, k, _⟩) (_ + _) ?_); intro tk9'; walk_say "TOKS")))
  (k_with "eval Name" => ((k_here; name_kind "globalImplicit"; k_dflt (refine' nameX_K ?F ?X ?T ?e ?_ ?a ?b; (case F => k_asm); (case X => k_asm); (case T => k_asm); (case a => kernel_rfl!); (case b => kernel_rfl!); (case e => k_is); k_whole))))
  (k_with "eval Name" => ((k_here; name_kind "local"; k_dflt (refine' nameX_L ?F ?v ?_ ?a ?b; (case F => k_asm); (case a => kernel_rfl!); (case b => kernel_rfl!); (case v => rfl); k_whole))))
  (k_with "execs nil" => ((k_here; (with_reducible refine gen_toks (P := fun k => wpAny _ _ _ _ _ ⟨_, _, _, k, _⟩) (_ + _) ?_); intro tk9'; walk_say "TOKS")))
  (k_with "eval Name" => ((k_here; name_kind "globalImplicit"; name_is_builtin; k_dflt (refine' nameX_B ?F ?X ?T ?e ?v ?n ?_ ?a ?b; (case F => k_asm); (case X => k_asm); (case T => k_asm); (case a => kernel_rfl!); (case b => kernel_rfl!); (case e => k_is); (case v => boot_fast); (case n => decide); k_whole))))
  (k_with "ite" => ((k_closed; first | with_reducible refine ite_ff ?_ | with_reducible refine ite_tt ?_ | k_dflt (first | refine ite_t rfl ?_ | refine ite_f rfl ?_))))
  (k_with "call builtin:isinstance" => ((k_here; k_dflt (refine' isi_call ?k1 ?k2 ?k3 ?k4 ?_; (case k1 => k_in); (case k2 => k_types); (case k3 => k_is); (case k4 => intro e; cases e); k_whole))))
  (k_with "ktr_room" => (k_dflt (first | exact room2 (by with_reducible assumption) (by decide) | exact room1 (by with_reducible assumption) rfl | exact room0 (by with_reducible assumption))))
  (k_with "ktr_units" => (k_dflt (first | exact units2 (by with_reducible assumption) (by decide) | exact units1 (by with_reducible assumption) rfl | exact units0 (by with_reducible assumption) rfl | exact room0 (by with_reducible assumption))))
  (k_with "k_in" => (first | with_reducible assumption | exact Frag.In.keeps (by with_reducible assumption) (Fr.keep (by with_reducible assumption))))
  (k_with "call builtin:isinstance" => ((k_here; (with_reducible show wpAny _ _ (call _ [Value.ref _, Value.ref _]) _ _ _); k_dflt (refine' kin_callC ?k1 ?k2 ?k3 ?k4 ?k5 ?k6 ?k7 ?k8 ?k9 ?_; (case k1 => k_in); (case k2 => k_inst); (case k3 => kin_no); (case k4 => k_is); (case k5 => k_is); (case k6 => k_is); (case k7 => k_is); (case k8 => k_is); (case k9 => k_is); k_whole))))
  (k_with "getAttr ref" => ((k_here; k_dflt (refine' get_own ?k1 ?k2 ?k3 ?k4 ?k5 ?k6 ?k7 ?k8 ?k9 ?_; (case k1 => k_asm); (case k2 => k_asm); (case k3 => k_inst); (case k4 => k_is); (case k5 => k_is); (case k6 => k_is); (case k7 => k_is); (case k8 => k_get); (case k9 => k_handed); k_whole))))
  trivial
theorem Pick.t8 {p a b c d e f g h : Addr × Obj} {r r' : Led} (q : Pick p r r') : Pick p (a :: b :: c :: d :: e :: f :: g :: h :: r) (a :: b :: c :: d :: e :: f :: g :: h :: r') := .tail (.tail (.tail (.tail (.tail (.tail (.tail (.tail q)))))))
theorem Pick.sub {p : Addr × Obj} {l r : Led} (h : Pick p l r) : ∀ q ∈ p :: r, q ∈ l := by
  induction h with
  | head => exact fun q hq => hq
  | tail h ih =>
    intro q hq
    rcases List.mem_cons.mp hq with rfl | hq
    · exact .tail _ (ih _ (.head _))
    · rcases List.mem_cons.mp hq with rfl | hq
      · exact .head _
      · exact .tail _ (ih _ (.tail _ hq))

section
variable {w : World} {p : Program} {loose : List Str} {mean : ExcName → Option Value} {mg mb : Str → Option Value}
  {dp un : Nat} {gd : Option (List Code)} {cn : Str} {cs : Scope} {a : Addr} {ccd : Value} {cl : List (Str × Addr)} {outer : List Env} {A₀ : Around} {base h₀ : Heap} {L : Addr} {m : Str → Option Value} {s : Shared} {Q E : Value → Shared → Prop}
  {src : Addr} {o : Obj} {news rest : Led}
theorem take_use {top : Int} {tt : Tok} (B : Below A₀ base outer h₀) (F : Fr h₀ L s.heap m) (X : (Mine.kept.heap_1 w.params).In h₀) (N : News h₀ L s.heap news) (T : Top p loose mean mg mb h₀) (hk : cs.kind = .function)
    (hp : Pick (src, o) news rest) (ho : SrcOk o) (hr : ∀ q ∈ rest, q.1 ≠ src) (h2 : 2 ≤ top) (ht : top ≤ 2000) (hd : dp + 1 < recursionLimit) (hu : un + 8 * 1 < cLine)
    (ret : ∀ d t o' h' tk', 0 ≤ d → d < top → SrcOk o' → Fr h₀ L h' m → News h₀ L h' ((src, o') :: rest) → Q (.int d t) { s with heap := h', toks := tk' }) :
    wpAny (model PG w) (ktrTop dp un gd cn cs L a ccd cl outer) (call (.ref 965) [.ref src, .int top tt]) Q E s :=
  take_call ho h2 ht hr _ _ _ _ _ _ _ _ _ _ _ _ _ _ _ _ _ B F X (cb_drop N hp.sub) T hk hd hu fun _ _ h' tk' ⟨d, t, o', e, h0, h1, ho', e'⟩ F' N' => by
    subst e e'
    exact ret d t o' h' tk' h0 h1 ho' F' N'
end
theorem rows4 : True := by
  w_top off
  (k_with "k_room" => (ktr_room))
  (k_with "k_units" => (ktr_units))
  (k_with "k_all" => (assumption))
  (k_with "k_mem" => (first | assumption | ((with_reducible show Pick _ _ _); first | exact Pick.head | exact Pick.tail (Pick.head) | exact Pick.tail (Pick.tail (Pick.head)) | exact Pick.tail (Pick.tail (Pick.tail (Pick.head))) | exact Pick.tail (Pick.tail (Pick.tail (Pick.tail (Pick.head)))) | exact Pick.tail (Pick.tail (Pick.tail (Pick.tail (Pick.tail (Pick.head))))) | exact Pick.tail (Pick.tail (Pick.tail (Pick.tail (Pick.tail (Pick.tail (Pick.head)))))) | exact Pick.tail (Pick.tail (Pick.tail (Pick.tail (Pick.tail (Pick.tail (Pick.tail (Pick.head))))))) | exact Pick.t8 (Pick.head) | exact Pick.t8 (Pick.tail (Pick.head)) | exact Pick.t8 (Pick.tail (Pick.tail (Pick.head))) | exact Pick.t8 (Pick.tail (Pick.tail (Pick.tail (Pick.head)))) | exact Pick.t8 (Pick.tail (Pick.tail (Pick.tail (Pick.tail (Pick.head))))) | exact Pick.t8 (Pick.tail (Pick.tail (Pick.tail (Pick.tail (Pick.tail (Pick.head)))))) | exact Pick.t8 (Pick.tail (Pick.tail (Pick.tail (Pick.tail (Pick.tail (Pick.tail (Pick.head))))))) | exact Pick.t8 (Pick.tail (Pick.tail (Pick.tail (Pick.tail (Pick.tail (Pick.tail (Pick.tail (Pick.head)))))))) | exact Pick.t8 (Pick.t8 (Pick.head)) | exact Pick.t8 (Pick.t8 (Pick.tail (Pick.head))) | exact Pick.t8 (Pick.t8 (Pick.tail (Pick.tail (Pick.head)))) | exact Pick.t8 (Pick.t8 (Pick.tail (Pick.tail (Pick.tail (Pick.head))))) | exact Pick.t8 (Pick.t8 (Pick.tail (Pick.tail (Pick.tail (Pick.tail (Pick.head)))))) | exact Pick.t8 (Pick.t8 (Pick.tail (Pick.tail (Pick.tail (Pick.tail (Pick.tail (Pick.head))))))) | exact Pick.t8 (Pick.t8 (Pick.tail (Pick.tail (Pick.tail (Pick.tail (Pick.tail (Pick.tail (Pick.head)))))))) | exact Pick.t8 (Pick.t8 (Pick.tail (Pick.tail (Pick.tail (Pick.tail (Pick.tail (Pick.tail (Pick.tail (Pick.head))))))))) | exact Pick.t8 (Pick.t8 (Pick.t8 (Pick.head))) | exact Pick.t8 (Pick.t8 (Pick.t8 (Pick.tail (Pick.head)))) | exact Pick.t8 (Pick.t8 (Pick.t8 (Pick.tail (Pick.tail (Pick.head))))) | exact Pick.t8 (Pick.t8 (Pick.t8 (Pick.tail (Pick.tail (Pick.tail (Pick.head)))))) | exact Pick.t8 (Pick.t8 (Pick.t8 (Pick.tail (Pick.tail (Pick.tail (Pick.tail (Pick.head))))))) | exact Pick.t8 (Pick.t8 (Pick.t8 (Pick.tail (Pick.tail (Pick.tail (Pick.tail (Pick.tail (Pick.head)))))))) | exact Pick.t8 (Pick.t8 (Pick.t8 (Pick.tail (Pick.tail (Pick.tail (Pick.tail (Pick.tail (Pick.tail (Pick.head))))))))) | exact Pick.t8 (Pick.t8 (Pick.t8 (Pick.tail (Pick.tail (Pick.tail (Pick.tail (Pick.tail (Pick.tail (Pick.tail (Pick.head)))))))))) | exact Pick.t8 (Pick.t8 (Pick.t8 (Pick.t8 (Pick.head)))) | exact Pick.t8 (Pick.t8 (Pick.t8 (Pick.t8 (Pick.tail (Pick.head))))) | exact Pick.t8 (Pick.t8 (Pick.t8 (Pick.t8 (Pick.tail (Pick.tail (Pick.head)))))) | exact Pick.t8 (Pick.t8 (Pick.t8 (Pick.t8 (Pick.tail (Pick.tail (Pick.tail (Pick.head))))))) | exact Pick.t8 (Pick.t8 (Pick.t8 (Pick.t8 (Pick.tail (Pick.tail (Pick.tail (Pick.tail (Pick.head)))))))) | exact Pick.t8 (Pick.t8 (Pick.t8 (Pick.t8 (Pick.tail (Pick.tail (Pick.tail (Pick.tail (Pick.tail (Pick.head))))))))) | exact Pick.t8 (Pick.t8 (Pick.t8 (Pick.t8 (Pick.tail (Pick.tail (Pick.tail (Pick.tail (Pick.tail (Pick.tail (Pick.head)))))))))) | exact Pick.t8 (Pick.t8 (Pick.t8 (Pick.t8 (Pick.tail (Pick.tail (Pick.tail (Pick.tail (Pick.tail (Pick.tail (Pick.tail (Pick.head))))))))))) | exact Pick.t8 (Pick.t8 (Pick.t8 (Pick.t8 (Pick.t8 (Pick.head))))) | exact Pick.t8 (Pick.t8 (Pick.t8 (Pick.t8 (Pick.t8 (Pick.tail (Pick.head)))))) | exact Pick.t8 (Pick.t8 (Pick.t8 (Pick.t8 (Pick.t8 (Pick.tail (Pick.tail (Pick.head))))))) | exact Pick.t8 (Pick.t8 (Pick.t8 (Pick.t8 (Pick.t8 (Pick.tail (Pick.tail (Pick.tail (Pick.head)))))))) | exact Pick.t8 (Pick.t8 (Pick.t8 (Pick.t8 (Pick.t8 (Pick.tail (Pick.tail (Pick.tail (Pick.tail (Pick.head))))))))) | exact Pick.t8 (Pick.t8 (Pick.t8 (Pick.t8 (Pick.t8 (Pick.tail (Pick.tail (Pick.tail (Pick.tail (Pick.tail (Pick.head)))))))))) | exact Pick.t8 (Pick.t8 (Pick.t8 (Pick.t8 (Pick.t8 (Pick.tail (Pick.tail (Pick.tail (Pick.tail (Pick.tail (Pick.tail (Pick.head))))))))))) | exact Pick.t8 (Pick.t8 (Pick.t8 (Pick.t8 (Pick.t8 (Pick.tail (Pick.tail (Pick.tail (Pick.tail (Pick.tail (Pick.tail (Pick.tail (Pick.head)))))))))))) | exact Pick.t8 (Pick.t8 (Pick.t8 (Pick.t8 (Pick.t8 (Pick.t8 (Pick.head)))))) | exact Pick.t8 (Pick.t8 (Pick.t8 (Pick.t8 (Pick.t8 (Pick.t8 (Pick.tail (Pick.head))))))) | exact Pick.t8 (Pick.t8 (Pick.t8 (Pick.t8 (Pick.t8 (Pick.t8 (Pick.tail (Pick.tail (Pick.head)))))))) | exact Pick.t8 (Pick.t8 (Pick.t8 (Pick.t8 (Pick.t8 (Pick.t8 (Pick.tail (Pick.tail (Pick.tail (Pick.head))))))))) | exact Pick.t8 (Pick.t8 (Pick.t8 (Pick.t8 (Pick.t8 (Pick.t8 (Pick.tail (Pick.tail (Pick.tail (Pick.tail (Pick.head)))))))))) | exact Pick.t8 (Pick.t8 (Pick.t8 (Pick.t8 (Pick.t8 (Pick.t8 (Pick.tail (Pick.tail (Pick.tail (Pick.tail (Pick.tail (Pick.head))))))))))) | exact Pick.t8 (Pick.t8 (Pick.t8 (Pick.t8 (Pick.t8 (Pick.t8 (Pick.tail (Pick.tail (Pick.tail (Pick.tail (Pick.tail (Pick.tail (Pick.head)))))))))))) | exact Pick.t8 (Pick.t8 (Pick.t8 (Pick.t8 (Pick.t8 (Pick.t8 (Pick.tail (Pick.tail (Pick.tail (Pick.tail (Pick.tail (Pick.tail (Pick.tail (Pick.head)))))))))))))) | exact List.Mem.tail _ (by assumption)))
  (k_with "call ref" => ((k_here; (with_reducible show wpAny _ _ (call (Value.ref 965) _) _ _ _); k_dflt (refine' take_use ?k1 ?k2 ?k3 ?k4 ?k5 ?kK ?kp ?ko ?kr ?h2 ?ht ?kd ?ku ?_; (case k2 => k_asm); (case k1 => k_asm); (case k3 => k_asm); (case k4 => k_asm); (case k5 => k_asm); (case kK => first | exact rfl | assumption); (case kp => k_mem); (case ko => assumption); (case kr => k_all); (case h2 => omega); (case ht => omega); (case kd => ktr_room); (case ku => ktr_units); k_whole); intro d' t' o' h' tk' hd0' hd1' hso' F' N'; (try k_sweep); (try k_fold); (try dsimp only); walk_say "TAKE")))
  trivial
section
theorem item_open {A : Around} {s : Shared} {E Q : Value → Shared → Prop} {value slice : Expr} {l : Addr} {its : Array Value} {d : Int} {u : Tok} {prog : Program} {w : World} (hl : s.heap.IsList l its) (h0 : 0 ≤ d) (h1 : d < its.size) (hs : its.size ≤ 2000) (h : ∀ r, its[d.toNat]? = some r → Q r s)
    (hsl : subscripted slice false (.ref l) (.int d u) = operate [.ref l, .int d u] (getItem (.ref l) (.int d u)) := by with_unfolding_all rfl) (hg : ∀ r, letTemporaryGo value (.ref l) r = pure () := by intro _; with_unfolding_all rfl) :
    wpAny (model prog w) A (subscriptTail value slice (.ref l) (.int d u)) Q E s :=
  item_list hl h0 (by omega) (Array.getElem?_eq_getElem (by omega)) (h _ (Array.getElem?_eq_getElem (by omega))) hsl hg
theorem rows5 : True := by
  w_top off
  (k_with "call builtin:len" => ((k_here; (with_reducible show wpAny _ _ (call (Value.builtin "len") [Value.ref _]) _ _ _); k_dflt (refine' len_list ?l ?f ?_; (case l => exact News.isList (by k_asm) (by k_mem)); (case f => omega); k_whole))))
  (k_with "subscriptTail" => ((k_here; (with_reducible show wpAny _ _ (subscriptTail _ _ (Value.ref _) (Value.int _ _)) _ _ _); k_dflt (refine' item_open ?l ?a ?b ?c ?_; (case l => exact News.isList (by k_asm) (by k_mem)); (case a => assumption); (case b => assumption); (case c => assumption); k_whole); intro r' hr')))
  trivial
set_option maxHeartbeats 4000000 in
theorem one_call {w : World} {p : Program} {loose : List Str} {mean : ExcName → Option Value} {mg mb : Str → Option Value} {src th : Addr} {o : Obj} {rest : Led} {its : Array Value} {k : Nat}
    (ho : SrcOk o) (h2 : 2 ≤ its.size) (ht : its.size ≤ 2000) (hm : (th, listOf its k) ∈ rest) (hr : ∀ q ∈ rest, q.1 ≠ src) :
    CallTo w p loose mean mg mb 972 [.ref src, .ref th] ((src, o) :: rest) 2 (fun r news' => ∃ (i : Nat) (o' : Obj), its[i]? = some r ∧ SrcOk o' ∧ news' = (src, o') :: rest) := by
  exact ensure_expected_type% "" (by exact ?walk9 : type_of% (let_mvar% ?walk9 := (by
    intro dp un gd cn cs ac ccd cl outer A₀ base h₀ L m s Q E B F X N T hk hdp hun hret
    refine wpAny_call ?_
    k_dflt cell_enter
    refine top_in (by k_asm) hdp hun ?_; clear hdp hun; intro dp9 un9 out9 A9 B9 hdp hun
    k_steps
    all_goals exact hret _ _ _ _ ⟨_, _, by assumption, by assumption, rfl⟩ (by k_asm) (by k_asm)
    : _); ?walk9))
end

theorem rows6 : True := by
  w_top off
  k_with_none
  (k_with "execs cons" => ((k_here; (with_reducible refine gen_toks (P := fun k => wpAny _ _ _ _ _ ⟨_, _, _, k, _⟩) (_ + _) ?_); intro tk9'; walk_say "TOKS")))
  (k_with "eval Name" => ((k_here; name_kind "globalImplicit"; k_dflt (refine' nameX_K ?F ?X ?T ?e ?_ ?a ?b; (case F => k_asm); (case X => k_asm); (case T => k_asm); (case a => kernel_rfl!); (case b => kernel_rfl!); (case e => k_is); k_whole))))
  (k_with "eval Name" => ((k_here; name_kind "local"; k_dflt (refine' nameX_L ?F ?v ?_ ?a ?b; (case F => k_asm); (case a => kernel_rfl!); (case b => kernel_rfl!); (case v => rfl); k_whole))))
  (k_with "execs nil" => ((k_here; (with_reducible refine gen_toks (P := fun k => wpAny _ _ _ _ _ ⟨_, _, _, k, _⟩) (_ + _) ?_); intro tk9'; walk_say "TOKS")))
  (k_with "eval Name" => ((k_here; name_kind "globalImplicit"; name_is_builtin; k_dflt (refine' nameX_B ?F ?X ?T ?e ?v ?n ?_ ?a ?b; (case F => k_asm); (case X => k_asm); (case T => k_asm); (case a => kernel_rfl!); (case b => kernel_rfl!); (case e => k_is); (case v => boot_fast); (case n => decide); k_whole))))
  (k_with "ite" => ((k_closed; first | with_reducible refine ite_ff ?_ | with_reducible refine ite_tt ?_ | k_dflt (first | refine ite_t rfl ?_ | refine ite_f rfl ?_))))
  (k_with "call builtin:isinstance" => ((k_here; k_dflt (refine' isi_call ?k1 ?k2 ?k3 ?k4 ?_; (case k1 => k_in); (case k2 => k_types); (case k3 => k_is); (case k4 => intro e; cases e); k_whole))))
  (k_with "ktr_room" => (k_dflt (first | exact room2 (by with_reducible assumption) (by decide) | exact room1 (by with_reducible assumption) rfl | exact room0 (by with_reducible assumption))))
  (k_with "ktr_units" => (k_dflt (first | exact units2 (by with_reducible assumption) (by decide) | exact units1 (by with_reducible assumption) rfl | exact units0 (by with_reducible assumption) rfl | exact room0 (by with_reducible assumption))))
  (k_with "k_in" => (first | with_reducible assumption | exact Frag.In.keeps (by with_reducible assumption) (Fr.keep (by with_reducible assumption))))
  (k_with "call builtin:isinstance" => ((k_here; (with_reducible show wpAny _ _ (call _ [Value.ref _, Value.ref _]) _ _ _); k_dflt (refine' kin_callC ?k1 ?k2 ?k3 ?k4 ?k5 ?k6 ?k7 ?k8 ?k9 ?_; (case k1 => k_in); (case k2 => k_inst); (case k3 => kin_no); (case k4 => k_is); (case k5 => k_is); (case k6 => k_is); (case k7 => k_is); (case k8 => k_is); (case k9 => k_is); k_whole))))
  (k_with "getAttr ref" => ((k_here; k_dflt (refine' get_own ?k1 ?k2 ?k3 ?k4 ?k5 ?k6 ?k7 ?k8 ?k9 ?_; (case k1 => k_asm); (case k2 => k_asm); (case k3 => k_inst); (case k4 => k_is); (case k5 => k_is); (case k6 => k_is); (case k7 => k_is); (case k8 => k_get); (case k9 => k_handed); k_whole))))
  (k_with "k_room" => (ktr_room))
  (k_with "k_units" => (ktr_units))
  (k_with "k_all" => (assumption))
  (k_with "k_mem" => (first | assumption | ((with_reducible show Pick _ _ _); first | exact Pick.head | exact Pick.tail (Pick.head) | exact Pick.tail (Pick.tail (Pick.head)) | exact Pick.tail (Pick.tail (Pick.tail (Pick.head))) | exact Pick.tail (Pick.tail (Pick.tail (Pick.tail (Pick.head)))) | exact Pick.tail (Pick.tail (Pick.tail (Pick.tail (Pick.tail (Pick.head))))) | exact Pick.tail (Pick.tail (Pick.tail (Pick.tail (Pick.tail (Pick.tail (Pick.head)))))) | exact Pick.tail (Pick.tail (Pick.tail (Pick.tail (Pick.tail (Pick.tail (Pick.tail (Pick.head))))))) | exact Pick.t8 (Pick.head) | exact Pick.t8 (Pick.tail (Pick.head)) | exact Pick.t8 (Pick.tail (Pick.tail (Pick.head))) | exact Pick.t8 (Pick.tail (Pick.tail (Pick.tail (Pick.head)))) | exact Pick.t8 (Pick.tail (Pick.tail (Pick.tail (Pick.tail (Pick.head))))) | exact Pick.t8 (Pick.tail (Pick.tail (Pick.tail (Pick.tail (Pick.tail (Pick.head)))))) | exact Pick.t8 (Pick.tail (Pick.tail (Pick.tail (Pick.tail (Pick.tail (Pick.tail (Pick.head))))))) | exact Pick.t8 (Pick.tail (Pick.tail (Pick.tail (Pick.tail (Pick.tail (Pick.tail (Pick.tail (Pick.head)))))))) | exact Pick.t8 (Pick.t8 (Pick.head)) | exact Pick.t8 (Pick.t8 (Pick.tail (Pick.head))) | exact Pick.t8 (Pick.t8 (Pick.tail (Pick.tail (Pick.head)))) | exact Pick.t8 (Pick.t8 (Pick.tail (Pick.tail (Pick.tail (Pick.head))))) | exact Pick.t8 (Pick.t8 (Pick.tail (Pick.tail (Pick.tail (Pick.tail (Pick.head)))))) | exact Pick.t8 (Pick.t8 (Pick.tail (Pick.tail (Pick.tail (Pick.tail (Pick.tail (Pick.head))))))) | exact Pick.t8 (Pick.t8 (Pick.tail (Pick.tail (Pick.tail (Pick.tail (Pick.tail (Pick.tail (Pick.head)))))))) | exact Pick.t8 (Pick.t8 (Pick.tail (Pick.tail (Pick.tail (Pick.tail (Pick.tail (Pick.tail (Pick.tail (Pick.head))))))))) | exact Pick.t8 (Pick.t8 (Pick.t8 (Pick.head))) | exact Pick.t8 (Pick.t8 (Pick.t8 (Pick.tail (Pick.head)))) | exact Pick.t8 (Pick.t8 (Pick.t8 (Pick.tail (Pick.tail (Pick.head))))) | exact Pick.t8 (Pick.t8 (Pick.t8 (Pick.tail (Pick.tail (Pick.tail (Pick.head)))))) | exact Pick.t8 (Pick.t8 (Pick.t8 (Pick.tail (Pick.tail (Pick.tail (Pick.tail (Pick.head))))))) | exact Pick.t8 (Pick.t8 (Pick.t8 (Pick.tail (Pick.tail (Pick.tail (Pick.tail (Pick.tail (Pick.head)))))))) | exact Pick.t8 (Pick.t8 (Pick.t8 (Pick.tail (Pick.tail (Pick.tail (Pick.tail (Pick.tail (Pick.tail (Pick.head))))))))) | exact Pick.t8 (Pick.t8 (Pick.t8 (Pick.tail (Pick.tail (Pick.tail (Pick.tail (Pick.tail (Pick.tail (Pick.tail (Pick.head)))))))))) | exact Pick.t8 (Pick.t8 (Pick.t8 (Pick.t8 (Pick.head)))) | exact Pick.t8 (Pick.t8 (Pick.t8 (Pick.t8 (Pick.tail (Pick.head))))) | exact Pick.t8 (Pick.t8 (Pick.t8 (Pick.t8 (Pick.tail (Pick.tail (Pick.head)))))) | exact Pick.t8 (Pick.t8 (Pick.t8 (Pick.t8 (Pick.tail (Pick.tail (Pick.tail (Pick.head))))))) | exact Pick.t8 (Pick.t8 (Pick.t8 (Pick.t8 (Pick.tail (Pick.tail (Pick.tail (Pick.tail (Pick.head)))))))) | exact Pick.t8 (Pick.t8 (Pick.t8 (Pick.t8 (Pick.tail (Pick.tail (Pick.tail (Pick.tail (Pick.tail (Pick.head))))))))) | exact Pick.t8 (Pick.t8 (Pick.t8 (Pick.t8 (Pick.tail (Pick.tail (Pick.tail (Pick.tail (Pick.tail (Pick.tail (Pick.head)))))))))) | exact Pick.t8 (Pick.t8 (Pick.t8 (Pick.t8 (Pick.tail (Pick.tail (Pick.tail (Pick.tail (Pick.tail (Pick.tail (Pick.tail (Pick.head))))))))))) | exact Pick.t8 (Pick.t8 (Pick.t8 (Pick.t8 (Pick.t8 (Pick.head))))) | exact Pick.t8 (Pick.t8 (Pick.t8 (Pick.t8 (Pick.t8 (Pick.tail (Pick.head)))))) | exact Pick.t8 (Pick.t8 (Pick.t8 (Pick.t8 (Pick.t8 (Pick.tail (Pick.tail (Pick.head))))))) | exact Pick.t8 (Pick.t8 (Pick.t8 (Pick.t8 (Pick.t8 (Pick.tail (Pick.tail (Pick.tail (Pick.head)))))))) | exact Pick.t8 (Pick.t8 (Pick.t8 (Pick.t8 (Pick.t8 (Pick.tail (Pick.tail (Pick.tail (Pick.tail (Pick.head))))))))) | exact Pick.t8 (Pick.t8 (Pick.t8 (Pick.t8 (Pick.t8 (Pick.tail (Pick.tail (Pick.tail (Pick.tail (Pick.tail (Pick.head)))))))))) | exact Pick.t8 (Pick.t8 (Pick.t8 (Pick.t8 (Pick.t8 (Pick.tail (Pick.tail (Pick.tail (Pick.tail (Pick.tail (Pick.tail (Pick.head))))))))))) | exact Pick.t8 (Pick.t8 (Pick.t8 (Pick.t8 (Pick.t8 (Pick.tail (Pick.tail (Pick.tail (Pick.tail (Pick.tail (Pick.tail (Pick.tail (Pick.head)))))))))))) | exact Pick.t8 (Pick.t8 (Pick.t8 (Pick.t8 (Pick.t8 (Pick.t8 (Pick.head)))))) | exact Pick.t8 (Pick.t8 (Pick.t8 (Pick.t8 (Pick.t8 (Pick.t8 (Pick.tail (Pick.head))))))) | exact Pick.t8 (Pick.t8 (Pick.t8 (Pick.t8 (Pick.t8 (Pick.t8 (Pick.tail (Pick.tail (Pick.head)))))))) | exact Pick.t8 (Pick.t8 (Pick.t8 (Pick.t8 (Pick.t8 (Pick.t8 (Pick.tail (Pick.tail (Pick.tail (Pick.head))))))))) | exact Pick.t8 (Pick.t8 (Pick.t8 (Pick.t8 (Pick.t8 (Pick.t8 (Pick.tail (Pick.tail (Pick.tail (Pick.tail (Pick.head)))))))))) | exact Pick.t8 (Pick.t8 (Pick.t8 (Pick.t8 (Pick.t8 (Pick.t8 (Pick.tail (Pick.tail (Pick.tail (Pick.tail (Pick.tail (Pick.head))))))))))) | exact Pick.t8 (Pick.t8 (Pick.t8 (Pick.t8 (Pick.t8 (Pick.t8 (Pick.tail (Pick.tail (Pick.tail (Pick.tail (Pick.tail (Pick.tail (Pick.head)))))))))))) | exact Pick.t8 (Pick.t8 (Pick.t8 (Pick.t8 (Pick.t8 (Pick.t8 (Pick.tail (Pick.tail (Pick.tail (Pick.tail (Pick.tail (Pick.tail (Pick.tail (Pick.head)))))))))))))) | exact List.Mem.tail _ (by assumption)))
  (k_with "call ref" => ((k_here; (with_reducible show wpAny _ _ (call (Value.ref 965) _) _ _ _); k_dflt (refine' take_use ?k1 ?k2 ?k3 ?k4 ?k5 ?kK ?kp ?ko ?kr ?h2 ?ht ?kd ?ku ?_; (case k2 => k_asm); (case k1 => k_asm); (case k3 => k_asm); (case k4 => k_asm); (case k5 => k_asm); (case kK => first | exact rfl | assumption); (case kp => k_mem); (case ko => assumption); (case kr => k_all); (case h2 => omega); (case ht => omega); (case kd => ktr_room); (case ku => ktr_units); k_whole); intro d' t' o' h' tk' hd0' hd1' hso' F' N'; (try k_sweep); (try k_fold); (try dsimp only); walk_say "TAKE")))
  trivial
section
variable {w : World} {p : Program} {loose : List Str} {mean : ExcName → Option Value} {mg mb : Str → Option Value}
  {dp un : Nat} {gd : Option (List Code)} {cn : Str} {cs : Scope} {a : Addr} {ccd : Value} {cl : List (Str × Addr)} {outer : List Env} {A₀ : Around} {base h₀ : Heap} {L : Addr} {m : Str → Option Value} {s : Shared} {Q E : Value → Shared → Prop}
  {src th : Addr} {o : Obj} {news rest : Led} {vs : List Value} {k : Nat}
/-- one of a written list's things: what holds of each holds of it -/
theorem one_use (P : Value → Prop) (B : Below A₀ base outer h₀) (F : Fr h₀ L s.heap m) (X : (Mine.kept.heap_1 w.params).In h₀) (N : News h₀ L s.heap news) (T : Top p loose mean mg mb h₀) (hk : cs.kind = .function)
    (hp : Pick (src, o) news rest) (ho : SrcOk o) (hr : ∀ q ∈ rest, q.1 ≠ src) (hm : (th, listOf vs.toArray k) ∈ rest) (h2 : 2 ≤ vs.length) (ht : vs.length ≤ 2000) (hP : ∀ v ∈ vs, P v) (hd : dp + 2 < recursionLimit) (hu : un + 8 * 2 < cLine)
    (ret : ∀ r o' h' tk', P r → SrcOk o' → Fr h₀ L h' m → News h₀ L h' ((src, o') :: rest) → Q r { s with heap := h', toks := tk' }) :
    wpAny (model PG w) (ktrTop dp un gd cn cs L a ccd cl outer) (call (.ref 972) [.ref src, .ref th]) Q E s :=
  one_call ho h2 ht hm hr _ _ _ _ _ _ _ _ _ _ _ _ _ _ _ _ _ B F X (cb_drop N hp.sub) T hk hd hu fun r _ h' tk' ⟨i, o', e, ho', e'⟩ F' N' => by
    subst e'
    exact ret r o' h' tk' (hP r (by have h := e; rw [List.getElem?_toArray] at h; exact List.mem_of_getElem? h)) ho' F' N'
end
def IsStrOf (xs : List Str) (v : Value) : Prop := ∃ x t, v = .str x t ∧ x ∈ xs
def IsIntIn (lo hi : Int) (v : Value) : Prop := ∃ x t, v = .int x t ∧ lo ≤ x ∧ x < hi
abbrev S (x : String) : Str := PySem.Str.ofString x
def menu5 : List Str := [S "a", S "b", S "c", S "a b", S "d"]
def nmTab : List (Str × Str) := [(S "a", S "a"), (S "A", S "a"), (S "b", S "b"), (S "B", S "b"), (S "c", S "c"), (S "C", S "c"), (S "a b", S "a b"), (S "A B", S "a b"), (S "d", S "d"), (S "D", S "d")]
def Nm (y x : Str) : Prop := (y, x) ∈ nmTab
theorem menu_len : ∀ x ∈ menu5, x.length ≤ 3 := by decide +kernel
theorem menu_nm : ∀ x ∈ menu5, (x, x) ∈ nmTab := by decide +kernel
theorem menu_up : ∀ x ∈ menu5, (Txt.upper x, x) ∈ nmTab := by decide +kernel
theorem nm_len : ∀ q ∈ nmTab, q.1.length ≤ 3 := by decide +kernel
theorem nm_low : ∀ q ∈ nmTab, Txt.lower q.1 = q.2 := by decide +kernel
section
set_option maxHeartbeats 4000000 in
theorem letters_call {w : World} {p : Program} {loose : List Str} {mean : ExcName → Option Value} {mg mb : Str → Option Value} {src : Addr} {o : Obj} {rest : Led} {x : Str} {tt : Tok}
    (ho : SrcOk o) (hx : x ∈ menu5) (hr : ∀ q ∈ rest, q.1 ≠ src) :
    CallTo w p loose mean mg mb 979 [.ref src, .str x tt] ((src, o) :: rest) 2 (fun r news' => ∃ y t o', r = .str y t ∧ Nm y x ∧ SrcOk o' ∧ news' = (src, o') :: rest) := by
  exact ensure_expected_type% "" (by exact ?walk9 : type_of% (let_mvar% ?walk9 := (by
    have hxl := menu_len x hx
    intro dp un gd cn cs ac ccd cl outer A₀ base h₀ L m s Q E B F X N T hk hdp hun hret
    refine wpAny_call ?_
    k_dflt cell_enter
    refine top_in (by k_asm) hdp hun ?_; clear hdp hun; intro dp9 un9 out9 A9 B9 hdp hun
    k_steps
    all_goals first
      | exact hret _ _ _ _ ⟨_, _, _, rfl, menu_nm x hx, by assumption, rfl⟩ (by k_asm) (by k_asm)
      | exact hret _ _ _ _ ⟨_, _, _, rfl, menu_up x hx, by assumption, rfl⟩ (by k_asm) (by k_asm)
    : _); ?walk9))
end
def low (c : Nat) : Nat := if 65 ≤ c ∧ c ≤ 90 then c + 32 else c
def words (y : Str) : List Str := y.cps.toList.map fun c => ⟨#[low c]⟩
theorem words_ok : ∀ q ∈ nmTab, ((words q.1).map (·.length)).sum + (words q.1).length * (S "").length ≤ 16777216 ∧ Txt.join (S "") (words q.1) = q.2 := by decide +kernel
theorem signs_of : ∀ q ∈ nmTab, ∀ c ∈ q.1.cps.toList, c ∈ [32, 65, 66, 67, 68, 97, 98, 99, 100] := by decide +kernel

theorem nm_size {y x : Str} (hn : Nm y x) : y.cps.size ≤ sizeLine := by
  have h := nm_len _ hn
  rw [sizeLine_eq]
  simp only [Str.length] at h
  omega
theorem strs_of_paired {y : Str} {g : Nat → Nat} : ∀ {vs ys : List Value} {cs : List Nat}, vs.length = cs.length → (∀ (j : Nat) (v : Value), vs[j]? = some v → ∃ c u, cs[j]? = some c ∧ v = .str ⟨#[c]⟩ u) →
    Paired (fun v r => ∃ c u t', v = Value.str ⟨#[c]⟩ u ∧ r = Value.str ⟨#[g c]⟩ t') vs ys → StrsAre ys (cs.map fun c => ⟨#[g c]⟩)
  | [], [], [], _, _, _ => .nil
  | [], [], _ :: _, h, _, _ => by cases h
  | _ :: _, _ :: _, [], h, _, _ => by cases h
  | v :: vs, r :: ys, c :: cs, hl, hP, hF => by
    cases hF with
    | cons h1 h2 =>
      obtain ⟨c1, u1, t1, rfl, rfl⟩ := h1
      obtain ⟨c2, u2, e, e'⟩ := hP 0 _ rfl
      simp only [List.getElem?_cons_zero, Option.some.injEq] at e
      subst e
      cases e'
      exact .cons _ _ (strs_of_paired (y := y) (by simpa using hl) (fun j v hv => by simpa using hP (j + 1) v (by simpa using hv)) h2)

theorem comp_signs {prog : Program} {w : World} {A : Around} {E : Value → Shared → Prop} {s : Shared} {h₀ : Heap} {L : Addr} {m : Str → Option Value} {news : Led} {env : Env} {elt iter : PySem.Expr} {x : Str} {px : Pos} {scope : Scope} {cl : List (Str × Addr)} {pos : Pos} {Q : Value → Shared → Prop} {y : Str} {t : Tok}
    (g : Nat → Nat) (hh : A.handled = none) (hclos : closureFor scope env = pure cl) (hcell : ∀ y ∈ scope.names, y.2 ≠ .cell) (hkind : scope.kind = .function)
    (hnames : ∀ y ∈ scope.names, y.2 = .local → scope.names.lookup y.1 = some .local) (hx : scope.names.lookup x = some .local)
    (F : Fr h₀ L s.heap m) (N : News h₀ L s.heap news) (hy : y.cps.size ≤ sizeLine)
    (hit : ∀ Q' : Value → Shared → Prop, Q' (.str y t) s → wpAny (model prog w) A (eval iter env) Q' E s)
    (helt : ∀ C c u s₃ m₃ (E' : Value → Shared → Prop), c ∈ y.cps.toList → Fr h₀ L s₃.heap m → News h₀ L s₃.heap news → s₃.heap.Ns C m₃ → m₃ x = some (.str ⟨#[c]⟩ u) →
      wpAny (model prog w) A (eval elt (compEnvC scope cl C env)) (fun r s₄ => (∃ t', r = .str ⟨#[g c]⟩ t') ∧ Keeps s₃ s₄) E' s₃)
    (hret : ∀ D (vs : List Value) n h' tk, Fr h₀ L h' m → News h₀ L h' ((D, listOf vs.toArray n) :: news) → (∀ p ∈ news, p.1 ≠ D) → StrsAre vs (y.cps.toList.map fun c => ⟨#[g c]⟩) → Q (.ref D) { s with heap := h', toks := tk })
    (hs : ∀ x, foldedSetIterable iter env x = pure x := by intro _; rfl) :
    wpAny (model prog w) A (eval (.ListComp elt [⟨.Name x px, iter, [], 0⟩] scope pos) env) Q E s := by
  refine wpAny_ListComp_free (fun _ => true) (fun v r => ∃ c u t', v = Value.str ⟨#[c]⟩ u ∧ r = Value.str ⟨#[g c]⟩ t') hclos hcell hkind hnames hx (hit _ ?_) hs
  refine wpAny_pyIter_str fun o St W hst => ?_
  have up : ∀ (h' : Heap), (∀ b o', b ∉ [s.heap.objs.size] → (s.heap.push o).get? b = some o' → h'.get? b = some o') → ∀ b o', s.heap.get? b = some o' → h'.get? b = some o' :=
    fun h' hk b o' e => hk b o' (old_not_new e) (Heap.get?_push_of_some _ e)
  refine ⟨s.heap.objs.size, [s.heap.objs.size], [s.heap.objs.size], y.cps.size, SignAt y, St, rfl, W A hh, hy, hst, ?_, ⟨?_, ?_⟩, ?_⟩
  · intro b hb
    show b < (s.heap.push o).objs.size
    rw [Heap.size_push, List.mem_singleton.mp hb]
    exact Nat.lt_succ_self _
  · intro C i v s₃ m₃ E' _ hP hn hm _ _
    exact wpAny_tests_nil ⟨rfl, _, _, rfl, fun _ _ e => e⟩
  · intro C i v s₃ m₃ E' _ hP _ hn hm hk _
    obtain ⟨c, u, hc, rfl⟩ := hP
    have keep := up s₃.heap hk
    refine wpAny_mono (helt C c u s₃ m₃ E' (by have := Array.mem_of_getElem? hc; simpa using this) (F.keeps keep) (N.grown keep) hn hm) (fun r s₄ h₄ => ?_) fun _ _ e => e
    obtain ⟨⟨t', rfl⟩, k⟩ := h₄
    exact ⟨⟨_, _, _, rfl, rfl⟩, k⟩
  · intro D h' tk ys vs hnew hlD hplD hlen hP hF hk
    have keep := up h' hk
    obtain ⟨n, hget⟩ := hplD
    have hD : s.heap.get? D = none := by
      cases e : s.heap.get? D with
      | none => rfl
      | some o' => rw [Heap.get?_push_of_some _ e] at hnew; cases hnew
    have hD₀ : h₀.get? D = none := by
      cases e : h₀.get? D with
      | none => rfl
      | some o' => rw [F.keep _ _ e] at hD; cases hD
    have hDL : D ≠ L := by
      rintro rfl
      obtain ⟨oL, _, _, hL, _⟩ := F.ns
      rw [hL] at hD; cases hD
    have hDn : ∀ p ∈ news, p.1 ≠ D := fun p hp e => by rw [← e, (N p hp).1] at hD; cases hD
    refine hret D ys.toList n h' tk (F.keeps keep) (fun p hp => ?_) hDn (strs_of_paired (y := y) (by simpa using hlen) (fun j v hv => ?_) (by rw [List.filter_eq_self.mpr (fun _ _ => rfl)] at hF; exact hF))
    · rcases List.mem_cons.mp hp with rfl | hp
      · exact ⟨by simpa using hget, hDL, hD₀⟩
      · exact (N.grown keep) p hp
    · obtain ⟨c, u, hc, e⟩ := hP j v hv
      exact ⟨c, u, by simpa using hc, e⟩
structure SignEnd (n : Nat) (s₃ : Shared) (r : Value) (s₄ : Shared) : Prop where
  val : ∃ t', r = .str ⟨#[n]⟩ t'
  keeps : Keeps s₃ s₄
theorem lt_one {a b : Nat} : [a] < [b] ↔ a < b := by
  constructor
  · intro h
    cases h with
    | rel h => exact h
    | cons h => cases h
  · exact fun h => List.Lex.rel h
theorem sign_lo {c : Nat} (h : (Str.mk #[c]).cps.toList < (Str.ofString "A").cps.toList) : low c = c := by
  have h' : c < 65 := lt_one.mp (show [c] < [65] from h)
  unfold low; rw [if_neg (by omega)]
theorem sign_hi {c : Nat} (h : (Str.ofString "Z").cps.toList < (Str.mk #[c]).cps.toList) : low c = c := by
  have h' : 90 < c := lt_one.mp (show [90] < [c] from h)
  unfold low; rw [if_neg (by omega)]
theorem sign_mid {c : Nat} (h1 : ¬ (Str.mk #[c]).cps.toList < (Str.ofString "A").cps.toList) (h2 : ¬ (Str.ofString "Z").cps.toList < (Str.mk #[c]).cps.toList) : 65 ≤ c ∧ c ≤ 90 := by
  have h1' : ¬ c < 65 := fun h => h1 (show [c] < [65] from lt_one.mpr h)
  have h2' : ¬ 90 < c := fun h => h2 (show [90] < [c] from lt_one.mpr h)
  omega
theorem sign_up {c : Nat} (h1 : ¬ (Str.mk #[c]).cps.toList < (Str.ofString "A").cps.toList) (h2 : ¬ (Str.ofString "Z").cps.toList < (Str.mk #[c]).cps.toList) : ((c : Int) + 32).toNat = low c := by
  have h := sign_mid h1 h2
  unfold low; rw [if_pos h]; omega
theorem sign_chr {prog : Program} {w : World} {A : Around} {E : Value → Shared → Prop} {s : Shared} {c : Nat} {t : Tok} {Q : Value → Shared → Prop} (h1 : ¬ (Str.mk #[c]).cps.toList < (Str.ofString "A").cps.toList) (h2 : ¬ (Str.ofString "Z").cps.toList < (Str.mk #[c]).cps.toList)
    (h : Q (.str ⟨#[((c : Int) + 32).toNat]⟩ s.toks) { s with toks := s.toks + 1 }) : wpAny (model prog w) A (call (.builtin "chr") [.int ((c : Int) + 32) t]) Q E s := by
  have h3 := sign_mid h1 h2
  exact chr_of_range (by omega) (by omega) h
theorem sign_end {prog : Program} {w : World} {A : Around} {E : Value → Shared → Prop} {s : Shared} {t : Sem Value} {n : Nat} (h : wpAny (model prog w) A t (SignEnd n s) E s) : wpAny (model prog w) A t (fun r s₄ => (∃ t', r = .str ⟨#[n]⟩ t') ∧ Keeps s s₄) E s :=
  wpAny_mono h (fun _ _ h => ⟨h.val, h.keeps⟩) fun _ _ e => e
theorem fold_join {prog : Program} {w : World} {A : Around} {E : Value → Shared → Prop} {s : Shared} {h₀ : Heap} {L : Addr} {news : Led} {y x : Str} {D : Addr} {vs : List Value} {n : Nat} {t : Tok} {Q : Value → Shared → Prop} (hn : Nm y x) (N : News h₀ L s.heap ((D, listOf vs.toArray n) :: news)) (hS : StrsAre vs (words y))
    (h : ∀ t' k, Q (.str x t') { s with toks := k }) : wpAny (model prog w) A (call (.builtin "str.join") [.str (S "") t, .ref D]) Q E s := by
  have hw := words_ok _ hn
  refine join_list (News.isList N (.head _)) hS hw.1 ?_
  rw [hw.2]
  exact h
section
theorem rows7 : True := by
  w_top off
  (k_with "call builtin:chr" => ((k_here; with_unfolding_all refine sign_chr (by assumption) (by assumption) ?_)))
  (k_with "SignEnd" => (first | (rw [sign_lo (by assumption)]; exact ⟨⟨_, rfl⟩, _, _, rfl, fun _ _ e => e⟩) | (rw [sign_hi (by assumption)]; exact ⟨⟨_, rfl⟩, _, _, rfl, fun _ _ e => e⟩) | (rw [← sign_up (by assumption) (by assumption)]; exact ⟨⟨_, rfl⟩, _, _, rfl, fun _ _ e => e⟩)))
  (k_with "call builtin:str.join" => ((k_here; with_unfolding_all refine fold_join (by assumption) (by k_asm) (by assumption) ?_; intro _ _)))
  (k_with "eval ListComp" => ((k_here; (k_dflt (refine' comp_signs low ?a ?b ?c ?d ?e ?f ?kF ?kN ?hy ?hit ?helt ?hret; (case a => with_unfolding_all rfl); (case b => with_unfolding_all rfl); (case c => decide); (case d => rfl); (case e => decide); (case f => rfl); (case kF => k_asm); (case kN => k_asm); (case hit => (intro Q' hq'; exact ld (by k_asm) (by rfl) hq')); (case hy => exact nm_size (by assumption)))); (case' helt => (intro C' c' u' s₃' m₃' E' hc' F' N' hn' hm'; refine sign_end ?_)); (case' hret => (intro D' vs' n' h' tk' F' N' hD' hS'; (try k_sweep); (try k_fold))))))
  trivial
set_option maxHeartbeats 8000000 in
theorem fold_call {w : World} {p : Program} {loose : List Str} {mean : ExcName → Option Value} {mg mb : Str → Option Value} {news : Led} {y x : Str} {tt : Tok} (hn : Nm y x) :
    CallTo w p loose mean mg mb 58 [.str y tt] news 1 (fun r news' => ∃ t, r = .str x t ∧ news' = news) := by
  exact ensure_expected_type% "" (by exact ?walk9 : type_of% (let_mvar% ?walk9 := (by
    intro dp un gd cn cs ac ccd cl outer A₀ base h₀ L m s Q E B F X N T hk hdp hun hret
    refine wpAny_call ?_
    k_dflt cell_enter
    refine top_in (by k_asm) hdp hun ?_; clear hdp hun; intro dp9 un9 out9 A9 B9 hdp hun
    k_steps
    all_goals exact hret _ _ _ _ ⟨_, rfl, rfl⟩ (by k_asm) (cb_drop (by assumption) fun _ h => .tail _ h)
    : _); ?walk9))
end
theorem rows8 : True := by
  w_top off
  k_with_none
  (k_with "execs cons" => ((k_here; (with_reducible refine gen_toks (P := fun k => wpAny _ _ _ _ _ ⟨_, _, _, k, _⟩) (_ + _) ?_); intro tk9'; walk_say "TOKS")))
  (k_with "eval Name" => ((k_here; name_kind "globalImplicit"; k_dflt (refine' nameX_K ?F ?X ?T ?e ?_ ?a ?b; (case F => k_asm); (case X => k_asm); (case T => k_asm); (case a => kernel_rfl!); (case b => kernel_rfl!); (case e => k_is); k_whole))))
  (k_with "eval Name" => ((k_here; name_kind "local"; k_dflt (refine' nameX_L ?F ?v ?_ ?a ?b; (case F => k_asm); (case a => kernel_rfl!); (case b => kernel_rfl!); (case v => rfl); k_whole))))
  (k_with "execs nil" => ((k_here; (with_reducible refine gen_toks (P := fun k => wpAny _ _ _ _ _ ⟨_, _, _, k, _⟩) (_ + _) ?_); intro tk9'; walk_say "TOKS")))
  (k_with "eval Name" => ((k_here; name_kind "globalImplicit"; name_is_builtin; k_dflt (refine' nameX_B ?F ?X ?T ?e ?v ?n ?_ ?a ?b; (case F => k_asm); (case X => k_asm); (case T => k_asm); (case a => kernel_rfl!); (case b => kernel_rfl!); (case e => k_is); (case v => boot_fast); (case n => decide); k_whole))))
  (k_with "ite" => ((k_closed; first | with_reducible refine ite_ff ?_ | with_reducible refine ite_tt ?_ | k_dflt (first | refine ite_t rfl ?_ | refine ite_f rfl ?_))))
  (k_with "call builtin:isinstance" => ((k_here; k_dflt (refine' isi_call ?k1 ?k2 ?k3 ?k4 ?_; (case k1 => k_in); (case k2 => k_types); (case k3 => k_is); (case k4 => intro e; cases e); k_whole))))
  (k_with "ktr_room" => (k_dflt (first | exact room2 (by with_reducible assumption) (by decide) | exact room1 (by with_reducible assumption) rfl | exact room0 (by with_reducible assumption))))
  (k_with "ktr_units" => (k_dflt (first | exact units2 (by with_reducible assumption) (by decide) | exact units1 (by with_reducible assumption) rfl | exact units0 (by with_reducible assumption) rfl | exact room0 (by with_reducible assumption))))
  (k_with "k_in" => (first | with_reducible assumption | exact Frag.In.keeps (by with_reducible assumption) (Fr.keep (by with_reducible assumption))))
  (k_with "call builtin:isinstance" => ((k_here; (with_reducible show wpAny _ _ (call _ [Value.ref _, Value.ref _]) _ _ _); k_dflt (refine' kin_callC ?k1 ?k2 ?k3 ?k4 ?k5 ?k6 ?k7 ?k8 ?k9 ?_; (case k1 => k_in); (case k2 => k_inst); (case k3 => kin_no); (case k4 => k_is); (case k5 => k_is); (case k6 => k_is); (case k7 => k_is); (case k8 => k_is); (case k9 => k_is); k_whole))))
  (k_with "getAttr ref" => ((k_here; k_dflt (refine' get_own ?k1 ?k2 ?k3 ?k4 ?k5 ?k6 ?k7 ?k8 ?k9 ?_; (case k1 => k_asm); (case k2 => k_asm); (case k3 => k_inst); (case k4 => k_is); (case k5 => k_is); (case k6 => k_is); (case k7 => k_is); (case k8 => k_get); (case k9 => k_handed); k_whole))))
  (k_with "k_room" => (ktr_room))
  (k_with "k_units" => (ktr_units))
  (k_with "k_all" => (assumption))
  (k_with "k_mem" => (first | assumption | ((with_reducible show Pick _ _ _); first | exact Pick.head | exact Pick.tail (Pick.head) | exact Pick.tail (Pick.tail (Pick.head)) | exact Pick.tail (Pick.tail (Pick.tail (Pick.head))) | exact Pick.tail (Pick.tail (Pick.tail (Pick.tail (Pick.head)))) | exact Pick.tail (Pick.tail (Pick.tail (Pick.tail (Pick.tail (Pick.head))))) | exact Pick.tail (Pick.tail (Pick.tail (Pick.tail (Pick.tail (Pick.tail (Pick.head)))))) | exact Pick.tail (Pick.tail (Pick.tail (Pick.tail (Pick.tail (Pick.tail (Pick.tail (Pick.head))))))) | exact Pick.t8 (Pick.head) | exact Pick.t8 (Pick.tail (Pick.head)) | exact Pick.t8 (Pick.tail (Pick.tail (Pick.head))) | exact Pick.t8 (Pick.tail (Pick.tail (Pick.tail (Pick.head)))) | exact Pick.t8 (Pick.tail (Pick.tail (Pick.tail (Pick.tail (Pick.head))))) | exact Pick.t8 (Pick.tail (Pick.tail (Pick.tail (Pick.tail (Pick.tail (Pick.head)))))) | exact Pick.t8 (Pick.tail (Pick.tail (Pick.tail (Pick.tail (Pick.tail (Pick.tail (Pick.head))))))) | exact Pick.t8 (Pick.tail (Pick.tail (Pick.tail (Pick.tail (Pick.tail (Pick.tail (Pick.tail (Pick.head)))))))) | exact Pick.t8 (Pick.t8 (Pick.head)) | exact Pick.t8 (Pick.t8 (Pick.tail (Pick.head))) | exact Pick.t8 (Pick.t8 (Pick.tail (Pick.tail (Pick.head)))) | exact Pick.t8 (Pick.t8 (Pick.tail (Pick.tail (Pick.tail (Pick.head))))) | exact Pick.t8 (Pick.t8 (Pick.tail (Pick.tail (Pick.tail (Pick.tail (Pick.head)))))) | exact Pick.t8 (Pick.t8 (Pick.tail (Pick.tail (Pick.tail (Pick.tail (Pick.tail (Pick.head))))))) | exact Pick.t8 (Pick.t8 (Pick.tail (Pick.tail (Pick.tail (Pick.tail (Pick.tail (Pick.tail (Pick.head)))))))) | exact Pick.t8 (Pick.t8 (Pick.tail (Pick.tail (Pick.tail (Pick.tail (Pick.tail (Pick.tail (Pick.tail (Pick.head))))))))) | exact Pick.t8 (Pick.t8 (Pick.t8 (Pick.head))) | exact Pick.t8 (Pick.t8 (Pick.t8 (Pick.tail (Pick.head)))) | exact Pick.t8 (Pick.t8 (Pick.t8 (Pick.tail (Pick.tail (Pick.head))))) | exact Pick.t8 (Pick.t8 (Pick.t8 (Pick.tail (Pick.tail (Pick.tail (Pick.head)))))) | exact Pick.t8 (Pick.t8 (Pick.t8 (Pick.tail (Pick.tail (Pick.tail (Pick.tail (Pick.head))))))) | exact Pick.t8 (Pick.t8 (Pick.t8 (Pick.tail (Pick.tail (Pick.tail (Pick.tail (Pick.tail (Pick.head)))))))) | exact Pick.t8 (Pick.t8 (Pick.t8 (Pick.tail (Pick.tail (Pick.tail (Pick.tail (Pick.tail (Pick.tail (Pick.head))))))))) | exact Pick.t8 (Pick.t8 (Pick.t8 (Pick.tail (Pick.tail (Pick.tail (Pick.tail (Pick.tail (Pick.tail (Pick.tail (Pick.head)))))))))) | exact Pick.t8 (Pick.t8 (Pick.t8 (Pick.t8 (Pick.head)))) | exact Pick.t8 (Pick.t8 (Pick.t8 (Pick.t8 (Pick.tail (Pick.head))))) | exact Pick.t8 (Pick.t8 (Pick.t8 (Pick.t8 (Pick.tail (Pick.tail (Pick.head)))))) | exact Pick.t8 (Pick.t8 (Pick.t8 (Pick.t8 (Pick.tail (Pick.tail (Pick.tail (Pick.head))))))) | exact Pick.t8 (Pick.t8 (Pick.t8 (Pick.t8 (Pick.tail (Pick.tail (Pick.tail (Pick.tail (Pick.head)))))))) | exact Pick.t8 (Pick.t8 (Pick.t8 (Pick.t8 (Pick.tail (Pick.tail (Pick.tail (Pick.tail (Pick.tail (Pick.head))))))))) | exact Pick.t8 (Pick.t8 (Pick.t8 (Pick.t8 (Pick.tail (Pick.tail (Pick.tail (Pick.tail (Pick.tail (Pick.tail (Pick.head)))))))))) | exact Pick.t8 (Pick.t8 (Pick.t8 (Pick.t8 (Pick.tail (Pick.tail (Pick.tail (Pick.tail (Pick.tail (Pick.tail (Pick.tail (Pick.head))))))))))) | exact Pick.t8 (Pick.t8 (Pick.t8 (Pick.t8 (Pick.t8 (Pick.head))))) | exact Pick.t8 (Pick.t8 (Pick.t8 (Pick.t8 (Pick.t8 (Pick.tail (Pick.head)))))) | exact Pick.t8 (Pick.t8 (Pick.t8 (Pick.t8 (Pick.t8 (Pick.tail (Pick.tail (Pick.head))))))) | exact Pick.t8 (Pick.t8 (Pick.t8 (Pick.t8 (Pick.t8 (Pick.tail (Pick.tail (Pick.tail (Pick.head)))))))) | exact Pick.t8 (Pick.t8 (Pick.t8 (Pick.t8 (Pick.t8 (Pick.tail (Pick.tail (Pick.tail (Pick.tail (Pick.head))))))))) | exact Pick.t8 (Pick.t8 (Pick.t8 (Pick.t8 (Pick.t8 (Pick.tail (Pick.tail (Pick.tail (Pick.tail (Pick.tail (Pick.head)))))))))) | exact Pick.t8 (Pick.t8 (Pick.t8 (Pick.t8 (Pick.t8 (Pick.tail (Pick.tail (Pick.tail (Pick.tail (Pick.tail (Pick.tail (Pick.head))))))))))) | exact Pick.t8 (Pick.t8 (Pick.t8 (Pick.t8 (Pick.t8 (Pick.tail (Pick.tail (Pick.tail (Pick.tail (Pick.tail (Pick.tail (Pick.tail (Pick.head)))))))))))) | exact Pick.t8 (Pick.t8 (Pick.t8 (Pick.t8 (Pick.t8 (Pick.t8 (Pick.head)))))) | exact Pick.t8 (Pick.t8 (Pick.t8 (Pick.t8 (Pick.t8 (Pick.t8 (Pick.tail (Pick.head))))))) | exact Pick.t8 (Pick.t8 (Pick.t8 (Pick.t8 (Pick.t8 (Pick.t8 (Pick.tail (Pick.tail (Pick.head)))))))) | exact Pick.t8 (Pick.t8 (Pick.t8 (Pick.t8 (Pick.t8 (Pick.t8 (Pick.tail (Pick.tail (Pick.tail (Pick.head))))))))) | exact Pick.t8 (Pick.t8 (Pick.t8 (Pick.t8 (Pick.t8 (Pick.t8 (Pick.tail (Pick.tail (Pick.tail (Pick.tail (Pick.head)))))))))) | exact Pick.t8 (Pick.t8 (Pick.t8 (Pick.t8 (Pick.t8 (Pick.t8 (Pick.tail (Pick.tail (Pick.tail (Pick.tail (Pick.tail (Pick.head))))))))))) | exact Pick.t8 (Pick.t8 (Pick.t8 (Pick.t8 (Pick.t8 (Pick.t8 (Pick.tail (Pick.tail (Pick.tail (Pick.tail (Pick.tail (Pick.tail (Pick.head)))))))))))) | exact Pick.t8 (Pick.t8 (Pick.t8 (Pick.t8 (Pick.t8 (Pick.t8 (Pick.tail (Pick.tail (Pick.tail (Pick.tail (Pick.tail (Pick.tail (Pick.tail (Pick.head)))))))))))))) | exact List.Mem.tail _ (by assumption)))
  (k_with "call ref" => ((k_here; (with_reducible show wpAny _ _ (call (Value.ref 965) _) _ _ _); k_dflt (refine' take_use ?k1 ?k2 ?k3 ?k4 ?k5 ?kK ?kp ?ko ?kr ?h2 ?ht ?kd ?ku ?_; (case k2 => k_asm); (case k1 => k_asm); (case k3 => k_asm); (case k4 => k_asm); (case k5 => k_asm); (case kK => first | exact rfl | assumption); (case kp => k_mem); (case ko => assumption); (case kr => k_all); (case h2 => omega); (case ht => omega); (case kd => ktr_room); (case ku => ktr_units); k_whole); intro d' t' o' h' tk' hd0' hd1' hso' F' N'; (try k_sweep); (try k_fold); (try dsimp only); walk_say "TAKE")))
  trivial
section
variable {w : World} {p : Program} {loose : List Str} {mean : ExcName → Option Value} {mg mb : Str → Option Value}
  {dp un : Nat} {gd : Option (List Code)} {cn : Str} {cs : Scope} {a : Addr} {ccd : Value} {cl : List (Str × Addr)} {outer : List Env} {A₀ : Around} {base h₀ : Heap} {L : Addr} {m : Str → Option Value} {s : Shared} {Q E : Value → Shared → Prop}
  {news : Led} {y x : Str} {tt : Tok}
theorem fold_use (B : Below A₀ base outer h₀) (F : Fr h₀ L s.heap m) (X : (Mine.kept.heap_1 w.params).In h₀) (N : News h₀ L s.heap news) (T : Top p loose mean mg mb h₀) (hk : cs.kind = .function)
    (hn : Nm y x) (hd : dp + 1 < recursionLimit) (hu : un + 8 * 1 < cLine)
    (ret : ∀ t h' tk', Fr h₀ L h' m → News h₀ L h' news → Q (.str x t) { s with heap := h', toks := tk' }) :
    wpAny (model PG w) (ktrTop dp un gd cn cs L a ccd cl outer) (call (.ref 58) [.str y tt]) Q E s :=
  fold_call hn _ _ _ _ _ _ _ _ _ _ _ _ _ _ _ _ _ B F X N T hk hd hu fun _ _ h' tk' ⟨t, e, e'⟩ F' N' => by
    subst e e'
    exact ret t h' tk' F' N'
end
def endOf (n : Int) : Str := if (n.fdiv 10).fmod 10 = 1 then S "th" else if n.fmod 10 = 1 then S "st" else if n.fmod 10 = 2 then S "nd" else if n.fmod 10 = 3 then S "rd" else S "th"
def ordF (n : Int) : Str := Str.ofString (toString n) ++ endOf n
theorem rows9 : True := by
  w_top off
  (k_with "call ref" => ((k_here; (with_reducible show wpAny _ _ (call (Value.ref 58) _) _ _ _); k_dflt (refine' fold_use ?k1 ?k2 ?k3 ?k4 ?k5 ?kK ?kn ?kd ?ku ?_; (case k2 => k_asm); (case k1 => k_asm); (case k3 => k_asm); (case k4 => k_asm); (case k5 => k_asm); (case kK => first | exact rfl | assumption); (case kn => assumption); (case kd => ktr_room); (case ku => ktr_units); k_whole); intro t' h' tk' F' N'; (try k_sweep); (try k_fold); (try dsimp only); walk_say "FOLD")))
  trivial
theorem in123 {k : Int} (h : ([1, 2, 3].any fun x => x == k) = true) : k = 1 ∨ k = 2 ∨ k = 3 := by
  simp only [List.any_cons, List.any_nil, Bool.or_false, Bool.or_eq_true, beq_iff_eq] at h
  omega
theorem not123 {k : Int} (h : ([1, 2, 3].any fun x => x == k) = false) : k ≠ 1 ∧ k ≠ 2 ∧ k ≠ 3 := by
  simp only [List.any_cons, List.any_nil, Bool.or_false, Bool.or_eq_false_iff, beq_eq_false_iff_ne] at h
  omega
theorem ord_th1 {n : Int} (h : (n.fdiv 10).fmod 10 = 1) : Str.ofString (toString n) ++ Str.ofString "th" = ordF n := by
  unfold ordF endOf; rw [if_pos h]
theorem ord_th2 {n : Int} (h : ¬ (n.fdiv 10).fmod 10 = 1) (h2 : ([1, 2, 3].any fun x => x == n.fmod 10) = false) : Str.ofString (toString n) ++ Str.ofString "th" = ordF n := by
  have := not123 h2
  unfold ordF endOf; rw [if_neg h, if_neg this.1, if_neg this.2.1, if_neg this.2.2]
theorem ord_st {n : Int} (h : ¬ (n.fdiv 10).fmod 10 = 1) (h2 : n.fmod 10 = 1) : Str.ofString (toString n) ++ Str.ofString "st" = ordF n := by
  unfold ordF endOf; rw [if_neg h, if_pos h2]
theorem ord_nd {n : Int} (h : ¬ (n.fdiv 10).fmod 10 = 1) (h2 : n.fmod 10 = 2) : Str.ofString (toString n) ++ Str.ofString "nd" = ordF n := by
  unfold ordF endOf; rw [if_neg h, if_neg (by omega), if_pos h2]
theorem ord_rd {n : Int} (h : ¬ (n.fdiv 10).fmod 10 = 1) (h2 : n.fmod 10 = 3) : Str.ofString (toString n) ++ Str.ofString "rd" = ordF n := by
  unfold ordF endOf; rw [if_neg h, if_neg (by omega), if_neg (by omega), if_pos h2]
section
theorem rows10 : True := by
  w_top off
  (k_with "subscriptTail" => ((k_here; (with_reducible show wpAny _ _ (subscriptTail _ _ (Value.ref _) (Value.int _ _)) _ _ _); (rcases in123 (by assumption) with h9' | h9' | h9') <;> k_dflt (refine item_tupleT (News.isTup (by k_asm) (by k_mem)) (by omega) (by omega) (by rw [h9']; rfl) (by rfl) ?_))))
  trivial
set_option maxHeartbeats 8000000 in
theorem ordinal_call {w : World} {p : Program} {loose : List Str} {mean : ExcName → Option Value} {mg mb : Str → Option Value} {news : Led} {n : Int} {tt : Tok} (h0 : 0 ≤ n) (h1 : n < 1000000000000000000000) :
    CallTo w p loose mean mg mb 852 [.int n tt] news 1 (fun r news' => ∃ t, r = .str (ordF n) t ∧ news' = news) := by
  exact ensure_expected_type% "" (by exact ?walk9 : type_of% (let_mvar% ?walk9 := (by
    intro dp un gd cn cs ac ccd cl outer A₀ base h₀ L m s Q E B F X N T hk hdp hun hret
    refine wpAny_call ?_
    k_dflt cell_enter
    refine top_in (by k_asm) hdp hun ?_; clear hdp hun; intro dp9 un9 out9 A9 B9 hdp hun
    k_steps
    all_goals first
      | rw [ord_th1 (by assumption)]
      | rw [ord_th2 (by assumption) (by assumption)]
      | rw [ord_st (by assumption) (by assumption)]
      | rw [ord_nd (by assumption) (by assumption)]
      | rw [ord_rd (by assumption) (by assumption)]
    all_goals exact hret _ _ _ _ ⟨_, rfl, rfl⟩ (by k_asm) (cb_drop (by assumption) fun _ h => by first | exact h | exact .tail _ h | exact .tail _ (.tail _ h))
    : _); ?walk9))
end
theorem rows11 : True := by
  w_top off
  k_with_none
  (k_with "execs cons" => ((k_here; (with_reducible refine gen_toks (P := fun k => wpAny _ _ _ _ _ ⟨_, _, _, k, _⟩) (_ + _) ?_); intro tk9'; walk_say "TOKS")))
  (k_with "eval Name" => ((k_here; name_kind "globalImplicit"; k_dflt (refine' nameX_K ?F ?X ?T ?e ?_ ?a ?b; (case F => k_asm); (case X => k_asm); (case T => k_asm); (case a => kernel_rfl!); (case b => kernel_rfl!); (case e => k_is); k_whole))))
  (k_with "eval Name" => ((k_here; name_kind "local"; k_dflt (refine' nameX_L ?F ?v ?_ ?a ?b; (case F => k_asm); (case a => kernel_rfl!); (case b => kernel_rfl!); (case v => rfl); k_whole))))
  (k_with "execs nil" => ((k_here; (with_reducible refine gen_toks (P := fun k => wpAny _ _ _ _ _ ⟨_, _, _, k, _⟩) (_ + _) ?_); intro tk9'; walk_say "TOKS")))
  (k_with "eval Name" => ((k_here; name_kind "globalImplicit"; name_is_builtin; k_dflt (refine' nameX_B ?F ?X ?T ?e ?v ?n ?_ ?a ?b; (case F => k_asm); (case X => k_asm); (case T => k_asm); (case a => kernel_rfl!); (case b => kernel_rfl!); (case e => k_is); (case v => boot_fast); (case n => decide); k_whole))))
  (k_with "ite" => ((k_closed; first | with_reducible refine ite_ff ?_ | with_reducible refine ite_tt ?_ | k_dflt (first | refine ite_t rfl ?_ | refine ite_f rfl ?_))))
  (k_with "call builtin:isinstance" => ((k_here; k_dflt (refine' isi_call ?k1 ?k2 ?k3 ?k4 ?_; (case k1 => k_in); (case k2 => k_types); (case k3 => k_is); (case k4 => intro e; cases e); k_whole))))
  (k_with "ktr_room" => (k_dflt (first | exact room2 (by with_reducible assumption) (by decide) | exact room1 (by with_reducible assumption) rfl | exact room0 (by with_reducible assumption))))
  (k_with "ktr_units" => (k_dflt (first | exact units2 (by with_reducible assumption) (by decide) | exact units1 (by with_reducible assumption) rfl | exact units0 (by with_reducible assumption) rfl | exact room0 (by with_reducible assumption))))
  (k_with "k_in" => (first | with_reducible assumption | exact Frag.In.keeps (by with_reducible assumption) (Fr.keep (by with_reducible assumption))))
  (k_with "call builtin:isinstance" => ((k_here; (with_reducible show wpAny _ _ (call _ [Value.ref _, Value.ref _]) _ _ _); k_dflt (refine' kin_callC ?k1 ?k2 ?k3 ?k4 ?k5 ?k6 ?k7 ?k8 ?k9 ?_; (case k1 => k_in); (case k2 => k_inst); (case k3 => kin_no); (case k4 => k_is); (case k5 => k_is); (case k6 => k_is); (case k7 => k_is); (case k8 => k_is); (case k9 => k_is); k_whole))))
  (k_with "getAttr ref" => ((k_here; k_dflt (refine' get_own ?k1 ?k2 ?k3 ?k4 ?k5 ?k6 ?k7 ?k8 ?k9 ?_; (case k1 => k_asm); (case k2 => k_asm); (case k3 => k_inst); (case k4 => k_is); (case k5 => k_is); (case k6 => k_is); (case k7 => k_is); (case k8 => k_get); (case k9 => k_handed); k_whole))))
  (k_with "k_room" => (ktr_room))
  (k_with "k_units" => (ktr_units))
  (k_with "k_all" => (assumption))
  (k_with "k_mem" => (first | assumption | ((with_reducible show Pick _ _ _); first | exact Pick.head | exact Pick.tail (Pick.head) | exact Pick.tail (Pick.tail (Pick.head)) | exact Pick.tail (Pick.tail (Pick.tail (Pick.head))) | exact Pick.tail (Pick.tail (Pick.tail (Pick.tail (Pick.head)))) | exact Pick.tail (Pick.tail (Pick.tail (Pick.tail (Pick.tail (Pick.head))))) | exact Pick.tail (Pick.tail (Pick.tail (Pick.tail (Pick.tail (Pick.tail (Pick.head)))))) | exact Pick.tail (Pick.tail (Pick.tail (Pick.tail (Pick.tail (Pick.tail (Pick.tail (Pick.head))))))) | exact Pick.t8 (Pick.head) | exact Pick.t8 (Pick.tail (Pick.head)) | exact Pick.t8 (Pick.tail (Pick.tail (Pick.head))) | exact Pick.t8 (Pick.tail (Pick.tail (Pick.tail (Pick.head)))) | exact Pick.t8 (Pick.tail (Pick.tail (Pick.tail (Pick.tail (Pick.head))))) | exact Pick.t8 (Pick.tail (Pick.tail (Pick.tail (Pick.tail (Pick.tail (Pick.head)))))) | exact Pick.t8 (Pick.tail (Pick.tail (Pick.tail (Pick.tail (Pick.tail (Pick.tail (Pick.head))))))) | exact Pick.t8 (Pick.tail (Pick.tail (Pick.tail (Pick.tail (Pick.tail (Pick.tail (Pick.tail (Pick.head)))))))) | exact Pick.t8 (Pick.t8 (Pick.head)) | exact Pick.t8 (Pick.t8 (Pick.tail (Pick.head))) | exact Pick.t8 (Pick.t8 (Pick.tail (Pick.tail (Pick.head)))) | exact Pick.t8 (Pick.t8 (Pick.tail (Pick.tail (Pick.tail (Pick.head))))) | exact Pick.t8 (Pick.t8 (Pick.tail (Pick.tail (Pick.tail (Pick.tail (Pick.head)))))) | exact Pick.t8 (Pick.t8 (Pick.tail (Pick.tail (Pick.tail (Pick.tail (Pick.tail (Pick.head))))))) | exact Pick.t8 (Pick.t8 (Pick.tail (Pick.tail (Pick.tail (Pick.tail (Pick.tail (Pick.tail (Pick.head)))))))) | exact Pick.t8 (Pick.t8 (Pick.tail (Pick.tail (Pick.tail (Pick.tail (Pick.tail (Pick.tail (Pick.tail (Pick.head))))))))) | exact Pick.t8 (Pick.t8 (Pick.t8 (Pick.head))) | exact Pick.t8 (Pick.t8 (Pick.t8 (Pick.tail (Pick.head)))) | exact Pick.t8 (Pick.t8 (Pick.t8 (Pick.tail (Pick.tail (Pick.head))))) | exact Pick.t8 (Pick.t8 (Pick.t8 (Pick.tail (Pick.tail (Pick.tail (Pick.head)))))) | exact Pick.t8 (Pick.t8 (Pick.t8 (Pick.tail (Pick.tail (Pick.tail (Pick.tail (Pick.head))))))) | exact Pick.t8 (Pick.t8 (Pick.t8 (Pick.tail (Pick.tail (Pick.tail (Pick.tail (Pick.tail (Pick.head)))))))) | exact Pick.t8 (Pick.t8 (Pick.t8 (Pick.tail (Pick.tail (Pick.tail (Pick.tail (Pick.tail (Pick.tail (Pick.head))))))))) | exact Pick.t8 (Pick.t8 (Pick.t8 (Pick.tail (Pick.tail (Pick.tail (Pick.tail (Pick.tail (Pick.tail (Pick.tail (Pick.head)))))))))) | exact Pick.t8 (Pick.t8 (Pick.t8 (Pick.t8 (Pick.head)))) | exact Pick.t8 (Pick.t8 (Pick.t8 (Pick.t8 (Pick.tail (Pick.head))))) | exact Pick.t8 (Pick.t8 (Pick.t8 (Pick.t8 (Pick.tail (Pick.tail (Pick.head)))))) | exact Pick.t8 (Pick.t8 (Pick.t8 (Pick.t8 (Pick.tail (Pick.tail (Pick.tail (Pick.head))))))) | exact Pick.t8 (Pick.t8 (Pick.t8 (Pick.t8 (Pick.tail (Pick.tail (Pick.tail (Pick.tail (Pick.head)))))))) | exact Pick.t8 (Pick.t8 (Pick.t8 (Pick.t8 (Pick.tail (Pick.tail (Pick.tail (Pick.tail (Pick.tail (Pick.head))))))))) | exact Pick.t8 (Pick.t8 (Pick.t8 (Pick.t8 (Pick.tail (Pick.tail (Pick.tail (Pick.tail (Pick.tail (Pick.tail (Pick.head)))))))))) | exact Pick.t8 (Pick.t8 (Pick.t8 (Pick.t8 (Pick.tail (Pick.tail (Pick.tail (Pick.tail (Pick.tail (Pick.tail (Pick.tail (Pick.head))))))))))) | exact Pick.t8 (Pick.t8 (Pick.t8 (Pick.t8 (Pick.t8 (Pick.head))))) | exact Pick.t8 (Pick.t8 (Pick.t8 (Pick.t8 (Pick.t8 (Pick.tail (Pick.head)))))) | exact Pick.t8 (Pick.t8 (Pick.t8 (Pick.t8 (Pick.t8 (Pick.tail (Pick.tail (Pick.head))))))) | exact Pick.t8 (Pick.t8 (Pick.t8 (Pick.t8 (Pick.t8 (Pick.tail (Pick.tail (Pick.tail (Pick.head)))))))) | exact Pick.t8 (Pick.t8 (Pick.t8 (Pick.t8 (Pick.t8 (Pick.tail (Pick.tail (Pick.tail (Pick.tail (Pick.head))))))))) | exact Pick.t8 (Pick.t8 (Pick.t8 (Pick.t8 (Pick.t8 (Pick.tail (Pick.tail (Pick.tail (Pick.tail (Pick.tail (Pick.head)))))))))) | exact Pick.t8 (Pick.t8 (Pick.t8 (Pick.t8 (Pick.t8 (Pick.tail (Pick.tail (Pick.tail (Pick.tail (Pick.tail (Pick.tail (Pick.head))))))))))) | exact Pick.t8 (Pick.t8 (Pick.t8 (Pick.t8 (Pick.t8 (Pick.tail (Pick.tail (Pick.tail (Pick.tail (Pick.tail (Pick.tail (Pick.tail (Pick.head)))))))))))) | exact Pick.t8 (Pick.t8 (Pick.t8 (Pick.t8 (Pick.t8 (Pick.t8 (Pick.head)))))) | exact Pick.t8 (Pick.t8 (Pick.t8 (Pick.t8 (Pick.t8 (Pick.t8 (Pick.tail (Pick.head))))))) | exact Pick.t8 (Pick.t8 (Pick.t8 (Pick.t8 (Pick.t8 (Pick.t8 (Pick.tail (Pick.tail (Pick.head)))))))) | exact Pick.t8 (Pick.t8 (Pick.t8 (Pick.t8 (Pick.t8 (Pick.t8 (Pick.tail (Pick.tail (Pick.tail (Pick.head))))))))) | exact Pick.t8 (Pick.t8 (Pick.t8 (Pick.t8 (Pick.t8 (Pick.t8 (Pick.tail (Pick.tail (Pick.tail (Pick.tail (Pick.head)))))))))) | exact Pick.t8 (Pick.t8 (Pick.t8 (Pick.t8 (Pick.t8 (Pick.t8 (Pick.tail (Pick.tail (Pick.tail (Pick.tail (Pick.tail (Pick.head))))))))))) | exact Pick.t8 (Pick.t8 (Pick.t8 (Pick.t8 (Pick.t8 (Pick.t8 (Pick.tail (Pick.tail (Pick.tail (Pick.tail (Pick.tail (Pick.tail (Pick.head)))))))))))) | exact Pick.t8 (Pick.t8 (Pick.t8 (Pick.t8 (Pick.t8 (Pick.t8 (Pick.tail (Pick.tail (Pick.tail (Pick.tail (Pick.tail (Pick.tail (Pick.tail (Pick.head)))))))))))))) | exact List.Mem.tail _ (by assumption)))
  (k_with "call ref" => ((k_here; (with_reducible show wpAny _ _ (call (Value.ref 965) _) _ _ _); k_dflt (refine' take_use ?k1 ?k2 ?k3 ?k4 ?k5 ?kK ?kp ?ko ?kr ?h2 ?ht ?kd ?ku ?_; (case k2 => k_asm); (case k1 => k_asm); (case k3 => k_asm); (case k4 => k_asm); (case k5 => k_asm); (case kK => first | exact rfl | assumption); (case kp => k_mem); (case ko => assumption); (case kr => k_all); (case h2 => omega); (case ht => omega); (case kd => ktr_room); (case ku => ktr_units); k_whole); intro d' t' o' h' tk' hd0' hd1' hso' F' N'; (try k_sweep); (try k_fold); (try dsimp only); walk_say "TAKE")))
  (k_with "call ref" => ((k_here; (with_reducible show wpAny _ _ (call (Value.ref 58) _) _ _ _); k_dflt (refine' fold_use ?k1 ?k2 ?k3 ?k4 ?k5 ?kK ?kn ?kd ?ku ?_; (case k2 => k_asm); (case k1 => k_asm); (case k3 => k_asm); (case k4 => k_asm); (case k5 => k_asm); (case kK => first | exact rfl | assumption); (case kn => assumption); (case kd => ktr_room); (case ku => ktr_units); k_whole); intro t' h' tk' F' N'; (try k_sweep); (try k_fold); (try dsimp only); walk_say "FOLD")))
  trivial
theorem unr_end0 {h₀ : Heap} {L I : Addr} {it : Obj} {rest' : (Str → Option Value) → List (Addr × Obj) → Prop} {s₁ : Shared} {h' : Heap} {tk : Nat} {m' : Str → Option Value} {all : List (Addr × Obj)} (F : Fr h₀ L h' m') (N : News h₀ L h' all)
    (hI : (I, it) ∈ all) (r : rest' m' []) : UnrEnd h₀ L s₁ I it rest' { s₁ with heap := h', toks := tk } :=
  UnrEnd.intro F N [] (List.forall_mem_cons.mpr ⟨hI, List.forall_mem_nil _⟩) (fun p hp => absurd hp List.not_mem_nil) r
theorem big_ok (c : Int) (b : Bool) : 0 ≤ (if -1 - c > c then -1 - c else c) * (if b = true then 1 else 0) := by
  split <;> split <;> omega
theorem ord112 : ordF 112 = Str.ofString "112th" := by decide +kernel
theorem ord3 : ordF 3 = Str.ofString "3rd" := by decide +kernel
theorem ne_own {prog : Program} {w : World} {A : Around} {E : Value → Shared → Prop} {s : Shared} {x : Str} {t u : Tok} {Q : Value → Shared → Prop} (h : Q (.bool false) s) : wpAny (model prog w) A (compareOp .NotEq (.str x t) (.str x u)) Q E s :=
  ne_str (by rw [show (x != x) = false from by simp]; exact h)
theorem ne_as {prog : Program} {w : World} {A : Around} {E : Value → Shared → Prop} {s : Shared} {x y : Str} {t u : Tok} {Q : Value → Shared → Prop} (e : x = y) (h : Q (.bool false) s) : wpAny (model prog w) A (compareOp .NotEq (.str x t) (.str y u)) Q E s := by
  subst e
  exact ne_own h
/-- what is asked of the right side: from the law's own frame, where nothing stands around it that could turn -/
def RightUse : Prop := ∀ (w : World) (p : Program) (loose : List Str) (mean : ExcName → Option Value) (mg mb : Str → Option Value)
  (dp un : Nat) (gd : Option (List Code)) (cn : Str) (cs : Scope) (a : Addr) (ccd : Value) (cl : List (Str × Addr)) (A₀ : Around) (base : Heap) (L : Addr) (m : Str → Option Value) (s : Shared) (Q E : Value → Shared → Prop)
  (src : Addr) (o : Obj) (news rest : Led) (_ : Below A₀ base [] base) (_ : Fr base L s.heap m) (_ : (Mine.kept.heap_1 w.params).In base) (_ : News base L s.heap news) (_ : Top p loose mean mg mb base) (_ : cs.kind = .function)
    (_ : Pick (src, o) news rest) (_ : SrcOk o) (_ : ∀ q ∈ rest, q.1 ≠ src) (_ : dp + 17 < recursionLimit) (_ : un + 8 * 17 < cLine)
    (_ : ∀ o' h' tk', SrcOk o' → Fr base L h' m → News base L h' ((src, o') :: rest) → Q (.bool true) { s with heap := h', toks := tk' }),
    wpAny (model PG w) (ktrTop dp un gd cn cs L a ccd cl []) (call (.ref 1012) [.ref src]) Q E s
theorem right_use {w : World} {p : Program} {loose : List Str} {mean : ExcName → Option Value} {mg mb : Str → Option Value}
  {dp un : Nat} {gd : Option (List Code)} {cn : Str} {cs : Scope} {a : Addr} {ccd : Value} {cl : List (Str × Addr)} {A₀ : Around} {base : Heap} {L : Addr} {m : Str → Option Value} {s : Shared} {Q E : Value → Shared → Prop}
  {src : Addr} {o : Obj} {news rest : Led} (U : RightUse) (B : Below A₀ base [] base) (F : Fr base L s.heap m) (X : (Mine.kept.heap_1 w.params).In base) (N : News base L s.heap news) (T : Top p loose mean mg mb base) (hk : cs.kind = .function)
    (hp : Pick (src, o) news rest) (ho : SrcOk o) (hr : ∀ q ∈ rest, q.1 ≠ src) (hd : dp + 17 < recursionLimit) (hu : un + 8 * 17 < cLine)
    (ret : ∀ o' h' tk', SrcOk o' → Fr base L h' m → News base L h' ((src, o') :: rest) → Q (.bool true) { s with heap := h', toks := tk' }) :
    wpAny (model PG w) (ktrTop dp un gd cn cs L a ccd cl []) (call (.ref 1012) [.ref src]) Q E s :=
  U w p loose mean mg mb dp un gd cn cs a ccd cl A₀ base L m s Q E src o news rest B F X N T hk hp ho hr hd hu ret
open PySem.Builtin PySem.Builtin.Str in
theorem idx_last (len : Nat) (h : 2 ≤ len) : strSliceIndices (some (-2)) none 1 len = strSliceIndices (some ((len - 2 : Nat) : Int)) (some (len : Int)) 1 len := by
  have e1 : (if (-2 : Int) < 0 then (-2 : Int) + len else -2) = ((len - 2 : Nat) : Int) := by rw [if_pos (by decide)]; omega
  have e2 : (if ((len - 2 : Nat) : Int) < 0 then ((len - 2 : Nat) : Int) + len else ((len - 2 : Nat) : Int)) = ((len - 2 : Nat) : Int) := by rw [if_neg (by omega)]
  have e3 : (if (len : Int) < 0 then (len : Int) + len else (len : Int)) = (len : Int) := by rw [if_neg (by omega)]
  have e4 : max (0 : Int) (min (len : Int) len) = len := by omega
  unfold strSliceIndices
  simp only [e1, e2, e3, e4, show (1 : Int) > 0 by decide, if_true]
theorem slice_two {x : Str} {pre : List Nat} {b c : Nat} (h : x.cps.toList = pre ++ [b, c]) : Txt.slice x (some (-2)) none = ⟨#[b, c]⟩ := by
  have hl : x.length = pre.length + 2 := by
    show x.cps.size = _
    rw [← Array.length_toList, h]; simp
  have e : Txt.slice x (some (-2)) none = StrLaws.sliceText x (some ((x.length - 2 : Nat) : Int)) (some (x.length : Int)) := by
    unfold Txt.slice StrLaws.sliceText
    rw [idx_last x.length (by omega)]
  rw [e, StrLaws.sliceText_nat x (by omega) (Nat.le_refl _), h, hl]
  simp
theorem slice_one {x : Str} {c : Nat} (h : x.cps.toList = [c]) : Txt.slice x (some (-2)) none = ⟨#[c]⟩ := by
  have hx : x = ⟨#[c]⟩ := by
    apply Str.ext'
    rw [← Array.toArray_toList (xs := x.cps), h]
  subst hx
  have e : Txt.slice ⟨#[c]⟩ (some (-2)) none = StrLaws.sliceText ⟨#[c]⟩ (some ((0 : Nat) : Int)) (some ((1 : Nat) : Int)) := by
    unfold Txt.slice StrLaws.sliceText
    rfl
  exact e.trans (StrLaws.sliceText_nat (⟨#[c]⟩ : Str) (a := 0) (b := 1) (by decide) (Nat.le_refl _))
def tens : List Nat := [48, 49, 50, 51, 52, 53, 54, 55, 56, 57]
/-- what the text's last two figures tell of the number -/
def LastOf (n : Int) (y : Str) : Prop :=
  (∃ c ∈ tens, y = ⟨#[c]⟩ ∧ ¬ (n.fdiv 10).fmod 10 = 1 ∧ n.fmod 10 = (c : Int) - 48) ∨ (∃ c, y = ⟨#[49, c]⟩ ∧ (n.fdiv 10).fmod 10 = 1) ∨
  (∃ b, ∃ c ∈ tens, b ≠ 49 ∧ y = ⟨#[b, c]⟩ ∧ ¬ (n.fdiv 10).fmod 10 = 1 ∧ n.fmod 10 = (c : Int) - 48)
theorem dig : ∀ d : Nat, d < 10 → (Nat.digitChar d).toNat = 48 + d := by decide
theorem tens_of {d : Nat} (h : d < 10) : 48 + d ∈ tens := by
  have : ∀ d : Nat, d < 10 → 48 + d ∈ tens := by decide
  exact this d h
theorem last_of {n : Int} (h0 : 0 ≤ n) : LastOf n (Txt.slice (Str.ofString (toString n)) (some (-2)) none) := by
  obtain ⟨m, rfl⟩ := Int.eq_ofNat_of_zero_le h0
  have hs := KIN.signs_num m
  have f1 : ((m : Int).fdiv 10).fmod 10 = ((m / 10 % 10 : Nat) : Int) := by
    rw [Int.fdiv_eq_ediv_of_nonneg _ (by decide), Int.fmod_eq_emod_of_nonneg _ (by decide)]; omega
  have f2 : (m : Int).fmod 10 = ((m % 10 : Nat) : Int) := by
    rw [Int.fmod_eq_emod_of_nonneg _ (by decide)]; omega
  unfold LastOf
  rw [f1, f2]
  by_cases h : m < 10
  · refine .inl ⟨48 + m, tens_of h, slice_one ?_, by omega, by omega⟩
    rw [hs, Nat.toDigits_of_lt_base h, List.map_singleton, dig m h]
  · have e : (Str.ofString (toString ((m : Nat) : Int))).cps.toList = (if m / 10 < 10 then [] else (Nat.toDigits 10 (m / 10 / 10)).map Char.toNat) ++ [48 + m / 10 % 10, 48 + m % 10] := by
      rw [hs, Nat.toDigits_of_base_le (by decide) (by omega)]
      by_cases h2 : m / 10 < 10
      · rw [if_pos h2, Nat.toDigits_of_lt_base h2]
        simp only [List.map_append, List.map_cons, List.map_nil, List.nil_append, List.singleton_append]
        rw [dig _ h2, dig _ (by omega), Nat.mod_eq_of_lt h2]
      · rw [if_neg h2, Nat.toDigits_of_base_le (n := m / 10) (by decide) (by omega)]
        simp only [List.map_append, List.map_cons, List.map_nil, List.append_assoc, List.singleton_append]
        rw [dig _ (by omega), dig _ (by omega)]
    have z := slice_two e
    by_cases h1 : m / 10 % 10 = 1
    · refine .inr (.inl ⟨48 + m % 10, ?_, by omega⟩)
      rw [z, h1]
    · exact .inr (.inr ⟨48 + m / 10 % 10, 48 + m % 10, tens_of (by omega), by omega, z, by omega, by omega⟩)
theorem str_ne49 {b c : Nat} (h : b ≠ 49) : (Str.mk #[b] == Str.ofString "1") = false := by
  rw [beq_eq_false_iff_ne]
  intro e
  have : #[b] = #[49] := congrArg Str.cps e
  simp at this
  exact h this
theorem tens_cases {c : Nat} (h : c ∈ tens) : c = 48 ∨ c = 49 ∨ c = 50 ∨ c = 51 ∨ c = 52 ∨ c = 53 ∨ c = 54 ∨ c = 55 ∨ c = 56 ∨ c = 57 := by
  simpa only [tens, List.mem_cons, List.not_mem_nil, or_false] using h
theorem last_slice {prog : Program} {w : World} {A : Around} {E : Value → Shared → Prop} {s : Shared} {value slice : PySem.Expr} {n : Int} {t ui : Tok} {h₀ : Heap} {L : Addr} {m : Str → Option Value} {news : Led} {Q : Value → Shared → Prop} (h0 : 0 ≤ n) (hsz : (Str.ofString (toString n)).length ≤ sizeLine)
    (hF : Fr h₀ L s.heap m) (hN : News h₀ L s.heap news) (h : ∀ h' t' k y, LastOf n y → Fr h₀ L h' m → News h₀ L h' news → Q (.str y t') { s with heap := h', toks := k })
    (hs : subscripted slice false (.str (Str.ofString (toString n)) t) (.ref s.heap.objs.size) = operate [.ref s.heap.objs.size, .str (Str.ofString (toString n)) t] (getItem (.str (Str.ofString (toString n)) t) (.ref s.heap.objs.size)) := by with_unfolding_all rfl)
    (ht : ∀ r, letTemporaryGo value (.str (Str.ofString (toString n)) t) r = pure () := by intro _; with_unfolding_all rfl) :
    wpAny (model prog w) A (subscriptTail value slice (.str (Str.ofString (toString n)) t) (.ref s.heap.objs.size)) Q E { s with heap := s.heap.push { cls := .type "slice", data := .fields #[.int (-2) ui, .none, .none] } } :=
  slice_strN_sn hF hN (fun h' t' k F' N' => h h' t' k _ (last_of h0) F' N') hs ht hsz
section
variable {prog : Program} {w : World} {A : Around} {E : Value → Shared → Prop} {s : Shared} {Q : Value → Shared → Prop} {b c : Nat} {t u : Tok} {value slice : PySem.Expr}
theorem len_two (h : Q (.int 2 (s.toks + 1)) { s with toks := s.toks + 1 + 1 }) : wpAny (model prog w) A (call (.builtin "len") [.str ⟨#[b, c]⟩ t]) Q E s := P.len_str (by show ¬ ((2 : Nat) : Int) ≥ 2 ^ 63; decide) h
theorem item_two0 (h : Q (.str ⟨#[b]⟩ s.toks) { s with toks := s.toks + 1 })
    (hs : subscripted slice false (.str ⟨#[b, c]⟩ t) (.int 0 u) = operate [.str ⟨#[b, c]⟩ t, .int 0 u] (getItem (.str ⟨#[b, c]⟩ t) (.int 0 u)) := by with_unfolding_all rfl)
    (ht : ∀ r, letTemporaryGo value (.str ⟨#[b, c]⟩ t) r = pure () := by intro _; with_unfolding_all rfl) :
    wpAny (model prog w) A (subscriptTail value slice (.str ⟨#[b, c]⟩ t) (.int 0 u)) Q E s :=
  item_str (by decide) (by show -((2 : Nat) : Int) ≤ 0; decide) (by show (0 : Int) < ((2 : Nat) : Int); decide) (fun _ => h) hs ht
theorem item_two1 (h : Q (.str ⟨#[c]⟩ s.toks) { s with toks := s.toks + 1 })
    (hs : subscripted slice false (.str ⟨#[b, c]⟩ t) (.int (-1) u) = operate [.str ⟨#[b, c]⟩ t, .int (-1) u] (getItem (.str ⟨#[b, c]⟩ t) (.int (-1) u)) := by with_unfolding_all rfl)
    (ht : ∀ r, letTemporaryGo value (.str ⟨#[b, c]⟩ t) r = pure () := by intro _; with_unfolding_all rfl) :
    wpAny (model prog w) A (subscriptTail value slice (.str ⟨#[b, c]⟩ t) (.int (-1) u)) Q E s :=
  item_str (by decide) (by show -((2 : Nat) : Int) ≤ -1; decide) (by show (-1 : Int) < ((2 : Nat) : Int); decide) (fun _ => h) hs ht
theorem item_one1 (h : Q (.str ⟨#[c]⟩ s.toks) { s with toks := s.toks + 1 })
    (hs : subscripted slice false (.str ⟨#[c]⟩ t) (.int (-1) u) = operate [.str ⟨#[c]⟩ t, .int (-1) u] (getItem (.str ⟨#[c]⟩ t) (.int (-1) u)) := by with_unfolding_all rfl)
    (ht : ∀ r, letTemporaryGo value (.str ⟨#[c]⟩ t) r = pure () := by intro _; with_unfolding_all rfl) :
    wpAny (model prog w) A (subscriptTail value slice (.str ⟨#[c]⟩ t) (.int (-1) u)) Q E s :=
  item_str (by decide) (by show -((1 : Nat) : Int) ≤ -1; decide) (by show (-1 : Int) < ((1 : Nat) : Int); decide) (fun _ => h) hs ht
theorem eq_is49 (h : Q (.bool true) s) : wpAny (model prog w) A (compareOp .Eq (.str ⟨#[49]⟩ t) (.str (Str.ofString "1") u)) Q E s := P.eq_str h
theorem get_end (H : Heap) {v : Value} {n : Int} (hc : c ∈ tens) (h1 : ¬ (n.fdiv 10).fmod 10 = 1) (h2 : n.fmod 10 = (c : Int) - 48)
    (hv : PyProof.V.Flat v ((Spec.lookup (PyData.str ⟨#[c]⟩) [(PyData.str (Str.ofString "1"), PyData.str (Str.ofString "st")), (PyData.str (Str.ofString "2"), PyData.str (Str.ofString "nd")), (PyData.str (Str.ofString "3"), PyData.str (Str.ofString "rd"))]).getD (PyData.str (Str.ofString "th")))) :
    ∃ t, v = .str (endOf n) t := by
  have key : ((Spec.lookup (PyData.str ⟨#[c]⟩) [(PyData.str (Str.ofString "1"), PyData.str (Str.ofString "st")), (PyData.str (Str.ofString "2"), PyData.str (Str.ofString "nd")), (PyData.str (Str.ofString "3"), PyData.str (Str.ofString "rd"))]).getD (PyData.str (Str.ofString "th"))) = .str (endOf n) := by
    unfold endOf
    rw [if_neg h1, h2]
    rcases tens_cases hc with e | e | e | e | e | e | e | e | e | e <;> subst e <;> rfl
  rw [key] at hv
  have hr := hv H
  cases hr with
  | str _ t => exact ⟨t, rfl⟩
theorem end_len (n : Int) : (endOf n).length ≤ 2 := by
  unfold endOf
  repeat' split
  all_goals decide
theorem num_len {n : Int} (h0 : 0 ≤ n) (h1 : n < 1000000000000000000000) : (Str.ofString (toString n)).length ≤ 22 := by
  rw [PySem.ofString_length]
  exact int_text_length_le10 (k := 21) (by decide) (by omega)
theorem add_end {n : Int} (h0 : 0 ≤ n) (h1 : n < 1000000000000000000000) (h : ∀ t' k, Q (.str (Str.ofString (toString n) ++ endOf n) t') { s with toks := k }) : wpAny (model prog w) A (binaryOp .Add (.str (Str.ofString (toString n)) t) (.str (endOf n) u)) Q E s := by
  have := end_len n
  have := num_len h0 h1
  exact PyProof.Rows.add_str h (by rw [sizeLine_eq]; omega)
theorem eq_not49 (hb : b ≠ 49) (h : Q (.bool false) s) : wpAny (model prog w) A (compareOp .Eq (.str ⟨#[b]⟩ t) (.str (Str.ofString "1") u)) Q E s := by
  refine P.eq_str ?_
  have e : (((⟨#[b]⟩ : Str).cps.toList == (Str.ofString "1").cps.toList)) = false := by
    rw [beq_eq_false_iff_ne]
    intro e
    have : [b] = [49] := e
    exact hb (List.cons.inj this).1
  rw [e]; exact h
end
section
theorem rows12 : True := by
  w_top off
  (k_with "call builtin:len" => ((k_here; (with_reducible show wpAny _ _ (call (Value.builtin "len") [Value.str (Str.mk (List.toArray [_, _])) _]) _ _ _); k_dflt (refine len_two ?_))))
  (k_with "subscriptTail Name Constant str int" => ((k_here; (with_reducible show wpAny _ _ (subscriptTail _ _ (Value.str (Str.mk (List.toArray [_, _])) _) _) _ _ _); k_dflt (refine item_two0 ?_))))
  (k_with "subscriptTail Name UnaryOp str int" => ((k_here; first | ((with_reducible show wpAny _ _ (subscriptTail _ _ (Value.str (Str.mk (List.toArray [_, _])) _) _) _ _ _); k_dflt (refine item_two1 ?_)) | ((with_reducible show wpAny _ _ (subscriptTail _ _ (Value.str (Str.mk (List.toArray [_])) _) _) _ _ _); k_dflt (refine item_one1 ?_)))))
  (k_with "compareOp Eq str str" => ((k_here; first | ((with_reducible show wpAny _ _ (compareOp _ (Value.str (Str.mk (List.toArray [49])) _) (Value.str (Str.ofString "1") _)) _ _ _); k_dflt (refine eq_is49 ?_)) | ((with_reducible show wpAny _ _ (compareOp _ (Value.str (Str.mk (List.toArray [_])) _) (Value.str (Str.ofString "1") _)) _ _ _); k_dflt (refine eq_not49 (by assumption) ?_)))))
  (k_with "binaryOp Add str str" => ((k_here; (with_reducible show wpAny _ _ (binaryOp _ (Value.str _ _) (Value.str (endOf _) _)) _ _ _); k_dflt (refine add_end (by assumption) (by assumption) ?_); intro _ _)))
  (k_with "binaryOp Add str" => ((k_here; k_dflt (obtain ⟨t9', e9'⟩ := get_end ({} : Heap) (by assumption) (by assumption) (by assumption) (by assumption); subst e9'))))
  (k_with "subscriptTail Call" => ((k_here; (with_reducible show wpAny _ _ (subscriptTail _ (Expr.Slice (some _) none none _) _ _) _ _ _); (with_reducible show wpAny _ _ (subscriptTail _ _ (Value.str _ _) (Value.ref _)) _ _ _); (refine last_slice (hsz := ?hsz) (s := ⟨_, _, _, _, _⟩) (by assumption) (by assumption) (by assumption) ?_); (case hsz => size_fits); intro h' t' k' y' hy' F' N'; k_dflt ((rcases hy' with ⟨c', hc', e', e1', e2'⟩ | ⟨c', e', e1'⟩ | ⟨b', c', hc', hb', e', e1', e2'⟩) <;> subst e'))))
  trivial
set_option maxHeartbeats 8000000 in
theorem lordinal_call {w : World} {p : Program} {loose : List Str} {mean : ExcName → Option Value} {mg mb : Str → Option Value} {news : Led} {n : Int} {tt : Tok} (h0 : 0 ≤ n) (h1 : n < 1000000000000000000000) :
    CallTo w p loose mean mg mb 986 [.int n tt] news 1 (fun r news' => ∃ t, r = .str (ordF n) t ∧ news' = news) := by
  exact ensure_expected_type% "" (by exact ?walk9 : type_of% (let_mvar% ?walk9 := (by
    intro dp un gd cn cs ac ccd cl outer A₀ base h₀ L m s Q E B F X N T hk hdp hun hret
    refine wpAny_call ?_
    k_dflt cell_enter
    refine top_in (by k_asm) hdp hun ?_; clear hdp hun; intro dp9 un9 out9 A9 B9 hdp hun
    k_steps
    all_goals first
      | (rw [ord_th1 (by assumption)]; exact hret _ _ _ _ ⟨_, rfl, rfl⟩ (by k_asm) (cb_drop (by assumption) fun _ h => h))
      | exact hret _ _ _ _ ⟨_, rfl, rfl⟩ (by k_asm) (cb_drop (by assumption) fun _ h => .tail _ h)
    : _); ?walk9))
end
theorem rows13 : True := by
  w_top off
  k_with_none
  (k_with "execs cons" => ((k_here; (with_reducible refine gen_toks (P := fun k => wpAny _ _ _ _ _ ⟨_, _, _, k, _⟩) (_ + _) ?_); intro tk9'; walk_say "TOKS")))
  (k_with "eval Name" => ((k_here; name_kind "globalImplicit"; k_dflt (refine' nameX_K ?F ?X ?T ?e ?_ ?a ?b; (case F => k_asm); (case X => k_asm); (case T => k_asm); (case a => kernel_rfl!); (case b => kernel_rfl!); (case e => k_is); k_whole))))
  (k_with "eval Name" => ((k_here; name_kind "local"; k_dflt (refine' nameX_L ?F ?v ?_ ?a ?b; (case F => k_asm); (case a => kernel_rfl!); (case b => kernel_rfl!); (case v => rfl); k_whole))))
  (k_with "execs nil" => ((k_here; (with_reducible refine gen_toks (P := fun k => wpAny _ _ _ _ _ ⟨_, _, _, k, _⟩) (_ + _) ?_); intro tk9'; walk_say "TOKS")))
  (k_with "eval Name" => ((k_here; name_kind "globalImplicit"; name_is_builtin; k_dflt (refine' nameX_B ?F ?X ?T ?e ?v ?n ?_ ?a ?b; (case F => k_asm); (case X => k_asm); (case T => k_asm); (case a => kernel_rfl!); (case b => kernel_rfl!); (case e => k_is); (case v => boot_fast); (case n => decide); k_whole))))
  (k_with "ite" => ((k_closed; first | with_reducible refine ite_ff ?_ | with_reducible refine ite_tt ?_ | k_dflt (first | refine ite_t rfl ?_ | refine ite_f rfl ?_))))
  (k_with "call builtin:isinstance" => ((k_here; k_dflt (refine' isi_call ?k1 ?k2 ?k3 ?k4 ?_; (case k1 => k_in); (case k2 => k_types); (case k3 => k_is); (case k4 => intro e; cases e); k_whole))))
  (k_with "ktr_room" => (k_dflt (first | exact room2 (by with_reducible assumption) (by decide) | exact room1 (by with_reducible assumption) rfl | exact room0 (by with_reducible assumption))))
  (k_with "ktr_units" => (k_dflt (first | exact units2 (by with_reducible assumption) (by decide) | exact units1 (by with_reducible assumption) rfl | exact units0 (by with_reducible assumption) rfl | exact room0 (by with_reducible assumption))))
  (k_with "k_in" => (first | with_reducible assumption | exact Frag.In.keeps (by with_reducible assumption) (Fr.keep (by with_reducible assumption))))
  (k_with "call builtin:isinstance" => ((k_here; (with_reducible show wpAny _ _ (call _ [Value.ref _, Value.ref _]) _ _ _); k_dflt (refine' kin_callC ?k1 ?k2 ?k3 ?k4 ?k5 ?k6 ?k7 ?k8 ?k9 ?_; (case k1 => k_in); (case k2 => k_inst); (case k3 => kin_no); (case k4 => k_is); (case k5 => k_is); (case k6 => k_is); (case k7 => k_is); (case k8 => k_is); (case k9 => k_is); k_whole))))
  (k_with "getAttr ref" => ((k_here; k_dflt (refine' get_own ?k1 ?k2 ?k3 ?k4 ?k5 ?k6 ?k7 ?k8 ?k9 ?_; (case k1 => k_asm); (case k2 => k_asm); (case k3 => k_inst); (case k4 => k_is); (case k5 => k_is); (case k6 => k_is); (case k7 => k_is); (case k8 => k_get); (case k9 => k_handed); k_whole))))
  (k_with "k_room" => (ktr_room))
  (k_with "k_units" => (ktr_units))
  (k_with "k_all" => (assumption))
  (k_with "k_mem" => (first | assumption | ((with_reducible show Pick _ _ _); first | exact Pick.head | exact Pick.tail (Pick.head) | exact Pick.tail (Pick.tail (Pick.head)) | exact Pick.tail (Pick.tail (Pick.tail (Pick.head))) | exact Pick.tail (Pick.tail (Pick.tail (Pick.tail (Pick.head)))) | exact Pick.tail (Pick.tail (Pick.tail (Pick.tail (Pick.tail (Pick.head))))) | exact Pick.tail (Pick.tail (Pick.tail (Pick.tail (Pick.tail (Pick.tail (Pick.head)))))) | exact Pick.tail (Pick.tail (Pick.tail (Pick.tail (Pick.tail (Pick.tail (Pick.tail (Pick.head))))))) | exact Pick.t8 (Pick.head) | exact Pick.t8 (Pick.tail (Pick.head)) | exact Pick.t8 (Pick.tail (Pick.tail (Pick.head))) | exact Pick.t8 (Pick.tail (Pick.tail (Pick.tail (Pick.head)))) | exact Pick.t8 (Pick.tail (Pick.tail (Pick.tail (Pick.tail (Pick.head))))) | exact Pick.t8 (Pick.tail (Pick.tail (Pick.tail (Pick.tail (Pick.tail (Pick.head)))))) | exact Pick.t8 (Pick.tail (Pick.tail (Pick.tail (Pick.tail (Pick.tail (Pick.tail (Pick.head))))))) | exact Pick.t8 (Pick.tail (Pick.tail (Pick.tail (Pick.tail (Pick.tail (Pick.tail (Pick.tail (Pick.head)))))))) | exact Pick.t8 (Pick.t8 (Pick.head)) | exact Pick.t8 (Pick.t8 (Pick.tail (Pick.head))) | exact Pick.t8 (Pick.t8 (Pick.tail (Pick.tail (Pick.head)))) | exact Pick.t8 (Pick.t8 (Pick.tail (Pick.tail (Pick.tail (Pick.head))))) | exact Pick.t8 (Pick.t8 (Pick.tail (Pick.tail (Pick.tail (Pick.tail (Pick.head)))))) | exact Pick.t8 (Pick.t8 (Pick.tail (Pick.tail (Pick.tail (Pick.tail (Pick.tail (Pick.head))))))) | exact Pick.t8 (Pick.t8 (Pick.tail (Pick.tail (Pick.tail (Pick.tail (Pick.tail (Pick.tail (Pick.head)))))))) | exact Pick.t8 (Pick.t8 (Pick.tail (Pick.tail (Pick.tail (Pick.tail (Pick.tail (Pick.tail (Pick.tail (Pick.head))))))))) | exact Pick.t8 (Pick.t8 (Pick.t8 (Pick.head))) | exact Pick.t8 (Pick.t8 (Pick.t8 (Pick.tail (Pick.head)))) | exact Pick.t8 (Pick.t8 (Pick.t8 (Pick.tail (Pick.tail (Pick.head))))) | exact Pick.t8 (Pick.t8 (Pick.t8 (Pick.tail (Pick.tail (Pick.tail (Pick.head)))))) | exact Pick.t8 (Pick.t8 (Pick.t8 (Pick.tail (Pick.tail (Pick.tail (Pick.tail (Pick.head))))))) | exact Pick.t8 (Pick.t8 (Pick.t8 (Pick.tail (Pick.tail (Pick.tail (Pick.tail (Pick.tail (Pick.head)))))))) | exact Pick.t8 (Pick.t8 (Pick.t8 (Pick.tail (Pick.tail (Pick.tail (Pick.tail (Pick.tail (Pick.tail (Pick.head))))))))) | exact Pick.t8 (Pick.t8 (Pick.t8 (Pick.tail (Pick.tail (Pick.tail (Pick.tail (Pick.tail (Pick.tail (Pick.tail (Pick.head)))))))))) | exact Pick.t8 (Pick.t8 (Pick.t8 (Pick.t8 (Pick.head)))) | exact Pick.t8 (Pick.t8 (Pick.t8 (Pick.t8 (Pick.tail (Pick.head))))) | exact Pick.t8 (Pick.t8 (Pick.t8 (Pick.t8 (Pick.tail (Pick.tail (Pick.head)))))) | exact Pick.t8 (Pick.t8 (Pick.t8 (Pick.t8 (Pick.tail (Pick.tail (Pick.tail (Pick.head))))))) | exact Pick.t8 (Pick.t8 (Pick.t8 (Pick.t8 (Pick.tail (Pick.tail (Pick.tail (Pick.tail (Pick.head)))))))) | exact Pick.t8 (Pick.t8 (Pick.t8 (Pick.t8 (Pick.tail (Pick.tail (Pick.tail (Pick.tail (Pick.tail (Pick.head))))))))) | exact Pick.t8 (Pick.t8 (Pick.t8 (Pick.t8 (Pick.tail (Pick.tail (Pick.tail (Pick.tail (Pick.tail (Pick.tail (Pick.head)))))))))) | exact Pick.t8 (Pick.t8 (Pick.t8 (Pick.t8 (Pick.tail (Pick.tail (Pick.tail (Pick.tail (Pick.tail (Pick.tail (Pick.tail (Pick.head))))))))))) | exact Pick.t8 (Pick.t8 (Pick.t8 (Pick.t8 (Pick.t8 (Pick.head))))) | exact Pick.t8 (Pick.t8 (Pick.t8 (Pick.t8 (Pick.t8 (Pick.tail (Pick.head)))))) | exact Pick.t8 (Pick.t8 (Pick.t8 (Pick.t8 (Pick.t8 (Pick.tail (Pick.tail (Pick.head))))))) | exact Pick.t8 (Pick.t8 (Pick.t8 (Pick.t8 (Pick.t8 (Pick.tail (Pick.tail (Pick.tail (Pick.head)))))))) | exact Pick.t8 (Pick.t8 (Pick.t8 (Pick.t8 (Pick.t8 (Pick.tail (Pick.tail (Pick.tail (Pick.tail (Pick.head))))))))) | exact Pick.t8 (Pick.t8 (Pick.t8 (Pick.t8 (Pick.t8 (Pick.tail (Pick.tail (Pick.tail (Pick.tail (Pick.tail (Pick.head)))))))))) | exact Pick.t8 (Pick.t8 (Pick.t8 (Pick.t8 (Pick.t8 (Pick.tail (Pick.tail (Pick.tail (Pick.tail (Pick.tail (Pick.tail (Pick.head))))))))))) | exact Pick.t8 (Pick.t8 (Pick.t8 (Pick.t8 (Pick.t8 (Pick.tail (Pick.tail (Pick.tail (Pick.tail (Pick.tail (Pick.tail (Pick.tail (Pick.head)))))))))))) | exact Pick.t8 (Pick.t8 (Pick.t8 (Pick.t8 (Pick.t8 (Pick.t8 (Pick.head)))))) | exact Pick.t8 (Pick.t8 (Pick.t8 (Pick.t8 (Pick.t8 (Pick.t8 (Pick.tail (Pick.head))))))) | exact Pick.t8 (Pick.t8 (Pick.t8 (Pick.t8 (Pick.t8 (Pick.t8 (Pick.tail (Pick.tail (Pick.head)))))))) | exact Pick.t8 (Pick.t8 (Pick.t8 (Pick.t8 (Pick.t8 (Pick.t8 (Pick.tail (Pick.tail (Pick.tail (Pick.head))))))))) | exact Pick.t8 (Pick.t8 (Pick.t8 (Pick.t8 (Pick.t8 (Pick.t8 (Pick.tail (Pick.tail (Pick.tail (Pick.tail (Pick.head)))))))))) | exact Pick.t8 (Pick.t8 (Pick.t8 (Pick.t8 (Pick.t8 (Pick.t8 (Pick.tail (Pick.tail (Pick.tail (Pick.tail (Pick.tail (Pick.head))))))))))) | exact Pick.t8 (Pick.t8 (Pick.t8 (Pick.t8 (Pick.t8 (Pick.t8 (Pick.tail (Pick.tail (Pick.tail (Pick.tail (Pick.tail (Pick.tail (Pick.head)))))))))))) | exact Pick.t8 (Pick.t8 (Pick.t8 (Pick.t8 (Pick.t8 (Pick.t8 (Pick.tail (Pick.tail (Pick.tail (Pick.tail (Pick.tail (Pick.tail (Pick.tail (Pick.head)))))))))))))) | exact List.Mem.tail _ (by assumption)))
  (k_with "call ref" => ((k_here; (with_reducible show wpAny _ _ (call (Value.ref 965) _) _ _ _); k_dflt (refine' take_use ?k1 ?k2 ?k3 ?k4 ?k5 ?kK ?kp ?ko ?kr ?h2 ?ht ?kd ?ku ?_; (case k2 => k_asm); (case k1 => k_asm); (case k3 => k_asm); (case k4 => k_asm); (case k5 => k_asm); (case kK => first | exact rfl | assumption); (case kp => k_mem); (case ko => assumption); (case kr => k_all); (case h2 => omega); (case ht => omega); (case kd => ktr_room); (case ku => ktr_units); k_whole); intro d' t' o' h' tk' hd0' hd1' hso' F' N'; (try k_sweep); (try k_fold); (try dsimp only); walk_say "TAKE")))
  (k_with "call ref" => ((k_here; (with_reducible show wpAny _ _ (call (Value.ref 58) _) _ _ _); k_dflt (refine' fold_use ?k1 ?k2 ?k3 ?k4 ?k5 ?kK ?kn ?kd ?ku ?_; (case k2 => k_asm); (case k1 => k_asm); (case k3 => k_asm); (case k4 => k_asm); (case k5 => k_asm); (case kK => first | exact rfl | assumption); (case kn => assumption); (case kd => ktr_room); (case ku => ktr_units); k_whole); intro t' h' tk' F' N'; (try k_sweep); (try k_fold); (try dsimp only); walk_say "FOLD")))
  trivial
theorem ord_len {n : Int} (h0 : 0 ≤ n) (h1 : n < 1000000000000000000000) : (ordF n).length ≤ 24 := by
  have := num_len h0 h1
  have := end_len n
  unfold ordF
  rw [Str.length_append]
  omega
section
variable {w : World} {p : Program} {loose : List Str} {mean : ExcName → Option Value} {mg mb : Str → Option Value}
  {dp un : Nat} {gd : Option (List Code)} {cn : Str} {cs : Scope} {a : Addr} {ccd : Value} {cl : List (Str × Addr)} {outer : List Env} {A₀ : Around} {base h₀ : Heap} {L : Addr} {m : Str → Option Value} {s : Shared} {Q E : Value → Shared → Prop}
  {news : Led} {n : Int} {tt : Tok}
theorem lordinal_use (B : Below A₀ base outer h₀) (F : Fr h₀ L s.heap m) (X : (Mine.kept.heap_1 w.params).In h₀) (N : News h₀ L s.heap news) (T : Top p loose mean mg mb h₀) (hk : cs.kind = .function)
    (h0 : 0 ≤ n) (h1 : n < 1000000000000000000000) (hd : dp + 1 < recursionLimit) (hu : un + 8 * 1 < cLine)
    (ret : ∀ t h' tk', (ordF n).length ≤ 24 → Fr h₀ L h' m → News h₀ L h' news → Q (.str (ordF n) t) { s with heap := h', toks := tk' }) :
    wpAny (model PG w) (ktrTop dp un gd cn cs L a ccd cl outer) (call (.ref 986) [.int n tt]) Q E s :=
  lordinal_call h0 h1 _ _ _ _ _ _ _ _ _ _ _ _ _ _ _ _ _ B F X N T hk hd hu fun _ _ h' tk' ⟨t, e, e'⟩ F' N' => by
    subst e e'
    exact ret t h' tk' (ord_len h0 h1) F' N'
end
section
variable {w : World} {p : Program} {loose : List Str} {mean : ExcName → Option Value} {mg mb : Str → Option Value}
  {dp un : Nat} {gd : Option (List Code)} {cn : Str} {cs : Scope} {a : Addr} {ccd : Value} {cl : List (Str × Addr)} {outer : List Env} {A₀ : Around} {base h₀ : Heap} {L : Addr} {m : Str → Option Value} {s : Shared} {Q E : Value → Shared → Prop}
  {news : Led} {n : Int} {tt : Tok}
theorem ordinal_use (B : Below A₀ base outer h₀) (F : Fr h₀ L s.heap m) (X : (Mine.kept.heap_1 w.params).In h₀) (N : News h₀ L s.heap news) (T : Top p loose mean mg mb h₀) (hk : cs.kind = .function)
    (h0 : 0 ≤ n) (h1 : n < 1000000000000000000000) (hd : dp + 1 < recursionLimit) (hu : un + 8 * 1 < cLine)
    (ret : ∀ t h' tk', (ordF n).length ≤ 24 → Fr h₀ L h' m → News h₀ L h' news → Q (.str (ordF n) t) { s with heap := h', toks := tk' }) :
    wpAny (model PG w) (ktrTop dp un gd cn cs L a ccd cl outer) (call (.ref 852) [.int n tt]) Q E s :=
  ordinal_call h0 h1 _ _ _ _ _ _ _ _ _ _ _ _ _ _ _ _ _ B F X N T hk hd hu fun _ _ h' tk' ⟨t, e, e'⟩ F' N' => by
    subst e e'
    exact ret t h' tk' (ord_len h0 h1) F' N'
end
inductive NamesAre : List Value → List Str → Prop
  | nil : NamesAre [] []
  | cons (t : Tok) {y x : Str} {vs : List Value} {xs : List Str} : Nm y x → NamesAre vs xs → NamesAre (.str y t :: vs) (x :: xs)
theorem rows14 : True := by
  w_top off
  (k_with "call ref" => ((k_here; (with_reducible show wpAny _ _ (call (Value.ref 986) _) _ _ _); k_dflt (refine' lordinal_use ?k1 ?k2 ?k3 ?k4 ?k5 ?kK ?h0 ?h1 ?kd ?ku ?_; (case k2 => k_asm); (case k1 => k_asm); (case k3 => k_asm); (case k4 => k_asm); (case k5 => k_asm); (case kK => first | exact rfl | assumption); (case h0 => omega); (case h1 => omega); (case kd => ktr_room); (case ku => ktr_units); k_whole); intro t' h' tk' hol' F' N'; (try k_sweep); (try k_fold); (try dsimp only); walk_say "LORDINAL")))
  (k_with "call ref" => ((k_here; (with_reducible show wpAny _ _ (call (Value.ref 852) _) _ _ _); k_dflt (refine' ordinal_use ?k1 ?k2 ?k3 ?k4 ?k5 ?kK ?h0 ?h1 ?kd ?ku ?_; (case k2 => k_asm); (case k1 => k_asm); (case k3 => k_asm); (case k4 => k_asm); (case k5 => k_asm); (case kK => first | exact rfl | assumption); (case h0 => omega); (case h1 => omega); (case kd => ktr_room); (case ku => ktr_units); k_whole); intro t' h' tk' hol' F' N'; (try k_sweep); (try k_fold); (try dsimp only); walk_say "ORDINAL")))
  trivial
theorem NamesAre.length : ∀ {vs : List Value} {xs : List Str}, NamesAre vs xs → vs.length = xs.length
  | _, _, .nil => rfl
  | _, _, .cons _ _ h => by rw [List.length_cons, List.length_cons, h.length]
theorem NamesAre.get : ∀ {vs : List Value} {xs : List Str}, NamesAre vs xs → ∀ i : Nat, i < xs.length → ∃ y x t, vs[i]? = some (.str y t) ∧ xs[i]? = some x ∧ Nm y x
  | _, _, .cons t h _, 0, _ => ⟨_, _, t, rfl, rfl, h⟩
  | _, _, .cons _ _ h, i + 1, hi => by simpa using h.get i (by simpa using hi)
def placeV : Option Nat → Tok → Value
  | none, _ => .none
  | some i, t => .int i t
/-- a name's own dict: what its maker lays -/
def NameDict (tb col src pl dep : Value) (d : Obj) : Prop := ∃ a1 a2 a3 a4 a5 t1 t2 t3 t4 t5 n, d = dictOf [⟨a1, .str (Str.ofString "table") t1, tb⟩, ⟨a2, .str (Str.ofString "column") t2, col⟩, ⟨a3, .str (Str.ofString "source") t3, src⟩, ⟨a4, .str (Str.ofString "place") t4, pl⟩, ⟨a5, .str (Str.ofString "depth") t5, dep⟩] n
theorem alias_step {xs : List Str} {u x : Str} {pre : List Int} {k : Int} (h : ∀ j : Nat, j < pre.length → xs[j]? ≠ some u) (hx : xs[pre.length]? = some x) (hne : (x == u) = false) : ∀ j : Nat, j < (pre ++ [k]).length → xs[j]? ≠ some u := by
  intro j hj
  rw [List.length_append, List.length_singleton] at hj
  by_cases hj' : j < pre.length
  · exact h j hj'
  · have e : j = pre.length := by omega
    subst e
    rw [hx]
    intro e
    rw [Option.some.inj e, beq_self_eq_true] at hne
    cases hne
theorem alias_hit {xs : List Str} {u x : Str} {n : Nat} (h : ∀ j : Nat, j < n → xs[j]? ≠ some u) (hx : xs[n]? = some x) (he : (x == u) = true) : xs.findIdx? (· == u) = some n := by
  rw [beq_iff_eq.mp he] at hx
  obtain ⟨hn, hxe⟩ := List.getElem?_eq_some_iff.mp hx
  rw [List.findIdx?_eq_some_iff_getElem]
  refine ⟨hn, by rw [hxe]; exact beq_self_eq_true u, fun j hj hp => ?_⟩
  have := h j hj
  rw [List.getElem?_eq_getElem (by omega)] at this
  exact this (by rw [beq_iff_eq.mp hp])
theorem alias_miss {xs : List Str} {u : Str} (h : ∀ j : Nat, j < xs.length → xs[j]? ≠ some u) : xs.findIdx? (· == u) = none := by
  rw [List.findIdx?_eq_none_iff]
  intro x hx
  obtain ⟨j, hj, e⟩ := List.getElem_of_mem hx
  rw [beq_eq_false_iff_ne]
  rintro rfl
  exact h j hj (by rw [List.getElem?_eq_getElem hj, e])
theorem names_item {prog : Program} {w : World} {A : Around} {E Q : Value → Shared → Prop} {s : Shared} {value slice : PySem.Expr} {h₀ : Heap} {L nl : Addr} {news : Led} {vs : List Value} {xs : List Str} {k : Nat} {pre : List Int} {i : Int} {t : Tok} (N : News h₀ L s.heap news) (hm : (nl, listOf vs.toArray k) ∈ news) (hn : NamesAre vs xs) (h4 : xs.length ≤ 4)
    (he : i = 0 + (pre.length : Int)) (hlt : pre.length < ((vs.toArray.size : Int) - 0).toNat) (h : ∀ y x t, xs[pre.length]? = some x → Nm y x → Q (.str y t) s)
    (hsl : subscripted slice false (.ref nl) (.int i t) = operate [.ref nl, .int i t] (getItem (.ref nl) (.int i t)) := by with_unfolding_all rfl) (hg : ∀ r, letTemporaryGo value (.ref nl) r = pure () := by intro _; with_unfolding_all rfl) :
    wpAny (model prog w) A (subscriptTail value slice (.ref nl) (.int i t)) Q E s := by
  have hl := hn.length
  rw [List.size_toArray] at hlt
  obtain ⟨y, x, t', e1, e2, e3⟩ := hn.get pre.length (by omega)
  refine item_list (News.isList N hm) (by omega) (by omega) (x := .str y t') ?_ (h y x t' e2 e3) hsl hg
  have : i.toNat = pre.length := by omega
  rw [this, List.getElem?_toArray]
  exact e1
theorem alias_ret1 {xs : List Str} {u x : Str} {pre : List Int} {k : Int} {t : Tok} (h : ∀ j : Nat, j < pre.length → xs[j]? ≠ some u) (hx : xs[pre.length]? = some x) (he : (x == u) = true) (hk : k = 0 + (pre.length : Int)) : Value.int k t = placeV (xs.findIdx? (· == u)) t := by
  rw [alias_hit h hx he, hk, Int.zero_add]
  rfl
theorem alias_ret2 {vs : List Value} {xs : List Str} {u : Str} (hn : NamesAre vs xs) (h : ∀ j : Nat, j < (rangeKs 0 ((vs.toArray.size : Int) - 0).toNat).length → xs[j]? ≠ some u) : Value.none = placeV (xs.findIdx? (· == u)) 0 := by
  rw [alias_miss fun j hj => h j (by rw [rangeKs_length, List.size_toArray, hn.length]; omega)]
  rfl
theorem len_short {prog : Program} {w : World} {A : Around} {E Q : Value → Shared → Prop} {s : Shared} {h₀ : Heap} {L nl : Addr} {news : Led} {vs : List Value} {k : Nat} (N : News h₀ L s.heap news) (hm : (nl, listOf vs.toArray k) ∈ news) (h : vs.length ≤ 100) (hq : Q (.int vs.length (s.toks + 1)) { s with toks := s.toks + 1 + 1 }) :
    wpAny (model prog w) A (call (.builtin "len") [.ref nl]) Q E s :=
  len_list (News.isList N hm) (by rw [List.size_toArray]; omega) (by rw [List.size_toArray]; exact hq)
section
theorem rows15 : True := by
  w_top off
  (k_with "call builtin:len" => ((k_here; (with_reducible show wpAny _ _ (call (Value.builtin "len") [Value.ref _]) _ _ _); k_dflt (refine' len_list ?l ?f ?_; (case l => exact News.isList (by k_asm) (by k_mem)); (case f => (rw [List.size_toArray]; omega)); k_whole))))
  (k_with "subscriptTail Name Name ref int" => ((k_here; k_dflt (refine' names_item ?kN ?km ?kn ?k4 ?ke ?kl ?_; (case kN => k_asm); (case km => k_mem); (case kn => assumption); (case k4 => assumption); (case ke => assumption); (case kl => assumption); k_whole); intro y' x' t' hx' hnm')))
  trivial
set_option maxHeartbeats 8000000 in
theorem alias_call {w : World} {p : Program} {loose : List Str} {mean : ExcName → Option Value} {mg mb : Str → Option Value} {news : Led} {e dx nl : Addr} {dd : Obj} {vs : List Value} {xs : List Str} {k : Nat} {v u : Str} {tv : Tok} {v3 v4 v5 : Value}
    (he : (e, instObj 153 dx) ∈ news) (hd : (dx, dd) ∈ news) (hdd : NameDict .none (.str v tv) v3 v4 v5 dd) (hv : Nm v u) (hl : (nl, listOf vs.toArray k) ∈ news) (hn : NamesAre vs xs) (h4 : xs.length ≤ 4) :
    CallTo w p loose mean mg mb 866 [.ref e, .ref nl] news 2 (fun r news' => (∃ t, r = placeV (xs.findIdx? (· == u)) t) ∧ news' = news) := by
  exact ensure_expected_type% "" (by exact ?walk9 : type_of% (let_mvar% ?walk9 := (by
    obtain ⟨a1, a2, a3, a4, a5, t1, t2, t3, t4, t5, n, rfl⟩ := hdd
    have hvl := hn.length
    intro dp un gd cn cs ac ccd cl outer A₀ base h₀ L m s Q E B F X N T hk hdp hun hret
    refine wpAny_call ?_
    k_dflt cell_enter
    k_with "pyIter ref" => k_search (fun pre => ∀ j : Nat, j < pre.length → xs[j]? ≠ some u)
    k_with "state" => first | exact fun _ h => absurd h (Nat.not_lt_zero _) | exact alias_step (by assumption) (by assumption) (by assumption)
    k_steps
    · exact hret _ _ _ _ ⟨⟨_, alias_ret1 (by assumption) (by assumption) (by assumption) (by assumption)⟩, rfl⟩ (by k_asm) (cb_drop (by assumption) fun _ h => List.mem_append.mpr (.inl h))
    · exact hret _ _ _ _ ⟨⟨_, alias_ret2 hn (by assumption)⟩, rfl⟩ (by k_asm) (by k_asm)
    : _); ?walk9))
end
theorem rows16 : True := by
  w_top off
  k_with_none
  (k_with "execs cons" => ((k_here; (with_reducible refine gen_toks (P := fun k => wpAny _ _ _ _ _ ⟨_, _, _, k, _⟩) (_ + _) ?_); intro tk9'; walk_say "TOKS")))
  (k_with "eval Name" => ((k_here; name_kind "globalImplicit"; k_dflt (refine' nameX_K ?F ?X ?T ?e ?_ ?a ?b; (case F => k_asm); (case X => k_asm); (case T => k_asm); (case a => kernel_rfl!); (case b => kernel_rfl!); (case e => k_is); k_whole))))
  (k_with "eval Name" => ((k_here; name_kind "local"; k_dflt (refine' nameX_L ?F ?v ?_ ?a ?b; (case F => k_asm); (case a => kernel_rfl!); (case b => kernel_rfl!); (case v => rfl); k_whole))))
  (k_with "execs nil" => ((k_here; (with_reducible refine gen_toks (P := fun k => wpAny _ _ _ _ _ ⟨_, _, _, k, _⟩) (_ + _) ?_); intro tk9'; walk_say "TOKS")))
  (k_with "eval Name" => ((k_here; name_kind "globalImplicit"; name_is_builtin; k_dflt (refine' nameX_B ?F ?X ?T ?e ?v ?n ?_ ?a ?b; (case F => k_asm); (case X => k_asm); (case T => k_asm); (case a => kernel_rfl!); (case b => kernel_rfl!); (case e => k_is); (case v => boot_fast); (case n => decide); k_whole))))
  (k_with "ite" => ((k_closed; first | with_reducible refine ite_ff ?_ | with_reducible refine ite_tt ?_ | k_dflt (first | refine ite_t rfl ?_ | refine ite_f rfl ?_))))
  (k_with "call builtin:isinstance" => ((k_here; k_dflt (refine' isi_call ?k1 ?k2 ?k3 ?k4 ?_; (case k1 => k_in); (case k2 => k_types); (case k3 => k_is); (case k4 => intro e; cases e); k_whole))))
  (k_with "ktr_room" => (k_dflt (first | exact room2 (by with_reducible assumption) (by decide) | exact room1 (by with_reducible assumption) rfl | exact room0 (by with_reducible assumption))))
  (k_with "ktr_units" => (k_dflt (first | exact units2 (by with_reducible assumption) (by decide) | exact units1 (by with_reducible assumption) rfl | exact units0 (by with_reducible assumption) rfl | exact room0 (by with_reducible assumption))))
  (k_with "k_in" => (first | with_reducible assumption | exact Frag.In.keeps (by with_reducible assumption) (Fr.keep (by with_reducible assumption))))
  (k_with "call builtin:isinstance" => ((k_here; (with_reducible show wpAny _ _ (call _ [Value.ref _, Value.ref _]) _ _ _); k_dflt (refine' kin_callC ?k1 ?k2 ?k3 ?k4 ?k5 ?k6 ?k7 ?k8 ?k9 ?_; (case k1 => k_in); (case k2 => k_inst); (case k3 => kin_no); (case k4 => k_is); (case k5 => k_is); (case k6 => k_is); (case k7 => k_is); (case k8 => k_is); (case k9 => k_is); k_whole))))
  (k_with "getAttr ref" => ((k_here; k_dflt (refine' get_own ?k1 ?k2 ?k3 ?k4 ?k5 ?k6 ?k7 ?k8 ?k9 ?_; (case k1 => k_asm); (case k2 => k_asm); (case k3 => k_inst); (case k4 => k_is); (case k5 => k_is); (case k6 => k_is); (case k7 => k_is); (case k8 => k_get); (case k9 => k_handed); k_whole))))
  (k_with "k_room" => (ktr_room))
  (k_with "k_units" => (ktr_units))
  (k_with "k_all" => (assumption))
  (k_with "k_mem" => (first | assumption | ((with_reducible show Pick _ _ _); first | exact Pick.head | exact Pick.tail (Pick.head) | exact Pick.tail (Pick.tail (Pick.head)) | exact Pick.tail (Pick.tail (Pick.tail (Pick.head))) | exact Pick.tail (Pick.tail (Pick.tail (Pick.tail (Pick.head)))) | exact Pick.tail (Pick.tail (Pick.tail (Pick.tail (Pick.tail (Pick.head))))) | exact Pick.tail (Pick.tail (Pick.tail (Pick.tail (Pick.tail (Pick.tail (Pick.head)))))) | exact Pick.tail (Pick.tail (Pick.tail (Pick.tail (Pick.tail (Pick.tail (Pick.tail (Pick.head))))))) | exact Pick.t8 (Pick.head) | exact Pick.t8 (Pick.tail (Pick.head)) | exact Pick.t8 (Pick.tail (Pick.tail (Pick.head))) | exact Pick.t8 (Pick.tail (Pick.tail (Pick.tail (Pick.head)))) | exact Pick.t8 (Pick.tail (Pick.tail (Pick.tail (Pick.tail (Pick.head))))) | exact Pick.t8 (Pick.tail (Pick.tail (Pick.tail (Pick.tail (Pick.tail (Pick.head)))))) | exact Pick.t8 (Pick.tail (Pick.tail (Pick.tail (Pick.tail (Pick.tail (Pick.tail (Pick.head))))))) | exact Pick.t8 (Pick.tail (Pick.tail (Pick.tail (Pick.tail (Pick.tail (Pick.tail (Pick.tail (Pick.head)))))))) | exact Pick.t8 (Pick.t8 (Pick.head)) | exact Pick.t8 (Pick.t8 (Pick.tail (Pick.head))) | exact Pick.t8 (Pick.t8 (Pick.tail (Pick.tail (Pick.head)))) | exact Pick.t8 (Pick.t8 (Pick.tail (Pick.tail (Pick.tail (Pick.head))))) | exact Pick.t8 (Pick.t8 (Pick.tail (Pick.tail (Pick.tail (Pick.tail (Pick.head)))))) | exact Pick.t8 (Pick.t8 (Pick.tail (Pick.tail (Pick.tail (Pick.tail (Pick.tail (Pick.head))))))) | exact Pick.t8 (Pick.t8 (Pick.tail (Pick.tail (Pick.tail (Pick.tail (Pick.tail (Pick.tail (Pick.head)))))))) | exact Pick.t8 (Pick.t8 (Pick.tail (Pick.tail (Pick.tail (Pick.tail (Pick.tail (Pick.tail (Pick.tail (Pick.head))))))))) | exact Pick.t8 (Pick.t8 (Pick.t8 (Pick.head))) | exact Pick.t8 (Pick.t8 (Pick.t8 (Pick.tail (Pick.head)))) | exact Pick.t8 (Pick.t8 (Pick.t8 (Pick.tail (Pick.tail (Pick.head))))) | exact Pick.t8 (Pick.t8 (Pick.t8 (Pick.tail (Pick.tail (Pick.tail (Pick.head)))))) | exact Pick.t8 (Pick.t8 (Pick.t8 (Pick.tail (Pick.tail (Pick.tail (Pick.tail (Pick.head))))))) | exact Pick.t8 (Pick.t8 (Pick.t8 (Pick.tail (Pick.tail (Pick.tail (Pick.tail (Pick.tail (Pick.head)))))))) | exact Pick.t8 (Pick.t8 (Pick.t8 (Pick.tail (Pick.tail (Pick.tail (Pick.tail (Pick.tail (Pick.tail (Pick.head))))))))) | exact Pick.t8 (Pick.t8 (Pick.t8 (Pick.tail (Pick.tail (Pick.tail (Pick.tail (Pick.tail (Pick.tail (Pick.tail (Pick.head)))))))))) | exact Pick.t8 (Pick.t8 (Pick.t8 (Pick.t8 (Pick.head)))) | exact Pick.t8 (Pick.t8 (Pick.t8 (Pick.t8 (Pick.tail (Pick.head))))) | exact Pick.t8 (Pick.t8 (Pick.t8 (Pick.t8 (Pick.tail (Pick.tail (Pick.head)))))) | exact Pick.t8 (Pick.t8 (Pick.t8 (Pick.t8 (Pick.tail (Pick.tail (Pick.tail (Pick.head))))))) | exact Pick.t8 (Pick.t8 (Pick.t8 (Pick.t8 (Pick.tail (Pick.tail (Pick.tail (Pick.tail (Pick.head)))))))) | exact Pick.t8 (Pick.t8 (Pick.t8 (Pick.t8 (Pick.tail (Pick.tail (Pick.tail (Pick.tail (Pick.tail (Pick.head))))))))) | exact Pick.t8 (Pick.t8 (Pick.t8 (Pick.t8 (Pick.tail (Pick.tail (Pick.tail (Pick.tail (Pick.tail (Pick.tail (Pick.head)))))))))) | exact Pick.t8 (Pick.t8 (Pick.t8 (Pick.t8 (Pick.tail (Pick.tail (Pick.tail (Pick.tail (Pick.tail (Pick.tail (Pick.tail (Pick.head))))))))))) | exact Pick.t8 (Pick.t8 (Pick.t8 (Pick.t8 (Pick.t8 (Pick.head))))) | exact Pick.t8 (Pick.t8 (Pick.t8 (Pick.t8 (Pick.t8 (Pick.tail (Pick.head)))))) | exact Pick.t8 (Pick.t8 (Pick.t8 (Pick.t8 (Pick.t8 (Pick.tail (Pick.tail (Pick.head))))))) | exact Pick.t8 (Pick.t8 (Pick.t8 (Pick.t8 (Pick.t8 (Pick.tail (Pick.tail (Pick.tail (Pick.head)))))))) | exact Pick.t8 (Pick.t8 (Pick.t8 (Pick.t8 (Pick.t8 (Pick.tail (Pick.tail (Pick.tail (Pick.tail (Pick.head))))))))) | exact Pick.t8 (Pick.t8 (Pick.t8 (Pick.t8 (Pick.t8 (Pick.tail (Pick.tail (Pick.tail (Pick.tail (Pick.tail (Pick.head)))))))))) | exact Pick.t8 (Pick.t8 (Pick.t8 (Pick.t8 (Pick.t8 (Pick.tail (Pick.tail (Pick.tail (Pick.tail (Pick.tail (Pick.tail (Pick.head))))))))))) | exact Pick.t8 (Pick.t8 (Pick.t8 (Pick.t8 (Pick.t8 (Pick.tail (Pick.tail (Pick.tail (Pick.tail (Pick.tail (Pick.tail (Pick.tail (Pick.head)))))))))))) | exact Pick.t8 (Pick.t8 (Pick.t8 (Pick.t8 (Pick.t8 (Pick.t8 (Pick.head)))))) | exact Pick.t8 (Pick.t8 (Pick.t8 (Pick.t8 (Pick.t8 (Pick.t8 (Pick.tail (Pick.head))))))) | exact Pick.t8 (Pick.t8 (Pick.t8 (Pick.t8 (Pick.t8 (Pick.t8 (Pick.tail (Pick.tail (Pick.head)))))))) | exact Pick.t8 (Pick.t8 (Pick.t8 (Pick.t8 (Pick.t8 (Pick.t8 (Pick.tail (Pick.tail (Pick.tail (Pick.head))))))))) | exact Pick.t8 (Pick.t8 (Pick.t8 (Pick.t8 (Pick.t8 (Pick.t8 (Pick.tail (Pick.tail (Pick.tail (Pick.tail (Pick.head)))))))))) | exact Pick.t8 (Pick.t8 (Pick.t8 (Pick.t8 (Pick.t8 (Pick.t8 (Pick.tail (Pick.tail (Pick.tail (Pick.tail (Pick.tail (Pick.head))))))))))) | exact Pick.t8 (Pick.t8 (Pick.t8 (Pick.t8 (Pick.t8 (Pick.t8 (Pick.tail (Pick.tail (Pick.tail (Pick.tail (Pick.tail (Pick.tail (Pick.head)))))))))))) | exact Pick.t8 (Pick.t8 (Pick.t8 (Pick.t8 (Pick.t8 (Pick.t8 (Pick.tail (Pick.tail (Pick.tail (Pick.tail (Pick.tail (Pick.tail (Pick.tail (Pick.head)))))))))))))) | exact List.Mem.tail _ (by assumption)))
  (k_with "call ref" => ((k_here; (with_reducible show wpAny _ _ (call (Value.ref 965) _) _ _ _); k_dflt (refine' take_use ?k1 ?k2 ?k3 ?k4 ?k5 ?kK ?kp ?ko ?kr ?h2 ?ht ?kd ?ku ?_; (case k2 => k_asm); (case k1 => k_asm); (case k3 => k_asm); (case k4 => k_asm); (case k5 => k_asm); (case kK => first | exact rfl | assumption); (case kp => k_mem); (case ko => assumption); (case kr => k_all); (case h2 => omega); (case ht => omega); (case kd => ktr_room); (case ku => ktr_units); k_whole); intro d' t' o' h' tk' hd0' hd1' hso' F' N'; (try k_sweep); (try k_fold); (try dsimp only); walk_say "TAKE")))
  (k_with "call ref" => ((k_here; (with_reducible show wpAny _ _ (call (Value.ref 58) _) _ _ _); k_dflt (refine' fold_use ?k1 ?k2 ?k3 ?k4 ?k5 ?kK ?kn ?kd ?ku ?_; (case k2 => k_asm); (case k1 => k_asm); (case k3 => k_asm); (case k4 => k_asm); (case k5 => k_asm); (case kK => first | exact rfl | assumption); (case kn => assumption); (case kd => ktr_room); (case ku => ktr_units); k_whole); intro t' h' tk' F' N'; (try k_sweep); (try k_fold); (try dsimp only); walk_say "FOLD")))
  (k_with "call ref" => ((k_here; (with_reducible show wpAny _ _ (call (Value.ref 986) _) _ _ _); k_dflt (refine' lordinal_use ?k1 ?k2 ?k3 ?k4 ?k5 ?kK ?h0 ?h1 ?kd ?ku ?_; (case k2 => k_asm); (case k1 => k_asm); (case k3 => k_asm); (case k4 => k_asm); (case k5 => k_asm); (case kK => first | exact rfl | assumption); (case h0 => omega); (case h1 => omega); (case kd => ktr_room); (case ku => ktr_units); k_whole); intro t' h' tk' hol' F' N'; (try k_sweep); (try k_fold); (try dsimp only); walk_say "LORDINAL")))
  (k_with "call ref" => ((k_here; (with_reducible show wpAny _ _ (call (Value.ref 852) _) _ _ _); k_dflt (refine' ordinal_use ?k1 ?k2 ?k3 ?k4 ?k5 ?kK ?h0 ?h1 ?kd ?ku ?_; (case k2 => k_asm); (case k1 => k_asm); (case k3 => k_asm); (case k4 => k_asm); (case k5 => k_asm); (case kK => first | exact rfl | assumption); (case h0 => omega); (case h1 => omega); (case kd => ktr_room); (case ku => ktr_units); k_whole); intro t' h' tk' hol' F' N'; (try k_sweep); (try k_fold); (try dsimp only); walk_say "ORDINAL")))
  trivial
section
variable {w : World} {p : Program} {loose : List Str} {mean : ExcName → Option Value} {mg mb : Str → Option Value}
  {dp un : Nat} {gd : Option (List Code)} {cn : Str} {cs : Scope} {a : Addr} {ccd : Value} {cl : List (Str × Addr)} {outer : List Env} {A₀ : Around} {base h₀ : Heap} {L : Addr} {m : Str → Option Value} {s : Shared} {Q E : Value → Shared → Prop}
  {news : Led} {e dx nl : Addr} {vs : List Value} {xs : List Str} {k n : Nat} {v u : Str} {v3 v4 v5 : Value} {a1 a2 a3 a4 a5 : Int} {t1 t2 t3 t4 t5 tv : Tok}
theorem alias_use (B : Below A₀ base outer h₀) (F : Fr h₀ L s.heap m) (X : (Mine.kept.heap_1 w.params).In h₀) (N : News h₀ L s.heap news) (T : Top p loose mean mg mb h₀) (hk : cs.kind = .function)
    (he : (e, instObj 153 dx) ∈ news) (hd : (dx, dictOf [⟨a1, .str (Str.ofString "table") t1, .none⟩, ⟨a2, .str (Str.ofString "column") t2, .str v tv⟩, ⟨a3, .str (Str.ofString "source") t3, v3⟩, ⟨a4, .str (Str.ofString "place") t4, v4⟩, ⟨a5, .str (Str.ofString "depth") t5, v5⟩] n) ∈ news)
    (hv : Nm v u) (hl : (nl, listOf vs.toArray k) ∈ news) (hn : NamesAre vs xs) (h4 : xs.length ≤ 4) (hdp : dp + 2 < recursionLimit) (hu : un + 8 * 2 < cLine)
    (ret : ∀ t h' tk', Fr h₀ L h' m → News h₀ L h' news → Q (placeV (xs.findIdx? (· == u)) t) { s with heap := h', toks := tk' }) :
    wpAny (model PG w) (ktrTop dp un gd cn cs L a ccd cl outer) (call (.ref 866) [.ref e, .ref nl]) Q E s :=
  alias_call he hd ⟨_, _, _, _, _, _, _, _, _, _, _, rfl⟩ hv hl hn h4 _ _ _ _ _ _ _ _ _ _ _ _ _ _ _ _ _ B F X N T hk hdp hu fun _ _ h' tk' ⟨⟨t, e⟩, e'⟩ F' N' => by
    subst e e'
    exact ret t h' tk' F' N'
end
abbrev tupObj (vs : List Value) : Obj := { cls := .type "tuple", data := .seq vs.toArray }
abbrev excObj (C T : Addr) (d : Option Addr) : Obj := { cls := .ref C, dict := d, data := .fields #[.ref T, .none, .none, .none, .bool false, .none] }
theorem rows17 : True := by
  w_top off
  (k_with "call builtin:len" => ((k_here; (with_reducible show wpAny _ _ (call (Value.builtin "len") [Value.ref _]) _ _ _); k_dflt (refine' len_short ?N ?m ?f ?_; (case N => k_asm); (case m => k_mem); (case f => omega); k_whole))))
  (k_with "call ref" => ((k_here; (with_reducible show wpAny _ _ (call (Value.ref 866) _) _ _ _); k_dflt (refine' alias_use ?k1 ?k2 ?k3 ?k4 ?k5 ?kK ?ke ?kD ?kv ?kl ?kn ?k9 ?kd ?ku ?_; (case k2 => k_asm); (case k1 => k_asm); (case k3 => k_asm); (case k4 => k_asm); (case k5 => k_asm); (case kK => first | exact rfl | assumption); (case ke => k_mem); (case kD => k_mem); (case kv => assumption); (case kl => k_mem); (case kn => assumption); (case k9 => assumption); (case kd => ktr_room); (case ku => ktr_units); k_whole); intro t' h' tk' F' N'; (try k_sweep); (try k_fold); (try dsimp only); walk_say "ALIAS")))
  trivial
section
open PySem.Sem (wp)
variable {prog : Program} {w : World} {A : Around} {E : Value → Shared → Prop} {R : Result → Shared → Prop} {h : Heap} {g : Array GenState} {d : Drawn} {t : Nat} {os : OsState}
variable {nm q : Str} {C N : Addr} {bs bm : List Value} {hdct : Bool} {sn : List Str} {sub : List Value} {ab : Bool} {col : Option Bool} {dd : Option Addr} {k0 k1 k2 k3 k5 : Option Value}

theorem exc_check {rest : List Value} {Q : Unit → Shared → Prop} (hC : h.get? C = some (excClassObj nm q C N bs bm hdct sn sub ab col dd k0 k1 k2 k3 k5 "Exception.__new__"))
    (b1 : bm.contains (.type "Exception") = true) (hq : Q () ⟨h, g, d, t, os⟩) : wpAny (model prog w) A (checkBuiltinCall "Exception.__new__" ⟨.ref C :: rest, []⟩) Q E ⟨h, g, d, t, os⟩ := by
  have F := PySem.F.excBase_Exception
  have hcont : (Value.ref C :: bm).contains (.type "Exception") = true := by rw [List.contains_cons, b1, Bool.or_true]
  have hstar := F.noStar
  simp only [checkBuiltinCall, F.newKind, F.newSplit, F.newRow]
  repeat (first | refine wpAny_loadPart_at hC ?_ | (refine wpAny_isSubtype_exc hC ?_; rw [hcont]) | refine wpAny_staticBase_exc hC ?_ | refine wpAny_madeBy_exc hC ?_ | simp only [bne_self_eq_false, Bool.false_eq_true, if_false] | wp_step)
  exact hq
theorem exc_new {rest : List Value} (hC : h.get? C = some (excClassObj nm q C N bs bm hdct sn sub ab col dd k0 k1 k2 k3 k5 "Exception.__new__"))
    (b1 : bm.contains (.type "Exception") = true) (b2 : bm.contains (.type "AttributeError") = false) (b3 : bm.contains (.type "NameError") = false) (hrest : rest.length ≤ sizeLine)
    (hq : R (.ok (.ret (.ref (h.objs.size + 1)))) ⟨(h.push (tupObj rest)).push (excObj C h.objs.size none), g, d, t, os⟩) :
    codeAny (model prog w) A (.builtin "Exception.__new__" ⟨.ref C :: rest, []⟩) R ⟨h, g, d, t, os⟩ := by
  have F := PySem.F.excBase_Exception
  have hends := F.ends
  have hcB : (Value.ref C :: bm).contains (.type "Exception") = true := by rw [List.contains_cons, b1, Bool.or_true]
  have hcA : (Value.ref C :: bm).contains (.type "AttributeError") = false := by rw [List.contains_cons, b2]; rfl
  have hcN : (Value.ref C :: bm).contains (.type "NameError") = false := by rw [List.contains_cons, b3]; rfl
  refine codeAny_builtinAt F.entry ?_
  unfold Builtin.«BaseException.__new__»
  refine PySem.wpAt_bind ?_
  show PySem.wpAt _ _ _ (stack >>= _) _ _ _
  refine PySem.wpAt_bind (PySem.wpAt_stack fun p below => PySem.wpAt_of_wpAny ?_)
  wp_walk
  refine PySem.wpAt_of_wpAny ?_
  rw [F.owner]
  repeat (first | with_reducible refine wpAny_madeHere_exc F.canon hC ?_ | with_reducible refine wpAny_loadPart_at hC ?_ | (with_reducible refine wpAny_isSubtype_exc hC ?_; first | rw [hcB] | rw [hcA] | rw [hcN]) | wp_step)
  show R _ _
  rw [Heap.size_push]
  exact hq

theorem exc_type_call {rest : List Value} {fI : Addr} {Q : Fin → Shared → Prop} (hC : h.get? C = some (excClassObj nm q C N bs bm hdct sn sub ab col dd k0 k1 k2 k3 k5 "Exception.__new__"))
    (b1 : bm.contains (.type "Exception") = true) (b2 : bm.contains (.type "AttributeError") = false) (b3 : bm.contains (.type "NameError") = false) (hrest : rest.length ≤ sizeLine)
    (hi : Looks (model prog w) h (typeLookup (.ref C) "__init__") (some (.ref fI))) (hb : ∀ self, Looks (model prog w) h (bindSpecial (.ref fI) self) (.ref fI, [self]))
    (hq : codeAny (model prog w) A (.call (.ref fI) ⟨.ref (h.objs.size + 1) :: rest, []⟩) (InitBack (h.objs.size + 1) fun r s' => match r with | .ok f => Q (.done f) s' | .error e => E e s') ⟨(h.push (tupObj rest)).push (excObj C h.objs.size none), g, d, t, os⟩) :
    wpAny (model prog w) A (Builtin.«type.__call__» ⟨.ref C :: rest, []⟩) Q E ⟨h, g, d, t, os⟩ := by
  repeat (first | with_reducible refine wpAny_loadPart_at hC ?_ | with_reducible refine wpAny_madeBy_exc hC ?_ | wp_step)
  refine codeAny_call_builtin_code (Code.quiet_builtin _ PySem.F.excBase_Exception.quiet) (exc_check hC b1 ?_)
  refine exc_new hC b1 b2 b3 hrest ?_
  show wpAny _ _ _ _ _ _
  have k : ∀ b o, h.get? b = some o → ((h.push (tupObj rest)).push (excObj C h.objs.size none)).get? b = some o := fun b o e => Heap.get?_push_of_some _ (Heap.get?_push_of_some _ e)
  have hC₁ := k _ _ hC
  have hget : ((h.push (tupObj rest)).push (excObj C h.objs.size none)).get? (h.objs.size + 1) = some (excObj C h.objs.size none) := by heap_get
  have hcC : (Value.ref C :: bm).contains (.ref C) = true := by simp
  have i1 := hi.keeps k
  have b1' := (hb (.ref (h.objs.size + 1))).keeps k
  unfold isInstance
  repeat (first | with_reducible refine wpAny_loadPart_at hget ?_ | (with_reducible refine wpAny_isSubtype_exc hC₁ ?_; rw [hcC]) | wp_step)
  show wpAny _ _ (typeLookup (.ref C) _) _ _ _
  refine i1.at ?_
  refine wpAny_holding (wpAny_bind (b1'.at ?_))
  refine wpAny_bind (wpAny_call (codeAny_mono hq fun r s' z => ?_))
  rcases r with e | (v | _ | _ | _) <;> first | exact z | exact z.elim | skip
  obtain ⟨rfl, z⟩ := z
  wp_walk
  exact z

theorem exc_call {rest : List Value} {fI : Addr} (hC : h.get? C = some (excClassObj nm q C N bs bm hdct sn sub ab col dd k0 k1 k2 k3 k5 "Exception.__new__"))
    (b1 : bm.contains (.type "Exception") = true) (b2 : bm.contains (.type "AttributeError") = false) (b3 : bm.contains (.type "NameError") = false) (hrest : rest.length ≤ sizeLine)
    (hi : Looks (model prog w) h (typeLookup (.ref C) "__init__") (some (.ref fI))) (hb : ∀ self, Looks (model prog w) h (bindSpecial (.ref fI) self) (.ref fI, [self]))
    (hq : codeAny (model prog w) (A.under (.builtin "type.__call__" ⟨.ref C :: rest, []⟩)) (.call (.ref fI) ⟨.ref (h.objs.size + 1) :: rest, []⟩) (InitBack (h.objs.size + 1) R) ⟨(h.push (tupObj rest)).push (excObj C h.objs.size none), g, d, t, os⟩) :
    codeAny (model prog w) A (.call (.ref C) ⟨rest, []⟩) R ⟨h, g, d, t, os⟩ := by
  have f1 := tc_lookup
  have f2 := tc_bind (.ref C)
  have hT : (⟨h, g, d, t, os⟩ : Shared).TypeIs (.ref C) "type" := ⟨_, hC, rfl⟩
  refine codeAny_of_tree ?_
  show wpAny _ _ (callAny (.ref C) _) _ _ _
  repeat (any_goals (first | assumption | with_reducible refine wpAny_loadPart_at hC ?_ | wp_step))
  refine ⟨rfl, ?_⟩
  refine codeAny_call_builtin_at (Code.quiet_builtin _ (by decide +kernel)) entry_typeCall (wpAny_check_type_call_sub hC (exc_type_call hC b1 b2 b3 hrest hi hb ?_))
  refine codeAny_mono hq fun r s' z => ?_
  rcases r with e | (v | _ | _ | _) <;> exact z
end
section
open PySem.Builtin PySem.Builtin.ObjectAttr
section
variable {prog : Program} {w : World} {A : Around} {E : Value → Shared → Prop} {s : Shared} {K : Frag} {h₀ : Heap} {L C P T x : Addr} {m : Str → Option Value} {news rest : Led} {cd : ClassData} {name : Str} {v : Value}
variable {nm q : Str} {N' : Addr} {bs bm : List Value} {hdct : Bool} {sn : List Str} {sub : List Value} {ab : Bool} {col : Option Bool} {dd : Option Addr} {k0 k1 k2 k3 k5 : Option Value}

/-- an exception of the text's own is made: its maker is called with it -/
theorem exc_make {vs : List Value} {fI : Addr} {Q : Value → Shared → Prop} (F : Fr h₀ L s.heap m) (X : K.In h₀) (N : News h₀ L s.heap news)
    (hC : K.lookup C = some (excClassObj nm q C N' bs bm hdct sn sub ab col dd k0 k1 k2 k3 k5 "Exception.__new__"))
    (b1 : bm.contains (.type "Exception") = true) (b2 : bm.contains (.type "AttributeError") = false) (b3 : bm.contains (.type "NameError") = false) (hvs : vs.length ≤ 20)
    (hi : findIn K (.ref C) "__init__" = some (some (.ref fI))) (hf : isFn K (.ref fI) = true)
    (h : ∀ e T h', Fr h₀ L h' m → News h₀ L h' ((e, excObj C T none) :: (T, tupObj vs) :: news) → (∀ p ∈ news, p.1 < T) → T < e → (∀ p ∈ (T, tupObj vs) :: news, p.1 ≠ e) →
      codeAny (model prog w) (A.under (.builtin "type.__call__" ⟨.ref C :: vs, []⟩)) (.call (.ref fI) ⟨.ref e :: vs, []⟩) (InitBack e fun r s' => match r with | .ok (.ret v) => Q v s' | .ok _ => False | .error e => E e s') { s with heap := h' }) :
    wpAny (model prog w) A (call (.ref C) vs []) Q E s := by
  refine wpAny_call ?_
  obtain ⟨hh, g, d, t, os⟩ := s
  have X' := X.keeps F.keep
  refine exc_call (X' _ _ hC) b1 b2 b3 (by rw [sizeLine_eq]; omega) (looks_findIn X' hi) (fun self => bind_fn X' self (beq_iff_eq.mp hf)) (h _ hh.objs.size _ ((F.push _).push _) ?_ (fun p hp => Heap.lt_size (N p hp).1) (Nat.lt_succ_self _) (fun p hp => Nat.ne_of_lt ?_))
  rotate_left
  · rcases List.mem_cons.mp hp with rfl | hp
    · exact Nat.lt_succ_self _
    · exact Nat.lt_succ_of_lt (Heap.lt_size (N p hp).1)
  have := (N.push F (tupObj vs)).push (F.push _) (excObj C hh.objs.size none)
  rwa [Heap.size_push] at this

/-- the first thing that is stored in it makes its dict -/
theorem exc_set {Q : Unit → Shared → Prop} (F : Fr h₀ L s.heap m) (X₀ : K.In h₀) (N : News h₀ L s.heap ((x, excObj C T none) :: rest)) (hx : ∀ p ∈ rest, p.1 ≠ x)
    (hc : clsIn K C = some cd) (hm : cd.mro = [.ref C, .ref P, .type "Exception", .type "BaseException", .type "object"]) (hd : cd.hasDict = true)
    (hs : findIn K (.ref C) "__setattr__" = some (some (.builtin "object.__setattr__"))) (ht : findIn K (.ref C) name = some none)
    (h : ∀ d h' tk a b, Fr h₀ L h' m → News h₀ L h' ((x, excObj C T (some d)) :: (d, dictOf [⟨a, .str name b, v⟩] 1) :: rest) → (∀ p ∈ rest, p.1 < d) → x < d → (∀ p ∈ (d, dictOf [⟨a, .str name b, v⟩] 1) :: rest, p.1 ≠ x) → Q () { s with heap := h', toks := tk }) :
    wpAny (model prog w) A (setAttr (.ref x) name v) Q E s := by
  obtain ⟨hp, g, dr, t, os⟩ := s
  dsimp only at F N ⊢
  have X := X₀.keeps F.keep
  have hxx := (N _ (.head _)).1
  have I : InstAt hp x (excObj C T none) C none := ⟨hxx, rfl, rfl, trivial⟩
  refine set_plain X I hs ?_
  have SF := PySem.F.store_object
  have isub : Looks (model prog w) hp (isInstance (.ref x) (.type "object")) true := I.type.andThen (looks_mroIn X (by unfold mroIn; rw [hc, Option.bind_some, if_neg (by rw [hm]; exact Bool.false_ne_true), hm]; simp))
  have hmro : Looks (model prog w) hp (mroOf (.ref C)) cd.mro := (looks_clsIn X hc).andThen .now
  refine codeAny_call_builtin SF.slot.plain SF.entry (@check_slot (model prog w) _ _ ⟨hp, g, dr, t + 1, os⟩ "object.__setattr__" "object" "__setattr__" (.ref x) [.str name t, v] [] _ SF.kind SF.split isub (SF.args (.ref x) (.str name t) v) ?_)
  rw [osa_eq, refuse_eq]
  refine wpAny_bind (wpAny_bind (I.type.at (wpAny_bind (hmro.at ?_))))
  rw [hm, refuseLoop_ref, refuseLoop_ref, PySem.F.store_Exception.passes]
  have L3 : Looks (model prog w) hp (storeTaker? none) none := .now
  refine wpAny_pure (wpAny_bind (I.type.at (wpAny_bind ((looks_findIn X ht).at (wpAny_bind (L3.at ?_))))))
  have N1 := N.push F ({ cls := .type "dict", data := .dict #[] } : Obj)
  have F1 := F.push ({ cls := .type "dict", data := .dict #[] } : Obj)
  have hlt : x < hp.objs.size := Heap.lt_size hxx
  have hd0 : ∀ p ∈ rest, p.1 < hp.objs.size := fun p hpp => Heap.lt_size (N p (.tail _ hpp)).1
  have N2 : News h₀ L (hp.push ({ cls := .type "dict", data := .dict #[] } : Obj)) ([(hp.objs.size, ({ cls := .type "dict", data := .dict #[] } : Obj))] ++ (x, excObj C T none) :: rest) := N1
  obtain ⟨F3, N3⟩ := news_upd (f := fun o => { o with dict := some hp.objs.size }) (o' := excObj C T (some hp.objs.size)) F1 N2 (fun p hpp => by rw [List.mem_singleton.mp hpp]; exact Nat.ne_of_gt hlt) hx rfl rfl
  have D3 := (N3 _ (.head _)).1
  have N3' : News h₀ L ((hp.push ({ cls := .type "dict", data := .dict #[] } : Obj)).update x fun o => { o with dict := some hp.objs.size }) ([] ++ (hp.objs.size, ({ cls := .type "dict", data := .dict #[] } : Obj)) :: ((x, excObj C T (some hp.objs.size)) :: rest)) := N3
  obtain ⟨F4, N4⟩ := news_upd (f := Obj.putName name (PyData.keyHash w.params name) (.str name (t + 1)) v) (o' := dictOf [⟨PyData.keyHash w.params name, .str name (t + 1), v⟩] 1) F3 N3' (fun p hpp => nomatch hpp)
    (fun p hpp => by
      rcases List.mem_cons.mp hpp with rfl | hpp
      · exact Nat.ne_of_lt hlt
      · exact Nat.ne_of_lt (hd0 p hpp)) (putName_dict name _ _ _ [] 0) rfl
  refine wpAny_bind (wpAny_pure (wpAny_bind (wpAny_bind (wpAny_loadPart hxx (wpAny_bind ((looks_clsIn X hc).at ?_))))))
  rw [hd]
  refine wpAny_bind (wpAny_alloc (wpAny_bind (wpAny_update (N2 _ (.tail _ (.head _))).1 ?_)))
  refine wpAny_pure (wpAny_bind (wpAny_pure (wpAny_bind ?_)))
  unfold nsSet
  refine wpAny_bind (wpAny_bind (wpAny_askSetting (wpAny_pure (wpAny_bind (wpAny_mkText (wpAny_bind (wpAny_loadPart D3 ?_)))))))
  refine wpAny_updatePart D3 ?_
  refine wpAny_bind (wpAny_lookBehind (N4 _ (.head _)).1 (pastItsLine_dict (by show 1 ≤ sizeLine + 1; rw [sizeLine_eq]; omega)) ?_)
  refine wpAny_pure ?_
  show Q () _
  refine h hp.objs.size _ (t + 1 + 1) (PyData.keyHash w.params name) (t + 1) F4 (fun p hpp => N4 p ?_) hd0 hlt (List.forall_mem_cons.mpr ⟨Nat.ne_of_gt hlt, hx⟩)
  rcases List.mem_cons.mp hpp with rfl | hpp
  · exact .tail _ (.head _)
  · rcases List.mem_cons.mp hpp with rfl | hpp
    · exact .head _
    · exact .tail _ (.tail _ hpp)

/-- an attribute of an exception's own dict -/
theorem exc_get {expr : Bool} {dx : Addr} {vs : Array Value} {sl : Array (Option Value)} {es : List DictEntry} {n : Nat} {Q : Value → Shared → Prop} (F : Fr h₀ L s.heap m) (X₀ : K.In h₀) (N : News h₀ L s.heap news)
    (hx : (x, ({ cls := .ref C, dict := some dx, data := .fields vs, slots := sl } : Obj)) ∈ news) (hdx : (dx, dictOf es n) ∈ news)
    (hc : clsIn K C = some cd) (hm : cd.mro = [.ref C, .ref P, .type "Exception", .type "BaseException", .type "object"]) (hd : cd.hasDict = true)
    (hg : findIn K (.ref C) "__getattribute__" = some (some (.builtin "BaseException.__getattribute__"))) (hk : findIn K (.ref C) "__getattr__" = some none) (ha : findIn K (.ref C) name = some none)
    (hl : getL name es = some (some v)) (hv : handedIn v = true) (h : ∀ tk, Q v { s with toks := tk }) : wpAny (model prog w) A (getAttr (.ref x) name expr) Q E s := by
  obtain ⟨hp, g, dr, t, os⟩ := s
  dsimp only at F N h ⊢
  have X := X₀.keeps F.keep
  have I : InstAt hp x { cls := .ref C, dict := some dx, data := .fields vs, slots := sl } C (some (dictOf es n)) := ⟨(N _ hx).1, rfl, rfl, (N _ hdx).1⟩
  have L0 := I.type (M := model prog w)
  have L1 := looks_findIn (M := model prog w) X hg
  have L2 := looks_findIn (M := model prog w) X hk
  have hf : findObj K C (some (dictOf es n)) name = some (.value v) := findObj_own (by unfold hasDictIn; rw [hc]; exact hd) ha rfl hl
  have L3 := looks_find (M := model prog w) X I hf
  have isub : Looks (model prog w) hp (isInstance (.ref x) (.type "BaseException")) true := I.type.andThen (looks_mroIn X (by unfold mroIn; rw [hc, Option.bind_some, if_neg (by rw [hm]; exact Bool.false_ne_true), hm]; simp))
  unfold getAttr getAttrBy
  refine wpAny_bind (wpAny_mkText (wpAny_holding (wpAny_bind (L0.at (wpAny_bind (L1.at ?_))))))
  dsimp only
  have hx2 : (Value.builtin "BaseException.__getattribute__" == Value.builtin "object.__getattribute__") = false := by decide +kernel
  have hx1 : (onTheHeap (.ref C) && Value.builtin "BaseException.__getattribute__" == Value.builtin "object.__getattribute__") = false := by rw [hx2]; rfl
  rw [hx1, if_neg Bool.false_ne_true]
  unfold getAttrByItsOwn
  rw [show hookBefore (.ref C) = typeLookup (.ref C) "__getattr__" from rfl]
  refine wpAny_bind (L2.at ?_)
  refine wpAny_bind (wpAny_attempt (wpAny_holding ?_))
  rw [show callGetattribute (.ref x) (.str name t) (.builtin "BaseException.__getattribute__") expr = boundAndCalled (.builtin "BaseException.__getattribute__") (.ref x) (.str name t) from by unfold callGetattribute; rw [if_neg (by cases expr <;> exact Bool.false_ne_true)]]
  unfold boundAndCalled
  rw [PySem.F.attr_Exception.ga.bind]
  have hk1 : builtinKind "BaseException.__getattribute__" = some .slot := by decide +kernel
  have hk2 : splitId "BaseException.__getattribute__" = some ("BaseException", "__getattribute__") := by decide +kernel
  refine wpAny_bind (wpAny_pure (wpAny_call (codeAny_call_builtin PySem.F.attr_Exception.ga.plain PySem.F.entry_bexc_ga (@check_slot (model prog w) _ _ ⟨hp, g, dr, t + 1, os⟩ "BaseException.__getattribute__" "BaseException" "__getattribute__" (.ref x) [.str name t] [] _ hk1 hk2 isub (PySem.F.args_bexc_ga (.ref x) (.str name t)) ?_))))
  refine wpAny_bind (wpAny_pure (wpAny_bind (wpAny_pure (wpAny_bind (L0.at (wpAny_bind (L3.at ?_)))))))
  refine wpAny_pure ?_
  show wpAny _ _ (handedOut v) _ _ _
  rw [handedOut_of hv]
  exact wpAny_pure (h _)
end
end
theorem rows18 : True := by
  w_top off
  (k_with "call ref" => ((k_here; (with_reducible show wpAny _ _ (call (Value.ref 51) _) _ _ _); k_dflt (refine' exc_make ?F ?X ?N ?hC ?b1 ?b2 ?b3 ?hv ?hi ?hf ?_; (case F => k_asm); (case X => k_asm); (case N => k_asm); (case hC => k_is); (case b1 => decide +kernel); (case b2 => decide +kernel); (case b3 => decide +kernel); (case hv => exact Nat.le_of_ble_eq_true rfl); (case hi => k_is); (case hf => k_is); k_whole); intro e' T' h' F' N' l1 l2 l3; (try k_lt l1); (try k_lt2 l2); (try k_sweep); k_enter; walk_say "EXC MADE")))
  (k_with "setAttr ref" => ((k_here; k_dflt (refine' exc_set ?F ?X ?N ?hx ?hc ?hm ?hd ?hs ?ht ?_; (case F => k_asm); (case X => k_asm); (case N => k_asm); (case hx => k_all); (case hc => k_is); (case hm => exact rfl); (case hd => exact rfl); (case hs => k_is); (case ht => k_is); k_whole); intro d' h' tk' a' b' F' N' l1 l2 l3; (try k_lt l1); (try k_sweep); (try dsimp only); walk_say "EXC SET")))
  (k_with "getAttr ref" => ((k_here; k_dflt (refine' exc_get ?F ?X ?N ?hx ?hdx ?hc ?hm ?hd ?hg ?hk ?ha ?hl ?hv ?_; (case F => k_asm); (case X => k_asm); (case N => k_asm); (case hx => k_mem); (case hdx => k_mem); (case hc => k_is); (case hm => exact rfl); (case hd => exact rfl); (case hg => k_is); (case hk => k_is); (case ha => k_is); (case hl => exact rfl); (case hv => exact rfl); k_whole); intro tk'; walk_say "EXC GET")))
  trivial
section
theorem dict_mapFields (f : Array Value → Array Value) (o : Obj) : (Obj.mapFields f o).dict = o.dict := by
  obtain ⟨c, d, dt, sl⟩ := o
  cases dt <;> rfl
/-- an exception on its flight, its own dict with it -/
def TracedD (h base : Heap) (e C dx : Addr) (fl : Value) : Prop :=
  ∃ oe vs T oT ts, h.get? e = some oe ∧ (oe.cls = .ref C ∧ oe.dict = some dx) ∧ oe.data = .fields vs ∧ vs[1]? = some (.ref T) ∧ base.get? T = none ∧ T ≠ e ∧ h.get? T = some oT ∧ oT.data = .fields ts ∧ ts[3]? = some fl
def NotedD (base : Heap) (l : List Env) (e C dx : Addr) (fl : Value) (h h' : Heap) : Prop :=
  base.StaysIn h' ∧ h'.FunFrames base l ∧ TracedD h' base e C dx fl ∧ ∀ b o, h.get? b = some o → (∀ vs, o.data ≠ .fields vs) → ∃ sl, h'.get? b = some { o with slots := sl }
variable {M : Model} {A : Around} {E : Value → Shared → Prop} {s : Shared}

theorem entryD {base : Heap} {env : Env} {outer : List Env} {L e C dx : Addr} {oe : Obj} {vs : Array Value} {head : Value} {hadNext : Bool} {Q : Unit → Shared → Prop}
    (hfr : A.frames = some (env :: outer)) (hl : s.heap.FunFrames base (env :: outer)) (hf : env.frame = some L)
    (he : s.heap.get? e = some oe) (hc : oe.cls = .ref C ∧ oe.dict = some dx) (hkb : base.StaysIn s.heap) (hen : base.get? e = none) (hd : oe.data = .fields vs) (hsz : 1 < vs.size)
    (h : ∀ h', NotedD base (env :: outer) e C dx (rawInt L) s.heap h' → Q () { s with heap := h' }) :
    wpAny M A (do let a ← frameOf env; let pl ← entryPlaceOf L hadNext; let b ← EntryCells.newEntry head a .none (rawInt L) .none pl; setField (.ref e) 1 b) Q E s := by
  have hene : e ∉ (env :: outer).filterMap (·.frame) := fun hm => by
    obtain ⟨_, o, ho, hnf⟩ := hl.mem hm
    rw [he] at ho; injection ho with ho; subst ho; exact hnf vs hd
  refine wpAny_bind (wpAny_frameOf_fun hfr hl hf fun h₁ hs₁ => ?_)
  refine wpAny_bind (wpAny_entryPlaceOf fun pl hpl => ?_)
  unfold EntryCells.newEntry newFields
  refine wpAny_bind (wpAny_newObj_type ?_ (hpl.sizeOk5 _ _ _ _ _))
  have he₁ : h₁.get? e = some oe := (hs₁.2.1 e hene).trans he
  have kb₁ : base.StaysIn h₁ := fun b o hbo => (hs₁.2.1 b fun hm => by rw [(hl.mem hm).1] at hbo; cases hbo).trans (hkb b o hbo)
  have he₂ := Heap.get?_push_of_some (h := h₁) { cls := .type "traceback", dict := none, data := .fields ([head, .ref L, .none, rawInt L, .none] ++ (if pl.isEmpty then List.replicate 6 Value.none else pl)).toArray } he₁
  refine wpAny_setField he₂ hd hsz (h _ ?_)
  have hTe : h₁.objs.size ≠ e := Nat.ne_of_gt (Heap.lt_size he₁)
  have hd₃ := Obj.data_mapFields hd (·.setIfInBounds 1 (Value.ref h₁.objs.size))
  have he₃ := Heap.get?_update_self (Obj.mapFields (·.setIfInBounds 1 (Value.ref h₁.objs.size))) he₂ (Obj.isFreed_of_fields hd₃)
  have hT₃ := (Heap.get?_update_other (h₁.push { cls := .type "traceback", dict := none, data := .fields ([head, .ref L, .none, rawInt L, .none] ++ (if pl.isEmpty then List.replicate 6 Value.none else pl)).toArray })
    (Obj.mapFields (·.setIfInBounds 1 (Value.ref h₁.objs.size))) (Ne.symm hTe)).trans (Heap.get?_push_size h₁ rfl)
  have keep : ∀ b o, b ≠ e → h₁.get? b = some o →
      ((h₁.push { cls := .type "traceback", dict := none, data := .fields ([head, .ref L, .none, rawInt L, .none] ++ (if pl.isEmpty then List.replicate 6 Value.none else pl)).toArray }).update e (Obj.mapFields (·.setIfInBounds 1 (Value.ref h₁.objs.size)))).get? b = some o :=
    fun b o hbe hb => by
      rw [Heap.get?_update_other _ _ (Ne.symm hbe)]
      exact Heap.get?_push_of_some _ hb
  have noRecord : ∀ b o, s.heap.get? b = some o → (∀ vs, o.data ≠ .fields vs) → b ≠ e := fun b o hb hnf q => by
    rw [q, he] at hb; injection hb with hb; subst hb; exact hnf vs hd
  refine ⟨fun b o hbo => keep b o (fun q => by rw [q, hen] at hbo; cases hbo) (kb₁ b o hbo), hl.of_keeps fun b o hb hnf => ?_, ?_, fun b o hb hnf => ?_⟩
  · obtain ⟨sl, hs⟩ := hs₁.2.2 b o hb
    exact ⟨_, keep b _ (noRecord b o hb hnf) hs, rfl⟩
  · exact ⟨_, _, h₁.objs.size, _, _, he₃, ⟨(Obj.cls_mapFields _ _).trans hc.1, (dict_mapFields _ _).trans hc.2⟩, hd₃, by simp [hsz], kb₁.fresh, hTe, hT₃, rfl, by first | (simp; done) | (rcases hpl with rfl | ⟨_, _, _, _, _, _, _, rfl⟩ <;> simp)⟩
  · obtain ⟨sl, hs⟩ := hs₁.2.2 b o hb
    exact ⟨sl, keep b _ (noRecord b o hb hnf) hs⟩

theorem setFlightD {base : Heap} {l : List Env} {e C dx : Addr} {fl : Value} {Q : Unit → Shared → Prop}
    (hkb : base.StaysIn s.heap) (hl : s.heap.FunFrames base l) (ht : TracedD s.heap base e C dx fl)
    (h : ∀ h', base.StaysIn h' → h'.FunFrames base l → TracedD h' base e C dx .none → (∀ b o, s.heap.get? b = some o → (∀ vs, o.data ≠ .fields vs) → h'.get? b = some o) → Q () { s with heap := h' }) :
    wpAny M A (setFlight (.ref e) none) Q E s := by
  obtain ⟨oe, vs, T, oT, ts, he, hcls, hd, h1, hnT, hTe, hT, hdT, h3⟩ := ht
  have hsz3 : 3 < ts.size := (Array.getElem?_eq_some_iff.mp h3).1
  have other : ∀ b, b ≠ T → (s.heap.update T (Obj.mapFields (·.setIfInBounds 3 ((none : Option Addr).elim Value.none fun f => rawInt f)))).get? b = s.heap.get? b :=
    fun b hb => Heap.get?_update_other _ _ (Ne.symm hb)
  have noRecord : ∀ b o, s.heap.get? b = some o → (∀ vs, o.data ≠ .fields vs) → b ≠ T := fun b o hb hnf q => by
    rw [q, hT] at hb; injection hb with hb; subst hb; exact hnf ts hdT
  unfold setFlight
  refine wpAny_bind (wpAny_field he hd h1 ?_)
  rw [if_pos (show (Value.ref T != Value.none) = true from by simp)]
  refine wpAny_setField hT hdT hsz3 (h _ (fun b o hbo => (other b fun q => by rw [q, hnT] at hbo; cases hbo).trans (hkb b o hbo))
    (hl.of_keeps fun b o hb hnf => ⟨o, (other b (noRecord b o hb hnf)).trans hb, rfl⟩) ?_ fun b o hb hnf => (other b (noRecord b o hb hnf)).trans hb)
  exact ⟨oe, vs, T, _, _, (other e (Ne.symm hTe)).trans he, hcls, hd, h1, hnT, hTe, Heap.get?_update_self _ hT (Obj.isFreed_of_fields (Obj.data_mapFields hdT _)), Obj.data_mapFields hdT _, by simp [hsz3]⟩

def FlyD (base : Heap) (l : List Env) (e C dx : Addr) (fl : Value) (h : Heap) : Prop := base.StaysIn h ∧ base.get? e = none ∧ h.FunFrames base l ∧ TracedD h base e C dx fl

theorem landsD {base : Heap} {l : List Env} {e C dx : Addr} {fl : Value} {Q : Unit → Shared → Prop} (hh : FlyD base l e C dx fl s.heap)
    (hQ : ∀ h', FlyD base l e C dx .none h' → s.heap.UpToSlots h' → Q () { s with heap := h' }) : wpAny M A (setFlight (.ref e) none) Q E s := by
  obtain ⟨f1, f2, f3, f4⟩ := hh
  exact setFlightD f1 f3 f4 fun h' k1 k2 k3 k4 => hQ h' ⟨k1, f2, k2, k3⟩ fun b o hb hn => ⟨o.slots, k4 b o hb hn⟩

theorem leaves_firstD {base : Heap} {env : Env} {outer : List Env} {L e C dx : Addr} {oe : Obj} {vs : Array Value} {Q : Unit → Shared → Prop}
    (hfr : A.frames = some (env :: outer)) (hl : s.heap.FunFrames base (env :: outer)) (hf : env.frame = some L)
    (he : s.heap.get? e = some oe) (hc : oe.cls = .ref C ∧ oe.dict = some dx) (hkb : base.StaysIn s.heap) (hen : base.get? e = none) (hd : oe.data = .fields vs) (h1 : vs[1]? = some .none)
    (hQ : ∀ h', FlyD base outer e C dx .none h' → s.heap.UpToSlots h' → Q () { s with heap := h' }) : wpAny M A (leaving env (.ref e)) Q E s := by
  unfold leaving noteFrame
  simp only [hf]
  refine wpAny_bind (wpAny_bind (wpAny_field he hd h1 ?_))
  rw [if_neg (by decide)]
  refine entryD hfr hl hf he hc hkb hen hd (Array.getElem?_eq_some_iff.mp h1).1 fun h' ⟨x1, x2, x3, x4⟩ => ?_
  refine landsD ⟨x1, hen, x2, x3⟩ fun h'' ⟨k1, k2, ⟨_, _, k3⟩, k4⟩ hs => hQ h'' ⟨k1, k2, k3, k4⟩ (Heap.UpToSlots.trans x4 hs)

theorem looksD {base : Heap} {env : Env} {outer : List Env} {L e C dx : Addr} {Q : Unit → Shared → Prop}
    (hfr : A.frames = some (env :: outer)) (hf : env.frame = some L) (hfl : FlyD base (env :: outer) e C dx .none s.heap)
    (hQ : ∀ h', FlyD base (env :: outer) e C dx (rawInt L) h' → s.heap.UpToSlots h' → Q () { s with heap := h' }) : wpAny M A (noteFrame (.ref e) env) Q E s := by
  obtain ⟨hkb, hen, hl, oe, vs, T, oT, ts, he, hcls, hd, h1, hnT, hTe, hT, hdT, h3⟩ := hfl
  unfold noteFrame
  simp only [hf]
  refine wpAny_bind (wpAny_field he hd h1 ?_)
  rw [if_pos (show (Value.ref T != Value.none) = true from by simp)]
  refine wpAny_bind (wpAny_field hT hdT h3 ?_)
  rw [if_neg (show ¬ ((Value.none == rawInt L) = true) from by simp [rawInt])]
  refine wpAny_bind (wpAny_setField hT hdT (Array.getElem?_eq_some_iff.mp h3).1 ?_)
  have other : ∀ b, b ≠ T → (s.heap.update T (Obj.mapFields (·.setIfInBounds 3 Value.none))).get? b = s.heap.get? b := fun b hb => Heap.get?_update_other _ _ (Ne.symm hb)
  have noRecord : ∀ b o, s.heap.get? b = some o → (∀ vs, o.data ≠ .fields vs) → b ≠ T := fun b o hb hnf q => by
    rw [q, hT] at hb; injection hb with hb; subst hb; exact hnf ts hdT
  refine entryD hfr (hl.of_keeps fun b o hb hnf => ⟨o, (other b (noRecord b o hb hnf)).trans hb, rfl⟩) hf ((other e (Ne.symm hTe)).trans he) hcls
    (fun b o hbo => (other b fun q => by rw [q, hnT] at hbo; cases hbo).trans (hkb b o hbo)) hen hd (Array.getElem?_eq_some_iff.mp h1).1
    fun h' ⟨x1, x2, x3, x4⟩ => hQ h' ⟨x1, hen, x2, x3⟩ fun b o hb hnf => x4 b o ((other b (noRecord b o hb hnf)).trans hb) hnf
end
/-- thrown below the base G: what flies, and the new things that stay -/
def RaisedD (base G : Heap) (l : List Env) (e C dx : Addr) (news : Led) (h : Heap) : Prop :=
  ∃ B, base.StaysIn B ∧ (∀ b o, G.get? b = some o → b ∉ l.filterMap (·.frame) → B.get? b = some o) ∧ (∀ q ∈ news, B.get? q.1 = some q.2 ∧ G.get? q.1 = none ∧ base.get? q.1 = none) ∧ FlyD B l e C dx .none h
section
variable {M : Model} {A : Around} {E : Value → Shared → Prop} {s' : Shared} {base g : Heap} {outer : List Env} {L a e T C dx : Addr} {m : Str → Option Value} {name : Str} {scope : Scope} {cd : Value} {Q : Unit → Shared → Prop} {news : Led}
theorem leave_raiseD (K : Below A base outer g) (F : Fr g L s'.heap m) (N : News g L s'.heap ((e, excObj C T (some dx)) :: news)) (hne : ∀ p ∈ news, p.1 ≠ e)
    (hQ : ∀ h', RaisedD base g outer e C dx news h' → g.UpToSlots h' → Q () { s' with heap := h' }) (hk : scope.kind = .function := by rfl) :
    wpAny M (A.deeper (envOf name scope L a cd)) (leaving (envOf name scope L a cd) (.ref e)) Q E s' := by
  have K' := K.push (name := name) (a := a) (cd := cd) F hk
  have hin : ∀ env ∈ (envOf name scope L a cd :: outer), ∀ b, env.frame = some b → b ∈ e :: (envOf name scope L a cd :: outer).filterMap (·.frame) := fun env he b hb => .tail _ (List.mem_filterMap.mpr ⟨env, he, hb⟩)
  have eg : g.get? e = none := (N _ (.head _)).2.2
  have be : base.get? e = none := fresh_of_stays K.stays eg
  have st : base.StaysIn (hideAll s'.heap (e :: (envOf name scope L a cd :: outer).filterMap (·.frame))) := fun b o q => hideAll_get _ (K'.stays b o q) fun hm => by
    rcases List.mem_cons.mp hm with z | hm
    · rw [z, be] at q; cases q
    · rw [(K'.frames.mem hm).1] at q; cases q
  have sg : ∀ b o, g.get? b = some o → b ∉ outer.filterMap (·.frame) → (hideAll s'.heap (e :: (envOf name scope L a cd :: outer).filterMap (·.frame))).get? b = some o := fun b o q nm => hideAll_get _ (F.keep b o q) fun hm => by
    rcases List.mem_cons.mp hm with z | hm
    · rw [z, eg] at q; cases q
    rcases kts_mem hm with z | z
    · rw [z, kts_self F] at q
      cases q
    · exact nm z
  have hl : ∀ q ∈ news, (hideAll s'.heap (e :: (envOf name scope L a cd :: outer).filterMap (·.frame))).get? q.1 = some q.2 ∧ g.get? q.1 = none ∧ base.get? q.1 = none := fun q hq => by
    refine ⟨hideAll_get _ (N q (.tail _ hq)).1 fun hm => ?_, (N q (.tail _ hq)).2.2, fresh_of_stays K.stays (N q (.tail _ hq)).2.2⟩
    rcases List.mem_cons.mp hm with z | hm
    · exact hne q hq z
    obtain ⟨env, he, hf⟩ := List.mem_filterMap.mp hm
    rcases List.mem_cons.mp he with rfl | he
    · exact (N q (.tail _ hq)).2.1 (Option.some.inj hf).symm
    · obtain ⟨o, ho, _⟩ := (K.frames.mem (List.mem_filterMap.mpr ⟨env, he, hf⟩)).2
      rw [(N q (.tail _ hq)).2.2] at ho; cases ho
  exact leaves_firstD K'.stack (funFrames_hide K'.frames hin) rfl (N _ (.head _)).1 ⟨rfl, rfl⟩ (fun b o q => of_hideAll _ q) (hideAll_none _ (.head _)) rfl rfl fun h' x1 x2 =>
    hQ h' ⟨_, st, sg, hl, x1⟩ ((Heap.UpToSlots.of_keeps F.keep).trans x2)
end
section
variable {prog : Program} {w : World} {A₀ : Around} {E : Value → Shared → Prop} {s' : Shared} {base g g₀ G : Heap} {outer : List Env} {L a e C dx : Addr} {m : Str → Option Value} {name : Str} {scope : Scope} {cd : Value}
  {n : Str} {b₀ : Stmt} {suite : List Stmt} {pos np : Pos} {rest : List ExceptHandler} {Q : Flow → Shared → Prop} {news : Led} {KF : Frag}
  {p : Program} {loose : List Str} {mean : ExcName → Option Value} {mg mb : Str → Option Value} {x : Str}
theorem caught_D (R : RaisedD base G (envOf name scope L a cd :: outer) e C dx news s'.heap) (F : Fr g L G m) (K : Below A₀ base outer g) (hsm : G.UpToSlots s'.heap) (XB : KF.In base) (TB : Top p loose mean mg mb base)
    (D : KtsDicts (outer.filterMap (·.frame)) g) (T0 : KtsTurn (outer.filterMap (·.frame)) g₀ g)
    (ex : nsIn KF mainGlobals x = some (some (.ref C))) (q : ktsIn KF C "BaseException" = true)
    (k : ∀ h' g' vs sl tk, KtsTurn (outer.filterMap (·.frame)) g₀ g' → Fr g' L h' (fun y => if y = n then some (.ref e) else m y) → News g' L h' ((e, { cls := .ref C, dict := some dx, data := .fields vs, slots := sl }) :: news) → Below A₀ base outer g' → KF.In g' → Top p loose mean mg mb g' → KtsDicts (outer.filterMap (·.frame)) g' →
      wpAny (model prog w) ((A₀.deeper (envOf name scope L a cd)).mark (some (.ref e))) (execs (b₀ :: suite) (envOf name scope L a cd))
        (fun f s₄ => wpAny (model prog w) (A₀.deeper (envOf name scope L a cd)) (do bindName (envOf name scope L a cd) n .none; unbindBehindTheSuite (envOf name scope L a cd) n pos) (fun _ s₅ => Q f s₅) E s₄)
        (AsSuiteRaised (model prog w) ((A₀.deeper (envOf name scope L a cd)).mark (some (.ref e))) (envOf name scope L a cd) n pos (notedBy (model prog w) ((A₀.deeper (envOf name scope L a cd)).mark (some (.ref e))) (envOf name scope L a cd) (cameBackBy (model prog w) (A₀.deeper (envOf name scope L a cd)) (envOf name scope L a cd) E)))
        { s' with heap := h', toks := tk })
    (hk : scope.kind = .function := by rfl) (hlo : (envOf name scope L a cd).kindOf n = some .local := by rfl) (hx : (envOf name scope L a cd).kindOf x = some .globalImplicit := by rfl) (hd : (x == ("__debug__" : Str)) = false := by decide) :
    wpAny (model prog w) (A₀.deeper (envOf name scope L a cd)) (noteFrame (.ref e) (envOf name scope L a cd))
      (fun _ s₂ => wpAny (model prog w) (A₀.deeper (envOf name scope L a cd)) (setFlight (.ref e) none) (fun _ s₃ =>
        wpAny (model prog w) (A₀.deeper (envOf name scope L a cd)) (handleBy (.ref e) (envOf name scope L a cd) (.ExceptHandler (some (.Name x np)) (some n) (b₀ :: suite) pos :: rest)) Q E s₃) E s₂) E s' := by
  obtain ⟨B, hB, hBG, hl, hfl⟩ := R
  have hL : B.get? L = none := by
    obtain ⟨_, ⟨L', _, hf, hn', _⟩, _⟩ := hfl.2.2.1
    obtain rfl : L = L' := Option.some.inj hf
    exact hn'
  refine looksD (Around.frames_deeper K.stack) rfl hfl fun h₄ hheld₄ hsm₄ => ?_
  refine landsD hheld₄ fun h₅ hheld hsm₅' => ?_
  have hsm₅ := hsm₄.trans hsm₅'
  obtain ⟨g₅, T₅, F₅, K₅⟩ := kts_ground K F hBG hheld.1 (hsm.trans hsm₅)
  have X₅ : KF.In g₅ := XB.keeps K₅.stays
  have P₅ : TopRead p loose mg mb g₅ := topRead_of (TB.keeps K₅.stays)
  obtain ⟨ob, _, _, _, _, hob, hobc, _⟩ := hheld.2.2.2
  obtain ⟨nm, q', N, bs, bm, hdct, sn, sub, ab, col, dd, k0, k1, k2, k3, k5, newId, hC, hbase, hbT⟩ := kts_cls X₅ q
  have hC₅ := F₅.keep _ _ hC
  refine wpAny_handleBy_cons (codeAny_handlers_test (name_K F₅ X₅ P₅ ex ?_ hk hx hd)) (by intro q; cases q)
  refine wpAny_excMatches_sub_self hC₅ hob hobc.1 hbase (codeAny_handlers_suite_as ?_)
  refine landsD hheld fun h₆ hfl₆ hsm₆ => ?_
  obtain ⟨g₆, T₆, F₆, K₆⟩ := kts_ground K F hBG hfl₆.1 ((hsm.trans hsm₅).trans hsm₆)
  obtain ⟨oe, ws, _, _, _, hoe, ⟨hoec, hoedd⟩, hoed, _⟩ := hfl₆.2.2.2
  have ne₆ : g₆.get? e = none := T₆.none_ _ (kts_fresh F hBG hfl₆.2.1 fun o ho m => by
    obtain ⟨_, o', ho', hd⟩ := K.frames.mem m
    rw [ho] at ho'
    cases ho'
    obtain ⟨sl, hs⟩ := ((hsm.trans hsm₅).trans hsm₆) _ _ (F.keep _ _ ho) hd
    rw [hoe] at hs
    cases hs
    exact hd _ hoed)
  have Nl : News g₆ L h₆ news := fun q hq => ⟨hfl₆.1 _ _ (hl q hq).1, (fun z => by have := (hl q hq).1; rw [z, hL] at this; cases this), T₆.none_ _ (kts_none F.keep (hl q hq).2.1)⟩
  obtain ⟨oc, od, odt, osl⟩ := oe
  dsimp only at hoec hoedd hoed
  subst hoec hoedd hoed
  have N₆ := News.more F₆ Nl hoe (fun es n q => by cases q) ne₆
  have X₆ : KF.In g₆ := XB.keeps K₆.stays
  have P₆ : Top p loose mean mg mb g₆ := TB.keeps K₆.stays
  have D₆ : KtsDicts (outer.filterMap (·.frame)) g₆ := D.turn T₆
  refine stN F₆ N₆ (fun h₇ F₇ N₇ => ?_) hk hlo
  exact k h₇ g₆ _ _ _ (T0.trans T₆) F₇ N₇ K₆ X₆ P₆ D₆
end
/-- what a raised exception of the text's own must be -/
def RaisableD (E : Value → Shared → Prop) (v : Value) (s : Shared) : Prop :=
  ∃ e T dx C, ∃ nm q N bs bm hdct sn sub ab col dd k0 k1 k2 k3 k5 newId, v = .ref e ∧ s.heap.get? C = some (excClassObj nm q C N bs bm hdct sn sub ab col dd k0 k1 k2 k3 k5 newId) ∧ bm.contains (.type "BaseException") = true ∧ s.heap.get? e = some (excObj C T (some dx)) ∧ E (.ref e) s
section
variable {M : Model} {A : Around} {E : Value → Shared → Prop} {s : Shared} {env : Env}
theorem raisableD {K : Frag} {h₀ : Heap} {L e T C dx : Addr} {m : Str → Option Value} {news : Led} (F : Fr h₀ L s.heap m) (X : K.In h₀) (N : News h₀ L s.heap news) (hm : (e, excObj C T (some dx)) ∈ news) (q : ktsIn K C "BaseException" = true) (hE : E (.ref e) s) : RaisableD E (.ref e) s := by
  obtain ⟨nm, q', N', bs, bm, hdct, sn, sub, ab, col, dd, k0, k1, k2, k3, k5, newId, hC, hbase, _⟩ := kts_cls (X.keeps F.keep) q
  exact ⟨e, T, dx, C, nm, q', N', bs, bm, hdct, sn, sub, ab, col, dd, k0, k1, k2, k3, k5, newId, rfl, hC, hbase, (N _ hm).1, hE⟩
theorem Raise_own {e : Expr} {pos : Pos} {Q : Flow → Shared → Prop} (hh : A.handled = none)
    (h : wpAny M A (eval e env) (RaisableD E) E s) : wpAny M A (exec (.Raise (some e) none pos) env) Q E s := by
  show wpAny M A (do standAt pos; raiseStmt env (some (do let v ← eval e env; standAt pos; pure v)) none) Q E s
  refine wpAny_bind (wpAny_standAt ?_)
  unfold raiseStmt
  refine wpAny_bind (wpAny_bind (wpAny_mono h (fun v s₁ h₁ => wpAny_bind (wpAny_standAt (wpAny_pure ?_))) fun _ _ x => x))
  obtain ⟨e, T, dx, C, nm, q, N, bs, bm, hdct, sn, sub, ab, col, dd, k0, k1, k2, k3, k5, newId, rfl, hC, hbase, he, hE⟩ := h₁
  have hcB : (Value.ref C :: bm).contains (.type "BaseException") = true := by rw [List.contains_cons, hbase, Bool.or_true]
  obtain ⟨hp, g, d, tk, os⟩ := s₁
  repeat (first | with_reducible refine wpAny_loadPart_at he ?_ | with_reducible refine wpAny_loadPart_at hC ?_ | (with_reducible refine wpAny_isSubtype_exc hC ?_; rw [hcB]) | wp_step)
  exact wpAny_raiseNew_none hh hE
end
theorem rows19 : True := by
  w_top off
  (k_with "exec Raise some none" => ((k_here; (with_reducible show wpAny _ _ (exec (Stmt.Raise (some (Expr.Call (Expr.Name ("SqlError" : Str) _) _ _ _)) none _) _) _ _ _); refine Raise_own rfl ?_; walk_say "RAISE")))
  (k_with "RaisableD" => ((k_dflt (refine' raisableD ?F ?X ?N ?hm ?q ?_; (case F => k_asm); (case X => k_asm); (case N => k_asm); (case hm => k_mem); (case q => kts_isx); k_whole); walk_say "RAISABLE")))
  (k_with "leaving ref" => ((k_here; k_dflt (refine' leave_raiseD ?K ?F ?N ?ne ?_; (case K => k_asm); (case F => k_asm); (case N => k_asm); (case ne => k_all); k_whole); intro h' R' U'; (try dsimp only at R' U' ⊢); walk_say "LEAVING")))
  (k_with "noteFrame ref" => ((k_here; (with_reducible rename RaisedD _ _ _ _ _ _ _ _ => rsX); k_dflt (refine' caught_D ?R ?F ?K ?U ?XB ?TB ?D ?T0 ?ex ?q ?_; (case R => assumption); (case F => assumption); (case K => assumption); (case U => assumption); (case XB => assumption); (case TB => assumption); (case D => assumption); (case T0 => first | assumption | exact KtsTurn.refl); (case ex => k_is); (case q => kts_isx); k_whole); intro h' g' vs' sl' tk' T' F' N' K' X' P' D'; (try k_lift K'); (try k_sweep); (try dsimp only); walk_say "CAUGHT")))
  trivial
section
theorem kts_memX {env : Env} {L b : Addr} {outer : List Env} (hf : env.frame = some L) (hm : b ∈ (env :: outer).filterMap (·.frame)) : b = L ∨ b ∈ outer.filterMap (·.frame) := by
  obtain ⟨env', he, hf'⟩ := List.mem_filterMap.mp hm
  rcases List.mem_cons.mp he with rfl | he
  · exact .inl (Option.some.inj (hf'.symm.trans hf))
  · exact .inr (List.mem_filterMap.mpr ⟨env', he, hf'⟩)
variable {prog : Program} {w : World} {A₀ A : Around} {s : Shared} {base h₀ g₀ : Heap} {outer : List Env} {L : Addr} {m : Str → Option Value} {env : Env} {news : List (Addr × Obj)} {K : Frag} {p : Program} {loose : List Str} {mean : ExcName → Option Value} {mg mb : Str → Option Value}
    {R : Result → Shared → Prop} {name qual : Str} {params : Arguments} {body : List Stmt} {scope : Scope} {dV kV doc pm cdv ct oc : Value} {an od : Option Addr} {osl : Array (Option Value)} {f : Addr} {args : Args} {binds : List (Str × Value)}
/-- the ground of a call whose base may turn -/
theorem groundS (B : Below A₀ base outer h₀) (F : Fr h₀ L s.heap m) (N : News h₀ L s.heap news) (XB : K.In base) (TB : Top p loose mean mg mb base) (D : KtsDicts (outer.filterMap (·.frame)) h₀)
    (T0 : KtsTurn (outer.filterMap (·.frame)) g₀ h₀) (hA : A.frames = some (env :: outer)) (hf : env.frame = some L) (hke : env.scope.kind = .function) :
    Fr h₀ L (hideAll s.heap (news.map (·.1))) m ∧ Below A base (env :: outer) (hideAll s.heap (news.map (·.1))) ∧ h₀.StaysIn (hideAll s.heap (news.map (·.1))) ∧ KtsDicts ((env :: outer).filterMap (·.frame)) (hideAll s.heap (news.map (·.1))) ∧
      ∀ v s', LeaveS ((env :: outer).filterMap (·.frame)) A₀ base outer K p loose mean mg mb g₀ h₀ L m (hideAll s.heap (news.map (·.1))) R v s' → R (.ok (.ret v)) s' := by
  have nm : ∀ b o, h₀.get? b = some o → b ∉ news.map (·.1) := fun b o e q => by
    obtain ⟨p, hp, rfl⟩ := List.mem_map.mp q
    rw [(N p hp).2.2] at e; cases e
  have st : h₀.StaysIn (hideAll s.heap (news.map (·.1))) := fun b o e => hideAll_get _ (F.keep b o e) (nm b o e)
  obtain ⟨oL, es, ep, hL, hLd, hLk, hLf⟩ := F.ns
  have nL : L ∉ news.map (·.1) := fun q => by
    obtain ⟨p, hp, e⟩ := List.mem_map.mp q
    exact (N p hp).2.1 e
  have hLg := hideAll_get (news.map (·.1)) hL nL
  have B₁ := pushX B F hf hke
  have nL₀ : h₀.get? L = none := kts_self F
  have hN : ∀ h', h'.get? L = some oL → Heap.Ns h' L m := fun h' e => ⟨oL, es, ep, e, hLd, hLk, hLf⟩
  have hNs : ∀ (sl : Array (Option Value)) h', h'.get? L = some { oL with slots := sl } → Heap.Ns h' L m := fun sl h' e => ⟨_, es, ep, e, hLd, hLk, hLf⟩
  refine ⟨⟨⟨oL, es, ep, hLg, hLd, hLk, hLf⟩, st, F.above⟩, ⟨hA, fun b o e => st b o (B.stays b o e), funFrames_hideAll B₁.frames fun env' he b hb hf' => ?_⟩, st, fun b hb => ?_, fun v s' hl => ?_⟩
  · cases he with
    | head => exact nL ((Option.some.inj (hf.symm.trans hf') : L = b) ▸ hb)
    | tail _ he =>
      obtain ⟨L₁, o₁, hf₁, ho₁⟩ := funFrames_in B.frames env' he
      rw [hf₁] at hf'
      exact nm L₁ o₁ ho₁ ((Option.some.inj hf' : L₁ = b) ▸ hb)
  · rcases kts_memX hf hb with rfl | hb
    · exact ⟨oL, es, ep, hLg, hLd⟩
    · obtain ⟨o, es', n', ho', hd'⟩ := D b hb
      exact ⟨o, es', n', st b o ho', hd'⟩
  · rcases hl with ⟨L', m', news', F', N', k⟩ | ⟨g', L', m', news', T', F', N', k⟩
    · refine k ⟨hN _ (F'.keep _ _ hLg), fun b o e => F'.keep b o (st b o e), F.above⟩ fun p hp => ⟨(N' p hp).1, fun q => ?_, ?_⟩
      · have := (N' p hp).2.2; rw [q, hLg] at this; cases this
      · cases q : h₀.get? p.1 with
        | none => rfl
        | some o => have := (N' p hp).2.2; rw [st _ _ q] at this; cases this
    obtain ⟨sl, hs⟩ := T'.up hLg
    obtain ⟨T₁, S₁⟩ := kts_turn_at (h := s'.heap) (fs := outer.filterMap (·.frame)) (g := h₀)
      (fun b hb => by
        obtain ⟨_, o, ho', _⟩ := B.frames.mem hb
        exact ⟨o, ho'⟩)
      (fun b o e nmem => F'.keep b o (T'.other b o (st b o e) (fun q => by
        rcases kts_memX hf q with z | z
        · rw [z, nL₀] at e
          cases e
        · exact nmem z)))
      (fun b o e hm => by
        obtain ⟨sl', hs'⟩ := T'.up (st b o e)
        exact ⟨sl', F'.keep _ _ hs'⟩)
    have B₃ : Below A₀ base outer (ktsHeap s'.heap (outer.filterMap (·.frame)) h₀) := ⟨B.stack, fun b o e => T₁.other b o (B.stays b o e) (fun hm => by
      rw [(B.frames.mem hm).1] at e
      cases e), B.frames.of_keeps fun b o e _ => by
      obtain ⟨sl', hs'⟩ := T₁.up e
      exact ⟨_, hs', rfl⟩⟩
    refine k _ (T0.trans T₁) ⟨hNs sl _ (F'.keep _ _ hs), S₁, by rw [T₁.size]; exact F.above⟩ (fun p hp => ⟨(N' p hp).1, fun q => ?_, ?_⟩) B₃ (XB.keeps B₃.stays) (TB.keeps B₃.stays) (D.turn T₁)
    · have := (N' p hp).2.2; rw [q, hs] at this; cases this
    · refine T₁.none_ _ ?_
      cases q : h₀.get? p.1 with
      | none => rfl
      | some o =>
        obtain ⟨sl', hs'⟩ := T'.up (st _ _ q)
        have := (N' p hp).2.2
        rw [hs'] at this
        cases this

theorem code_defSX (B : Below A₀ base outer h₀) (F : Fr h₀ L s.heap m) (X₀ : K.In h₀) (N : News h₀ L s.heap news) (T : Top p loose mean mg mb h₀) (XB : K.In base) (TB : Top p loose mean mg mb base) (D : KtsDicts (outer.filterMap (·.frame)) h₀)
    (T0 : KtsTurn (outer.filterMap (·.frame)) g₀ h₀) (hA : A.frames = some (env :: outer)) (hf : env.frame = some L) (hke : env.scope.kind = .function)
    (ho : K.lookup f = some ⟨oc, od, .func (fnOf name qual params body scope dV kV doc pm an cdv ct), osl⟩) (hcd : codeIn K cdv qual = true) (hroom : A.depth < recursionLimit)
    (hbind : BindsTo s (fnOf name qual params body scope dV kV doc pm an cdv ct) args binds) (hloc : ∀ y ∈ binds, scope.names.lookup y.1 = some .local)
    (h : ∀ g L' h₁, Fr h₀ L g m → Fr g L' h₁ (fun y => binds.reverse.lookup y) → News g L' h₁ news → Below A base (env :: outer) g → K.In g → Top p loose mean mg mb g → KtsDicts ((env :: outer).filterMap (·.frame)) g →
      wpAny (model prog w) (A.deeper (envOf qual scope L' f cdv)) (execs body (envOf qual scope L' f cdv))
        (fun fl s' => LeaveS ((env :: outer).filterMap (·.frame)) A₀ base outer K p loose mean mg mb g₀ h₀ L m g R (match fl with | .ret v => v | _ => .none) s')
        (fun e s' => wpAny (model prog w) (A.deeper (envOf qual scope L' f cdv)) (leaving (envOf qual scope L' f cdv) e) (fun _ s'' => R (.error e) s'') (fun e' s'' => R (.error e') s'') s')
        { s with heap := h₁, toks := s.toks + binds.length })
    (hco : scope.isCoroutine = false) (hgen : scope.isGenerator = false) (hk : scope.kind = .function)
    (hcell : ∀ x ∈ scope.names, x.2 ≠ .cell) : codeAny (model prog w) A (.call (.ref f) args) R s := by
  have X := X₀.keeps F.keep
  obtain ⟨FG, BG, st, DG, lv⟩ := groundS (R := R) B F N XB TB D T0 hA hf hke
  refine codeAny_call_def (fd := fnOf name qual params body scope dV kV doc pm an cdv ct) (body := body) (binds := binds) hroom (X _ _ ho) rfl (T.nolimit.keeps F.keep) (codeRec_of X hcd) rfl hbind hcell hloc (fun h₁ hns hk₁ => ?_) hco hgen hk
  exact wpAny_mono (h _ s.heap.objs.size h₁ FG ⟨hns, fun b o e => hk₁ b o (of_hideAll _ e), Nat.le_of_eq (hideAll_size _ _)⟩
    (fun p hp => ⟨hk₁ _ _ (N p hp).1, Nat.ne_of_lt (Heap.lt_size (N p hp).1), hideAll_none _ (List.mem_map_of_mem hp)⟩) BG (X₀.keeps st) (T.keeps st) DG) (fun fl s' hl => lv _ _ hl) fun _ _ y => y

theorem code_defSC (B : Below A₀ base outer h₀) (F : Fr h₀ L s.heap m) (X₀ : K.In h₀) (N : News h₀ L s.heap news) (T : Top p loose mean mg mb h₀) (XB : K.In base) (TB : Top p loose mean mg mb base) (D : KtsDicts (outer.filterMap (·.frame)) h₀)
    (T0 : KtsTurn (outer.filterMap (·.frame)) g₀ h₀) (hA : A.frames = some (env :: outer)) (hf : env.frame = some L) (hke : env.scope.kind = .function)
    (ho : K.lookup f = some ⟨oc, od, .func (fnOf name qual params body scope dV kV doc pm an cdv ct), osl⟩) (hcd : codeIn K cdv qual = true) (hroom : A.depth < recursionLimit)
    (hbind : BindsTo s (fnOf name qual params body scope dV kV doc pm an cdv ct) args binds) (hkind : (binds.all fun y => scope.names.lookup y.1 == some .local || scope.names.lookup y.1 == some .cell) = true)
    (hnd : ((cellsFrom 0 scope.names []).map (·.1)).Nodup)
    (h : ∀ g L' h₁ tk cells, Fr h₀ L g m → Fr g L' h₁ (bindL (envOfC qual scope L' f cdv).kindOf binds fun _ => none) → News g L' h₁ (cells ++ news) →
      CellsAre (bindC (envOfC qual scope L' f cdv).kindOf binds fun _ => none) (cellsFrom (L' + 1) scope.names []) cells → Below A base (env :: outer) g → K.In g → Top p loose mean mg mb g → KtsDicts ((env :: outer).filterMap (·.frame)) g → (∀ p ∈ news, p.1 < L') →
      wpAny (model prog w) (A.deeper (envOfC qual scope L' f cdv)) (execs body (envOfC qual scope L' f cdv))
        (fun fl s' => LeaveS ((env :: outer).filterMap (·.frame)) A₀ base outer K p loose mean mg mb g₀ h₀ L m g R (match fl with | .ret v => v | _ => .none) s')
        (fun e s' => wpAny (model prog w) (A.deeper (envOfC qual scope L' f cdv)) (leaving (envOfC qual scope L' f cdv) e) (fun _ s'' => R (.error e) s'') (fun e' s'' => R (.error e') s'') s')
        { s with heap := h₁, toks := tk })
    (hco : scope.isCoroutine = false) (hgen : scope.isGenerator = false) (hk : scope.kind = .function) : codeAny (model prog w) A (.call (.ref f) args) R s := by
  have X := X₀.keeps F.keep
  obtain ⟨FG, BG, st, DG, lv⟩ := groundS (R := R) B F N XB TB D T0 hA hf hke
  have hlim := T.nolimit
  refine codeAny_call_function hroom (X _ _ ho) rfl hco hgen rfl (codeRec_of X hcd) (hbind _ _ _ _ ?_)
  refine wpAny_newFunctionEnv_cells hk (kindsX hkind _) fun env' he s' x => ?_
  subst he
  refine ⟨(hlim.keeps F.keep).keeps x.toInCall.keep, codeAny_func ?_⟩
  obtain ⟨h₁, tk, rfl, _⟩ := x.done
  have hk₁ := x.toInCall.keep
  obtain ⟨cells, NC, Y⟩ := Cl.news (h₀ := s.heap) (Nat.le_refl _) fun n c hm => ⟨x.cell n c (lookup_of_mem_nodup (cellsFrom_names scope.names 0 (s.heap.objs.size + 1) [] [] rfl ▸ hnd) hm), x.above n c hm⟩
  refine wpAny_mono (h _ s.heap.objs.size h₁ tk cells FG ⟨x.toInCall.ns, fun b o e => hk₁ b o (of_hideAll _ e), Nat.le_of_eq (hideAll_size _ _)⟩ (fun p hp => ?_) Y BG (X₀.keeps st) (T.keeps st) DG (fun p hp => Heap.lt_size (N p hp).1)) (fun fl s' hl => lv _ _ hl) fun _ _ y => y
  rcases List.mem_append.mp hp with hp | hp
  · refine ⟨(NC p hp).1, (NC p hp).2.1, ?_⟩
    cases q : (hideAll s.heap (news.map (·.1))).get? p.1 with
    | none => rfl
    | some o => have := of_hideAll _ q; rw [(NC p hp).2.2] at this; cases this
  · exact ⟨hk₁ _ _ (N p hp).1, Nat.ne_of_lt (Heap.lt_size (N p hp).1), hideAll_none _ (List.mem_map_of_mem hp)⟩
end
/-- as CallTo, for a def that reaches a try: its base may have turned -/
abbrev CallToS (w : World) (p : Program) (loose : List Str) (mean : ExcName → Option Value) (mg mb : Str → Option Value) (f : Addr) (vs : List Value) (news : Led) (need : Nat) (Post : Value → Led → Prop) : Prop :=
  ∀ (dp un : Nat) (gd : Option (List Code)) (cn : Str) (cs : Scope) (a : Addr) (ccd : Value) (cl : List (Str × Addr)) (outer : List Env) (A₀ : Around) (base h₀ g₀ : Heap) (L : Addr) (m : Str → Option Value) (s : Shared) (Q E : Value → Shared → Prop),
    Below A₀ base outer h₀ → Fr h₀ L s.heap m → (Mine.kept.heap_1 w.params).In h₀ → News h₀ L s.heap news → Top p loose mean mg mb h₀ → (Mine.kept.heap_1 w.params).In base → Top p loose mean mg mb base →
    KtsDicts (outer.filterMap (·.frame)) h₀ → KtsTurn (outer.filterMap (·.frame)) g₀ h₀ → cs.kind = .function → dp + need < recursionLimit → un + 8 * need < cLine →
    (∀ r news' h' tk' h₁, Post r news' → KtsTurn (outer.filterMap (·.frame)) g₀ h₁ → Fr h₁ L h' m → News h₁ L h' news' → Below A₀ base outer h₁ → (Mine.kept.heap_1 w.params).In h₁ → Top p loose mean mg mb h₁ →
      KtsDicts (outer.filterMap (·.frame)) h₁ → Q r { s with heap := h', toks := tk' }) →
    wpAny (model PG w) (ktrTop dp un gd cn cs L a ccd cl outer) (call (.ref f) vs) Q E s
def told (c : Int) (clause : Str) (n : Nat) : Str := ordF c ++ Str.ofString " " ++ clause ++ Str.ofString " BY term out of range - should be between 1 and " ++ Str.ofString (toString (n : Int))
def tup2 (a b : Value) : Obj := { cls := .type "tuple", data := .seq #[a, b] }
section
theorem drop3 {h₀ h : Heap} {L : Addr} {a b c d : Addr × Obj} {rest : Led} (N : News h₀ L h (a :: b :: c :: d :: rest)) : News h₀ L h (a :: rest) := cb_drop N fun q hq => by
  rcases List.mem_cons.mp hq with rfl | hq
  · exact .head _
  · exact .tail _ (.tail _ (.tail _ (.tail _ hq)))
set_option maxHeartbeats 8000000 in
theorem refusal_call {w : World} {p : Program} {loose : List Str} {mean : ExcName → Option Value} {mg mb : Str → Option Value} {news : Led} {e dx nl : Addr} {vs : List Value} {k n : Nat} {v c : Int} {tv tc tz t1 : Tok} {a1 : Int} {z : Str}
    (he : (e, instObj 127 dx) ∈ news) (hd : (dx, dictOf [⟨a1, .str (Str.ofString "value") t1, .int v tv⟩] n) ∈ news) (hl : (nl, listOf vs.toArray k) ∈ news) (h4 : vs.length ≤ 4) (hc : 1 ≤ c) (hc' : c ≤ 130) (hz : z.length ≤ 5) :
    CallToS w p loose mean mg mb 993 [.ref e, .ref nl, .int c tc, .str z tz] news 4 (fun r news' => ∃ D t, r = .ref D ∧ ((1 ≤ v ∧ v ≤ vs.length ∧ news' = (D, tup2 (.int (v - 1) t) .none) :: news) ∨ ((v < 1 ∨ (vs.length : Int) < v) ∧ news' = (D, tup2 .none (.str (told c z vs.length) t)) :: news))) := by
  exact ensure_expected_type% "" (by exact ?walk9 : type_of% (let_mvar% ?walk9 := (by
    intro dp un gd cn cs ac ccd cl outer A₀ base h₀ g₀ L m s Q E B F X N T XB TB D T0 hk hdp hun hret
    refine wpAny_call ?_
    k_dflt ((refine' code_defSX ?k1 ?k2 ?k3 ?k4 ?k5 ?XB ?TB ?D ?T0 ?kA ?kF ?kK ?k6 ?k7 ?k8 ?k9 ?kB ?_ ?c2 ?c3 ?c4 ?c5; (case kA => exact rfl); (case kF => exact rfl); (case kK => first | exact rfl | assumption); (case k2 => k_asm); (case k1 => k_asm); (case XB => assumption); (case TB => assumption); (case D => assumption); (case T0 => first | assumption | exact KtsTurn.refl); (case k3 => k_asm); (case k4 => k_asm); (case k5 => k_asm); (case k6 => k_is); (case k7 => k_is); (case k8 => ktr_room); (case k9 => exact BindsTo.of_eq rfl); (case kB => exact locs rfl); (case c2 => exact rfl); (case c3 => exact rfl); (case c4 => exact rfl); (case c5 => decide); k_whole; intro g' L' h' FG' F' N' B' X' T' D'; (try dsimp only); (try k_lift B'); (try k_fold)))
    k_steps
    all_goals first
      | exact hret _ _ _ _ _ ⟨_, _, rfl, .inl ⟨by assumption, by assumption, rfl⟩⟩ T0 (by assumption) (by assumption) B X T D
      | exact hret _ _ _ _ _ ⟨_, _, rfl, .inr ⟨by omega, rfl⟩⟩ (by assumption) (by assumption) (drop3 (by assumption)) (by assumption) (by assumption) (by assumption) (by assumption)
    : _); ?walk9))
end
section
set_option maxHeartbeats 8000000 in
theorem refusal_str {w : World} {p : Program} {loose : List Str} {mean : ExcName → Option Value} {mg mb : Str → Option Value} {news : Led} {e dx nl : Addr} {vs : List Value} {k n : Nat} {c : Int} {tv tc tz t1 : Tok} {a1 : Int} {z v : Str}
    (he : (e, instObj 127 dx) ∈ news) (hd : (dx, dictOf [⟨a1, .str (Str.ofString "value") t1, .str v tv⟩] n) ∈ news) (hl : (nl, listOf vs.toArray k) ∈ news) :
    CallToS w p loose mean mg mb 993 [.ref e, .ref nl, .int c tc, .str z tz] news 4 (fun r news' => ∃ D, r = .ref D ∧ news' = (D, tup2 .none .none) :: news) := by
  exact ensure_expected_type% "" (by exact ?walk9 : type_of% (let_mvar% ?walk9 := (by
    intro dp un gd cn cs ac ccd cl outer A₀ base h₀ g₀ L m s Q E B F X N T XB TB D T0 hk hdp hun hret
    refine wpAny_call ?_
    k_dflt ((refine' code_defSX ?k1 ?k2 ?k3 ?k4 ?k5 ?XB ?TB ?D ?T0 ?kA ?kF ?kK ?k6 ?k7 ?k8 ?k9 ?kB ?_ ?c2 ?c3 ?c4 ?c5; (case kA => exact rfl); (case kF => exact rfl); (case kK => first | exact rfl | assumption); (case k2 => k_asm); (case k1 => k_asm); (case XB => assumption); (case TB => assumption); (case D => assumption); (case T0 => first | assumption | exact KtsTurn.refl); (case k3 => k_asm); (case k4 => k_asm); (case k5 => k_asm); (case k6 => k_is); (case k7 => k_is); (case k8 => ktr_room); (case k9 => exact BindsTo.of_eq rfl); (case kB => exact locs rfl); (case c2 => exact rfl); (case c3 => exact rfl); (case c4 => exact rfl); (case c5 => decide); k_whole; intro g' L' h' FG' F' N' B' X' T' D'; (try dsimp only); (try k_lift B'); (try k_fold)))
    k_steps
    all_goals exact hret _ _ _ _ _ ⟨_, rfl, rfl⟩ T0 (by assumption) (by assumption) B X T D
    : _); ?walk9))
end
section
variable {w : World} {p : Program} {loose : List Str} {mean : ExcName → Option Value} {mg mb : Str → Option Value}
  {dp un : Nat} {gd : Option (List Code)} {cn : Str} {cs : Scope} {a : Addr} {ccd : Value} {cl : List (Str × Addr)} {outer : List Env} {A₀ : Around} {base h₀ g₀ : Heap} {L : Addr} {m : Str → Option Value} {s : Shared} {Q E : Value → Shared → Prop}
  {news : Led} {e dx nl : Addr} {vs : List Value} {k n : Nat} {v c : Int} {tv tc tz t1 : Tok} {a1 : Int} {z : Str}
theorem refusal_in (F : Fr h₀ L s.heap m) (B : Below A₀ base outer h₀) (X : (Mine.kept.heap_1 w.params).In h₀) (N : News h₀ L s.heap news) (T : Top p loose mean mg mb h₀) (XB : (Mine.kept.heap_1 w.params).In base) (TB : Top p loose mean mg mb base)
    (D : KtsDicts (outer.filterMap (·.frame)) h₀) (T0 : KtsTurn (outer.filterMap (·.frame)) g₀ h₀) (hk : cs.kind = .function)
    (he : (e, instObj 127 dx) ∈ news) (hd : (dx, dictOf [⟨a1, .str (Str.ofString "value") t1, .int v tv⟩] n) ∈ news) (hl : (nl, listOf vs.toArray k) ∈ news) (h4 : vs.length ≤ 4) (hc : 1 ≤ c) (hc' : c ≤ 130) (hz : z.length ≤ 5)
    (h1 : 1 ≤ v) (h2 : v ≤ vs.length) (hdd : dp + 4 < recursionLimit) (hu : un + 8 * 4 < cLine)
    (ret : ∀ D t h' tk' h₁, KtsTurn (outer.filterMap (·.frame)) g₀ h₁ → Fr h₁ L h' m → News h₁ L h' ((D, { cls := .type "tuple", data := .seq #[.int (v - 1) t, .none] }) :: news) → Below A₀ base outer h₁ → (Mine.kept.heap_1 w.params).In h₁ → Top p loose mean mg mb h₁ →
      KtsDicts (outer.filterMap (·.frame)) h₁ → Q (.ref D) { s with heap := h', toks := tk' }) :
    wpAny (model PG w) (ktrTop dp un gd cn cs L a ccd cl outer) (call (.ref 993) [.ref e, .ref nl, .int c tc, .str z tz]) Q E s :=
  refusal_call he hd hl h4 hc hc' hz _ _ _ _ _ _ _ _ _ _ _ _ _ _ _ _ _ _ B F X N T XB TB D T0 hk hdd hu fun _ _ h' tk' h₁ ⟨D, t, e, e'⟩ T' F' N' B' X' P' D' => by
    subst e
    rcases e' with ⟨_, _, e'⟩ | ⟨q, _⟩
    · subst e'; exact ret D t h' tk' h₁ T' F' N' B' X' P' D'
    · omega
theorem refusal_out (F : Fr h₀ L s.heap m) (B : Below A₀ base outer h₀) (X : (Mine.kept.heap_1 w.params).In h₀) (N : News h₀ L s.heap news) (T : Top p loose mean mg mb h₀) (XB : (Mine.kept.heap_1 w.params).In base) (TB : Top p loose mean mg mb base)
    (D : KtsDicts (outer.filterMap (·.frame)) h₀) (T0 : KtsTurn (outer.filterMap (·.frame)) g₀ h₀) (hk : cs.kind = .function)
    (he : (e, instObj 127 dx) ∈ news) (hd : (dx, dictOf [⟨a1, .str (Str.ofString "value") t1, .int v tv⟩] n) ∈ news) (hl : (nl, listOf vs.toArray k) ∈ news) (h4 : vs.length ≤ 4) (hc : 1 ≤ c) (hc' : c ≤ 130) (hz : z.length ≤ 5)
    (h1 : v < 1 ∨ (vs.length : Int) < v) (hdd : dp + 4 < recursionLimit) (hu : un + 8 * 4 < cLine)
    (ret : ∀ D t h' tk' h₁, KtsTurn (outer.filterMap (·.frame)) g₀ h₁ → Fr h₁ L h' m → News h₁ L h' ((D, { cls := .type "tuple", data := .seq #[.none, .str (told c z vs.length) t] }) :: news) → Below A₀ base outer h₁ → (Mine.kept.heap_1 w.params).In h₁ → Top p loose mean mg mb h₁ →
      KtsDicts (outer.filterMap (·.frame)) h₁ → Q (.ref D) { s with heap := h', toks := tk' }) :
    wpAny (model PG w) (ktrTop dp un gd cn cs L a ccd cl outer) (call (.ref 993) [.ref e, .ref nl, .int c tc, .str z tz]) Q E s :=
  refusal_call he hd hl h4 hc hc' hz _ _ _ _ _ _ _ _ _ _ _ _ _ _ _ _ _ _ B F X N T XB TB D T0 hk hdd hu fun _ _ h' tk' h₁ ⟨D, t, e, e'⟩ T' F' N' B' X' P' D' => by
    subst e
    rcases e' with ⟨q, _, _⟩ | ⟨_, e'⟩
    · omega
    · subst e'; exact ret D t h' tk' h₁ T' F' N' B' X' P' D'
theorem refusal_none {v : Str} (F : Fr h₀ L s.heap m) (B : Below A₀ base outer h₀) (X : (Mine.kept.heap_1 w.params).In h₀) (N : News h₀ L s.heap news) (T : Top p loose mean mg mb h₀) (XB : (Mine.kept.heap_1 w.params).In base) (TB : Top p loose mean mg mb base)
    (D : KtsDicts (outer.filterMap (·.frame)) h₀) (T0 : KtsTurn (outer.filterMap (·.frame)) g₀ h₀) (hk : cs.kind = .function)
    (he : (e, instObj 127 dx) ∈ news) (hd : (dx, dictOf [⟨a1, .str (Str.ofString "value") t1, .str v tv⟩] n) ∈ news) (hl : (nl, listOf vs.toArray k) ∈ news) (hdd : dp + 4 < recursionLimit) (hu : un + 8 * 4 < cLine)
    (ret : ∀ D h' tk' h₁, KtsTurn (outer.filterMap (·.frame)) g₀ h₁ → Fr h₁ L h' m → News h₁ L h' ((D, { cls := .type "tuple", data := .seq #[.none, .none] }) :: news) → Below A₀ base outer h₁ → (Mine.kept.heap_1 w.params).In h₁ → Top p loose mean mg mb h₁ →
      KtsDicts (outer.filterMap (·.frame)) h₁ → Q (.ref D) { s with heap := h', toks := tk' }) :
    wpAny (model PG w) (ktrTop dp un gd cn cs L a ccd cl outer) (call (.ref 993) [.ref e, .ref nl, .int c tc, .str z tz]) Q E s :=
  refusal_str he hd hl _ _ _ _ _ _ _ _ _ _ _ _ _ _ _ _ _ _ B F X N T XB TB D T0 hk hdd hu fun _ _ h' tk' h₁ ⟨D, e, e'⟩ T' F' N' B' X' P' D' => by
    subst e e'
    exact ret D h' tk' h₁ T' F' N' B' X' P' D'
theorem letters_use {src : Addr} {o : Obj} {rest : Led} {x : Str} {tt : Tok} (F : Fr h₀ L s.heap m) (B : Below A₀ base outer h₀) (X : (Mine.kept.heap_1 w.params).In h₀) (N : News h₀ L s.heap news) (T : Top p loose mean mg mb h₀) (hk : cs.kind = .function)
    (hp : Pick (src, o) news rest) (ho : SrcOk o) (hx : x ∈ menu5) (hr : ∀ q ∈ rest, q.1 ≠ src) (hd : dp + 2 < recursionLimit) (hu : un + 8 * 2 < cLine)
    (ret : ∀ y t o' h' tk', Nm y x → SrcOk o' → Fr h₀ L h' m → News h₀ L h' ((src, o') :: rest) → Q (.str y t) { s with heap := h', toks := tk' }) :
    wpAny (model PG w) (ktrTop dp un gd cn cs L a ccd cl outer) (call (.ref 979) [.ref src, .str x tt]) Q E s :=
  letters_call ho hx hr _ _ _ _ _ _ _ _ _ _ _ _ _ _ _ _ _ B F X (cb_drop N hp.sub) T hk hd hu fun _ _ h' tk' ⟨y, t, o', e, h1, ho', e'⟩ F' N' => by
    subst e e'
    exact ret y t o' h' tk' h1 ho' F' N'
end
def IsShort (v : Value) : Prop := ∃ x t, v = .str x t ∧ x.length ≤ 5
theorem rows20 : True := by
  w_top off
  (k_with "call ref" => ((k_here; (with_reducible show wpAny _ _ (call (Value.ref 993) [Value.ref _, Value.ref _, Value.int _ _, Value.str _ _]) _ _ _); k_dflt (first   | (refine' refusal_in ?k2 ?k1 ?k3 ?k4 ?k5 ?XB ?TB ?D ?T0 ?kK ?he ?hd ?hl ?h4 ?hc ?hc' ?hz ?h1 ?h2 ?kd ?ku ?_; (case k2 => k_asm); (case k1 => k_asm); (case k3 => k_asm); (case k4 => k_asm); (case k5 => k_asm); (case XB => assumption); (case TB => assumption); (case D => assumption); (case T0 => first | assumption | exact KtsTurn.refl); (case kK => first | exact rfl | assumption); (case he => k_mem); (case hd => k_mem); (case hl => k_mem); (case h4 => omega); (case hc => omega); (case hc' => omega); (case hz => assumption); (case h1 => omega); (case h2 => omega); (case kd => ktr_room); (case ku => ktr_units); k_whole)   | (refine' refusal_out ?k2 ?k1 ?k3 ?k4 ?k5 ?XB ?TB ?D ?T0 ?kK ?he ?hd ?hl ?h4 ?hc ?hc' ?hz ?h1 ?kd ?ku ?_; (case k2 => k_asm); (case k1 => k_asm); (case k3 => k_asm); (case k4 => k_asm); (case k5 => k_asm); (case XB => assumption); (case TB => assumption); (case D => assumption); (case T0 => first | assumption | exact KtsTurn.refl); (case kK => first | exact rfl | assumption); (case he => k_mem); (case hd => k_mem); (case hl => k_mem); (case h4 => omega); (case hc => omega); (case hc' => omega); (case hz => assumption); (case h1 => omega); (case kd => ktr_room); (case ku => ktr_units); k_whole)); intro D' t' h' tk' h₁' T' F' N' B' X' P' D''; (try k_lift B'); (try k_sweep); (try dsimp only); walk_say "REFUSAL")))
  (k_with "call ref" => ((k_here; (with_reducible show wpAny _ _ (call (Value.ref 993) [Value.ref _, Value.ref _, Value.int _ _, Value.str _ _]) _ _ _); k_dflt (refine' refusal_none ?k2 ?k1 ?k3 ?k4 ?k5 ?XB ?TB ?D ?T0 ?kK ?he ?hd ?hl ?kd ?ku ?_; (case k2 => k_asm); (case k1 => k_asm); (case k3 => k_asm); (case k4 => k_asm); (case k5 => k_asm); (case XB => assumption); (case TB => assumption); (case D => assumption); (case T0 => first | assumption | exact KtsTurn.refl); (case kK => first | exact rfl | assumption); (case he => k_mem); (case hd => k_mem); (case hl => k_mem); (case kd => ktr_room); (case ku => ktr_units); k_whole); intro D' h' tk' h₁' T' F' N' B' X' P' D''; (try k_lift B'); (try k_sweep); (try dsimp only); walk_say "REFUSAL0")))
  (k_with "call ref" => ((k_here; (with_reducible show wpAny _ _ (call (Value.ref 979) _) _ _ _); k_dflt (refine' letters_use ?k2 ?k1 ?k3 ?k4 ?k5 ?kK ?kp ?ko ?hx ?kr ?kd ?ku ?_; (case k2 => k_asm); (case k1 => k_asm); (case k3 => k_asm); (case k4 => k_asm); (case k5 => k_asm); (case kK => first | exact rfl | assumption); (case kp => k_mem); (case ko => assumption); (case hx => assumption); (case kr => k_all); (case kd => ktr_room); (case ku => ktr_units); k_whole); intro y' t' o' h' tk' hnm' hso' F' N'; (try k_sweep); (try k_fold); (try dsimp only); walk_say "LETTERS")))
  (k_with "call ref" => ((k_here; (with_reducible show wpAny _ _ (call (Value.ref 972) [Value.ref _, Value.ref _]) _ _ _); k_dflt (first | ((refine' one_use (IsStrOf menu5) ?k1 ?k2 ?k3 ?k4 ?k5 ?kK ?kp ?ko ?kr ?hm ?h2 ?ht ?hP ?kd ?ku ?_; (case k2 => k_asm); (case k1 => k_asm); (case k3 => k_asm); (case k4 => k_asm); (case k5 => k_asm); (case kK => first | exact rfl | assumption); (case kp => k_mem); (case ko => assumption); (case kr => k_all); (case hm => k_mem); (case h2 => exact Nat.le_of_ble_eq_true rfl); (case ht => exact Nat.le_of_ble_eq_true rfl); (case hP => (repeat (first | exact List.forall_mem_nil _ | refine List.forall_mem_cons.mpr ⟨⟨_, _, rfl, by decide +kernel⟩, ?_⟩))); (case kd => ktr_room); (case ku => ktr_units); k_whole)) | ((refine' one_use IsShort ?k1 ?k2 ?k3 ?k4 ?k5 ?kK ?kp ?ko ?kr ?hm ?h2 ?ht ?hP ?kd ?ku ?_; (case k2 => k_asm); (case k1 => k_asm); (case k3 => k_asm); (case k4 => k_asm); (case k5 => k_asm); (case kK => first | exact rfl | assumption); (case kp => k_mem); (case ko => assumption); (case kr => k_all); (case hm => k_mem); (case h2 => exact Nat.le_of_ble_eq_true rfl); (case ht => exact Nat.le_of_ble_eq_true rfl); (case hP => (repeat (first | exact List.forall_mem_nil _ | refine List.forall_mem_cons.mpr ⟨⟨_, _, rfl, by decide +kernel⟩, ?_⟩))); (case kd => ktr_room); (case ku => ktr_units); k_whole))); intro r' o' h' tk' hP' hso' F' N'; k_dflt (obtain ⟨x', t', hr', hx'⟩ := hP'); subst hr'; (try k_sweep); (try k_fold); (try dsimp only); walk_say "ONE")))
  trivial
section
open PyProof.Rows.LCg
variable {prog : Program} {w : World} {A : Around} {h₀ : Heap} {L : Addr} {m : Str → Option Value} {env : Env} {elt : PySem.Expr} {x : Str} {scope : Scope} {cl : List (Str × Addr)} {s : Shared} {P : Nat → Value → Prop} {Fin : List Value → Led → Prop} {news : Led} {n : Nat}
/-- the turns of a comprehension by what each keeps -/
theorem comp_inv {S : Led → Prop} (Inv : Nat → List Value → Led → Prop) (h0 : Inv 0 [] news) (fin : ∀ ys nw, Inv n ys nw → Fin ys nw)
    (step : ∀ i ys nw v I oI C oC D m₂ h tk (E' : Value → Shared → Prop), i < n → Inv i ys nw → P i v → NsObj oC m₂ → m₂ x = some v → Fr h₀ L h m → News h₀ L h ((I, oI) :: (C, oC) :: (D, lst ys) :: nw) → Off3 I C D nw → ((@Ne Nat I C) ∧ (@Ne Nat I D) ∧ (@Ne Nat C D)) →
      wpAny (model prog w) A (eval elt (compEnvC scope cl C env)) (CompEnd h₀ L m { s with heap := h, toks := tk } I oI C oC D (lst ys) S (fun y nw' => Inv (i + 1) (ys ++ [y]) nw')) E' { s with heap := h, toks := tk }) :
    CompRest prog w A h₀ L m env elt x scope cl s S P Fin n 0 [] news := by
  have key : ∀ k i ys nw, i + k = n → Inv i ys nw → CompRest prog w A h₀ L m env elt x scope cl s S P Fin k i ys nw := by
    intro k
    induction k with
    | zero =>
      intro i ys nw e hI
      obtain rfl : i = n := by omega
      exact CompRest.zero (fin _ _ hI)
    | succ k ih =>
      intro i ys nw e hI
      refine CompRest.succ fun v I oI C oC D m₂ h tk E' hv hC hx F N off ne => ?_
      refine wpAny_mono (step i ys nw v I oI C oC D m₂ h tk E' (by omega) hI hv hC hx F N off ne) (fun y s₄ h₄ => ?_) fun _ _ e => e
      obtain ⟨h', tk', nw', rfl, F', N', off', hS, hI'⟩ := h₄
      exact ⟨h', tk', nw', rfl, F', N', off', hS, ih (i + 1) _ _ (by omega) hI'⟩
  exact key n 0 [] news (Nat.zero_add n) h0
theorem off_swap {I C D src : Addr} {o o' : Obj} {rest : Led} (h : Off3 I C D ((src, o) :: rest)) : Off3 I C D ((src, o') :: rest) := h
/-- drawn names so far -/
def Drawn (src : Addr) (rest : Led) (i : Nat) (ys : List Value) (nw : Led) : Prop := ∃ xs o, NamesAre ys xs ∧ xs.length = i ∧ SrcOk o ∧ nw = (src, o) :: rest
theorem NamesAre.snoc : ∀ {vs : List Value} {xs : List Str} {y x : Str} (t : Tok), NamesAre vs xs → Nm y x → NamesAre (vs ++ [.str y t]) (xs ++ [x])
  | _, _, _, _, t, .nil, h => .cons t h .nil
  | _, _, _, _, t, .cons u h' r, h => .cons u h' (r.snoc t h)
theorem names_end {I C D src : Addr} {oI oC o : Obj} {rest all : Led} {ys : List Value} {xs : List Str} {y x : Str} {t : Tok} {h : Heap} {h' : Heap} {tk tk' : Nat} {i : Nat}
    (F : Fr h₀ L h' m) (N : News h₀ L h' all) (sub : ∀ q ∈ (I, oI) :: (C, oC) :: (D, lst ys) :: (src, o) :: rest, q ∈ all) (off : ((@Ne Nat src I) ∧ (@Ne Nat src C) ∧ (@Ne Nat src D)) ∧ Off3 I C D rest) (hn : NamesAre ys xs) (hl : xs.length = i) (hy : Nm y x) (ho : SrcOk o) :
    CompEnd h₀ L m { s with heap := h, toks := tk } I oI C oC D (lst ys) (fun _ => True) (fun y nw' => Drawn src rest (i + 1) (ys ++ [y]) nw') (.str y t) { s with heap := h', toks := tk' } :=
  ⟨h', tk', (src, o) :: rest, rfl, F, fun q hq => N q (sub q hq), off, trivial, _, o, hn.snoc t hy, by rw [List.length_append, hl]; rfl, ho, rfl⟩
theorem range5 {d : Int} (h0 : 0 ≤ d) (h5 : d < 5) : Builtin.Range.small 0 d 1 = true ∧ Builtin.Range.rangeSize 0 d 1 = ((d.toNat : Nat) : Int) ∧ d.toNat ≤ sizeLine := by
  have : d = 0 ∨ d = 1 ∨ d = 2 ∨ d = 3 ∨ d = 4 := by omega
  rcases this with rfl | rfl | rfl | rfl | rfl <;> decide +kernel
theorem names_src {Fin : Shared → List Value → Led → Prop} {s₁ : Shared} {r src : Addr} {o : Obj} {rest : Led} {d : Int} {t u v : Tok} (hh : A.handled = none) (F : Fr h₀ L s₁.heap m) (N : News h₀ L s₁.heap news) (hp : Pick (src, o) news rest) (hr : IsRange s₁.heap r 0 d 1 t u v) (h0 : 0 ≤ d) (h5 : d < 5) (ho : SrcOk o)
    (fin : ∀ g ys xs o', NamesAre ys xs → xs.length ≤ 4 → SrcOk o' → Fin { s₁ with heap := g } ys ((src, o') :: rest))
    (step : ∀ g i ys xs o v I oI C oC D m₂ h tk (E' : Value → Shared → Prop), NamesAre ys xs → xs.length = i → SrcOk o → NsObj oC m₂ → m₂ x = some v → Fr h₀ L h m → News h₀ L h ((I, oI) :: (C, oC) :: (D, lst ys) :: (src, o) :: rest) → Off3 I C D ((src, o) :: rest) → ((@Ne Nat I C) ∧ (@Ne Nat I D) ∧ (@Ne Nat C D)) →
      wpAny (model prog w) A (eval elt (compEnvC scope cl C env)) (CompEnd h₀ L m { ({ s₁ with heap := g } : Shared) with heap := h, toks := tk } I oI C oC D (lst ys) (fun _ => True) (fun y nw' => Drawn src rest (i + 1) (ys ++ [y]) nw')) E' { ({ s₁ with heap := g } : Shared) with heap := h, toks := tk }) :
    CompSrc prog w A h₀ L m env elt x scope cl Fin (.ref r) s₁ := by
  obtain ⟨r1, r2, r3⟩ := range5 h0 h5
  refine CompSrc.range hh F (cb_drop N hp.sub) hr r1 r2 r3 fun g => ?_
  refine comp_inv (Drawn src rest) ⟨[], o, .nil, rfl, ho, rfl⟩ (fun ys nw hI => ?_) fun i ys nw v I oI C oC D m₂ h tk E' hi hI hv hC hx F' N' off ne => ?_
  · obtain ⟨xs, o', hn, hl, ho', rfl⟩ := hI
    exact fin g ys xs o' hn (by omega) ho'
  · obtain ⟨xs, o', hn, hl, ho', rfl⟩ := hI
    exact step g i ys xs o' v I oI C oC D m₂ h tk E' hn hl ho' hC hx F' N' off ne
/-- one turn's end: the ledger as it was -/
def ElEnd (h₀ : Heap) (L : Addr) (m : Str → Option Value) (s : Shared) (I : Addr) (oI : Obj) (C : Addr) (oC : Obj) (D : Addr) (ys : List Value) (news : Led) (K : Value → Prop) (r : Value) (s' : Shared) : Prop :=
  ∃ h' tk', s' = { s with heap := h', toks := tk' } ∧ Fr h₀ L h' m ∧ News h₀ L h' ((I, oI) :: (C, oC) :: (D, lst ys) :: news) ∧ K r
theorem elEnd {I C D : Addr} {oI oC : Obj} {all : Led} {ys : List Value} {K : Value → Prop} {r : Value} {h' : Heap} {tk' : Nat} (F : Fr h₀ L h' m) (N : News h₀ L h' all) (sub : ∀ q ∈ (I, oI) :: (C, oC) :: (D, lst ys) :: news, q ∈ all) (k : K r) :
    ElEnd h₀ L m s I oI C oC D ys news K r { s with heap := h', toks := tk' } := ⟨h', tk', rfl, F, fun q hq => N q (sub q hq), k⟩
theorem list_src {Fin : Shared → List Value → Led → Prop} {s₁ : Shared} {nl : Addr} {vs : List Value} {k : Nat} (Rel : List Value → Nat → Prop) (hr0 : Rel [] 0) (hh : A.handled = none) (F : Fr h₀ L s₁.heap m) (N : News h₀ L s₁.heap news) (hm : (nl, listOf vs.toArray k) ∈ news) (h4 : vs.length ≤ 4)
    (fin : ∀ g ys, Rel ys vs.length → Fin { s₁ with heap := g } ys news)
    (step : ∀ g i ys v I oI C oC D m₂ h tk (E' : Value → Shared → Prop), Rel ys i → vs[i]? = some v → NsObj oC m₂ → m₂ x = some v → Fr h₀ L h m → News h₀ L h ((I, oI) :: (C, oC) :: (D, lst ys) :: news) → Off3 I C D news → ((@Ne Nat I C) ∧ (@Ne Nat I D) ∧ (@Ne Nat C D)) →
      wpAny (model prog w) A (eval elt (compEnvC scope cl C env)) (ElEnd h₀ L m { ({ s₁ with heap := g } : Shared) with heap := h, toks := tk } I oI C oC D ys news fun r => Rel (ys ++ [r]) (i + 1)) E' { ({ s₁ with heap := g } : Shared) with heap := h, toks := tk }) :
    CompSrc prog w A h₀ L m env elt x scope cl Fin (.ref nl) s₁ := by
  refine CompSrc.ledger hh F N hm (by rw [List.size_toArray, sizeLine_eq]; omega) fun g => ?_
  refine comp_inv (fun i ys nw => Rel ys i ∧ nw = news) ⟨hr0, rfl⟩ (fun ys nw hI => ?_) fun i ys nw v I oI C oC D m₂ h tk E' hi hI hv hC hx F' N' off ne => ?_
  · obtain ⟨hR, rfl⟩ := hI
    rw [List.size_toArray] at hR
    exact fin g ys hR
  · obtain ⟨hR, rfl⟩ := hI
    rw [List.getElem?_toArray] at hv
    refine wpAny_mono (step g i ys v I oI C oC D m₂ h tk E' hR hv hC hx F' N' off ne) (fun r s₄ h₄ => ?_) fun _ _ e => e
    obtain ⟨h', tk', rfl, F₄, N₄, k₄⟩ := h₄
    exact ⟨h', tk', nw, rfl, F₄, N₄, off, .inr ⟨_, hm, rfl, _, rfl⟩, k₄, rfl⟩
theorem strs_snoc : ∀ {vs : List Value} {xs : List Str} {x : Str} (t : Tok), StrsAre vs xs → StrsAre (vs ++ [.str x t]) (xs ++ [x])
  | _, _, _, t, .nil => .cons _ t .nil
  | _, _, _, t, .cons n u h => .cons n u (strs_snoc t h)
theorem small_src {Fin : Shared → List Value → Led → Prop} {s₁ : Shared} {nl : Addr} {vs : List Value} {xs : List Str} {k : Nat} (hh : A.handled = none) (F : Fr h₀ L s₁.heap m) (N : News h₀ L s₁.heap news) (hm : (nl, listOf vs.toArray k) ∈ news) (hn : NamesAre vs xs) (h4 : xs.length ≤ 4)
    (fin : ∀ g ys, StrsAre ys xs → Fin { s₁ with heap := g } ys news)
    (step : ∀ g y x' t ys I oI C oC D m₂ h tk (E' : Value → Shared → Prop), Nm y x' → y.length ≤ 3 → NsObj oC m₂ → m₂ x = some (.str y t) → Fr h₀ L h m → News h₀ L h ((I, oI) :: (C, oC) :: (D, lst ys) :: news) → Off3 I C D news → ((@Ne Nat I C) ∧ (@Ne Nat I D) ∧ (@Ne Nat C D)) →
      wpAny (model prog w) A (eval elt (compEnvC scope cl C env)) (ElEnd h₀ L m { ({ s₁ with heap := g } : Shared) with heap := h, toks := tk } I oI C oC D ys news fun r => ∃ t', r = .str x' t') E' { ({ s₁ with heap := g } : Shared) with heap := h, toks := tk }) :
    CompSrc prog w A h₀ L m env elt x scope cl Fin (.ref nl) s₁ := by
  have hl := hn.length
  refine list_src (fun ys i => StrsAre ys (xs.take i)) .nil hh F N hm (by omega) (fun g ys hR => fin g ys (by rwa [hl, List.take_length] at hR)) fun g i ys v I oI C oC D m₂ h tk E' hR hv hC hx F' N' off ne => ?_
  have hi : i < vs.length := (List.getElem?_eq_some_iff.mp hv).1
  obtain ⟨y, x', t, e1, e2, e3⟩ := hn.get i (by omega)
  rw [e1] at hv
  obtain rfl := Option.some.inj hv
  refine wpAny_mono (step g y x' t ys I oI C oC D m₂ h tk E' e3 (nm_len _ e3) hC hx F' N' off ne) (fun r s₄ h₄ => ?_) fun _ _ e => e
  obtain ⟨h', tk', rfl, F₄, N₄, t', rfl⟩ := h₄
  refine ⟨h', tk', rfl, F₄, N₄, ?_⟩
  rw [List.take_add_one, e2]
  exact strs_snoc t' hR
theorem out_src {Fin : Shared → List Value → Led → Prop} {s₁ : Shared} {nl : Addr} {vs : List Value} {xs : List Str} {k : Nat} (hh : A.handled = none) (F : Fr h₀ L s₁.heap m) (N : News h₀ L s₁.heap news) (hm : (nl, listOf vs.toArray k) ∈ news) (hn : NamesAre vs xs) (h4 : xs.length ≤ 4)
    (fin : ∀ g ys, ys.length = vs.length → Fin { s₁ with heap := g } ys news)
    (step : ∀ g y t ys I oI C oC D m₂ h tk (E' : Value → Shared → Prop), NsObj oC m₂ → m₂ x = some (.str y t) → Fr h₀ L h m → News h₀ L h ((I, oI) :: (C, oC) :: (D, lst ys) :: news) → Off3 I C D news → ((@Ne Nat I C) ∧ (@Ne Nat I D) ∧ (@Ne Nat C D)) →
      wpAny (model prog w) A (eval elt (compEnvC scope cl C env)) (ElEnd h₀ L m { ({ s₁ with heap := g } : Shared) with heap := h, toks := tk } I oI C oC D ys news fun _ => True) E' { ({ s₁ with heap := g } : Shared) with heap := h, toks := tk }) :
    CompSrc prog w A h₀ L m env elt x scope cl Fin (.ref nl) s₁ := by
  have hl := hn.length
  refine list_src (fun ys i => ys.length = i) rfl hh F N hm (by omega) fin fun g i ys v I oI C oC D m₂ h tk E' hR hv hC hx F' N' off ne => ?_
  have hi : i < vs.length := (List.getElem?_eq_some_iff.mp hv).1
  obtain ⟨y, x', t, e1, e2, e3⟩ := hn.get i (by omega)
  rw [e1] at hv
  obtain rfl := Option.some.inj hv
  refine wpAny_mono (step g y t ys I oI C oC D m₂ h tk E' hC hx F' N' off ne) (fun r s₄ h₄ => ?_) fun _ _ e => e
  obtain ⟨h', tk', rfl, F₄, N₄, _⟩ := h₄
  exact ⟨h', tk', rfl, F₄, N₄, by dsimp only; rw [List.length_append, hR]; rfl⟩
end
def Stop (P : Prop) : Prop := P
def Cut : Prop := True
theorem stop_at {P : Prop} (h : Stop P) : P := h
def Aft (src d : Addr) : Prop := @LT.lt Nat _ src d
theorem aft_src {src d : Addr} {o : Obj} {l : Led} (h : ∀ p ∈ (src, o) :: l, p.1 < d) (_ : SrcOk o) : Aft src d := h _ (.head _)
theorem aft_hd {src x d : Addr} {o : Obj} {l : Led} (h : ∀ p ∈ (x, o) :: l, p.1 < d) (hx : Aft src x) : Aft src d := Nat.lt_trans hx (h _ (.head _))
theorem aft_lt {src d e : Addr} (h : @LT.lt Nat _ d e) (hd : Aft src d) : Aft src e := Nat.lt_trans hd h
theorem aft_ne {src d : Addr} (h : Aft src d) : d ≠ src := Nat.ne_of_gt h
theorem aft_add {src d k : Addr} (h : Aft src d) : d + k ≠ src := Nat.ne_of_gt (Nat.lt_of_lt_of_le h (Nat.le_add_right _ _))
local macro_rules | `(tactic| k_lt $h:ident) => `(tactic| ((have lc9' := $h); (repeat (replace $h := l9_four $h; have y9' := And.left $h; replace $h := And.right $h)); (repeat (replace $h := l9_one $h; have y9' := And.left $h; replace $h := And.right $h)); (have lc8' := lc9'); clear lc9'))
theorem rows21 : True := by
  w_top off
  (k_with "size_fits" => (exact Nat.le_of_ble_eq_true rfl))
  (k_with "k_mem" => (((with_reducible show _ ∈ _ :: _); first | with_reducible exact mem_hd | ((with_reducible refine mem_tl ?_); (first | with_reducible exact mem_hd | ((with_reducible refine mem_tl ?_); (first | with_reducible exact mem_hd | ((with_reducible refine mem_tl ?_); (first | with_reducible exact mem_hd | ((with_reducible refine mem_tl ?_); (first | with_reducible exact mem_hd | ((with_reducible refine mem_tl ?_); (first | with_reducible exact mem_hd | ((with_reducible refine mem_tl ?_); (first | with_reducible exact mem_hd | ((with_reducible refine mem_tl ?_); (first | with_reducible exact mem_hd | ((with_reducible refine mem_tl ?_); (first | with_reducible exact mem_hd | ((with_reducible refine mem_tl ?_); (first | with_reducible exact mem_hd | ((with_reducible refine mem_tl ?_); (first | with_reducible exact mem_hd | ((with_reducible refine mem_tl ?_); (first | with_reducible exact mem_hd | ((with_reducible refine mem_tl ?_); (first | with_reducible exact mem_hd | ((with_reducible refine mem_tl ?_); (first | with_reducible exact mem_hd | ((with_reducible refine mem_tl ?_); (first | with_reducible exact mem_hd | ((with_reducible refine mem_tl ?_); (first | with_reducible exact mem_hd | ((with_reducible refine mem_tl ?_); ((first | ktr_member | (refine AllIn.sub (by assumption) _ ?_; ktr_member)))) | (first | ktr_member | (refine AllIn.sub (by assumption) _ ?_; ktr_member)))) | (first | ktr_member | (refine AllIn.sub (by assumption) _ ?_; ktr_member)))) | (first | ktr_member | (refine AllIn.sub (by assumption) _ ?_; ktr_member)))) | (first | ktr_member | (refine AllIn.sub (by assumption) _ ?_; ktr_member)))) | (first | ktr_member | (refine AllIn.sub (by assumption) _ ?_; ktr_member)))) | (first | ktr_member | (refine AllIn.sub (by assumption) _ ?_; ktr_member)))) | (first | ktr_member | (refine AllIn.sub (by assumption) _ ?_; ktr_member)))) | (first | ktr_member | (refine AllIn.sub (by assumption) _ ?_; ktr_member)))) | (first | ktr_member | (refine AllIn.sub (by assumption) _ ?_; ktr_member)))) | (first | ktr_member | (refine AllIn.sub (by assumption) _ ?_; ktr_member)))) | (first | ktr_member | (refine AllIn.sub (by assumption) _ ?_; ktr_member)))) | (first | ktr_member | (refine AllIn.sub (by assumption) _ ?_; ktr_member)))) | (first | ktr_member | (refine AllIn.sub (by assumption) _ ?_; ktr_member)))) | (first | ktr_member | (refine AllIn.sub (by assumption) _ ?_; ktr_member)))) | (first | ktr_member | (refine AllIn.sub (by assumption) _ ?_; ktr_member)))) | (first | ktr_member | (refine AllIn.sub (by assumption) _ ?_; ktr_member)))))
  (k_with "k_all" => (((repeat' (first | with_reducible assumption | exact l9_ne (by with_reducible assumption) | with_reducible refine ne_cons ?_ ?_ | exact ne_l1 (by with_reducible assumption) (by k_mem) | exact ne_l2 (by with_reducible assumption) (by with_reducible assumption) (by k_mem) | exact ne_l3 (by with_reducible assumption) (by with_reducible assumption) (by with_reducible assumption) (by k_mem) | exact ne_l4 (by with_reducible assumption) (by with_reducible assumption) (by with_reducible assumption) (by with_reducible assumption) (by k_mem) | k_ne)); done)))
  trivial
theorem call_use {w : World} {p : Program} {loose : List Str} {mean : ExcName → Option Value} {mg mb : Str → Option Value} {f : Addr} {vs : List Value} {news : Led} {need : Nat} {Post : Value → Led → Prop} {dp un : Nat} {gd : Option (List Code)} {cn : Str} {cs : Scope} {a : Addr} {ccd : Value} {cl : List (Str × Addr)} {outer : List Env} {A₀ : Around} {base h₀ : Heap} {L : Addr} {m : Str → Option Value} {s : Shared} {Q E : Value → Shared → Prop}
    (C : CallTo w p loose mean mg mb f vs news need Post) (B : Below A₀ base outer h₀) (F : Fr h₀ L s.heap m) (X : (Mine.kept.heap_1 w.params).In h₀) (N : News h₀ L s.heap news) (T : Top p loose mean mg mb h₀) (hk : cs.kind = .function) (hd : dp + need < recursionLimit) (hu : un + 8 * need < cLine)
    (ret : ∀ r news' h' tk', Post r news' → Fr h₀ L h' m → News h₀ L h' news' → Q r { s with heap := h', toks := tk' }) :
    wpAny (model PG w) (ktrTop dp un gd cn cs L a ccd cl outer) (call (.ref f) vs) Q E s := C _ _ _ _ _ _ _ _ _ _ _ _ _ _ _ _ _ B F X N T hk hd hu ret
theorem call_str {w : World} {p : Program} {loose : List Str} {mean : ExcName → Option Value} {mg mb : Str → Option Value} {f : Addr} {vs : List Value} {news : Led} {need : Nat} {dp un : Nat} {gd : Option (List Code)} {cn : Str} {cs : Scope} {a : Addr} {ccd : Value} {cl : List (Str × Addr)} {outer : List Env} {A₀ : Around} {base h₀ : Heap} {L : Addr} {m : Str → Option Value} {s : Shared} {Q E : Value → Shared → Prop} {v : Tok → Value}
    (C : CallTo w p loose mean mg mb f vs news need (fun r news' => (∃ t, r = v t) ∧ news' = news)) (B : Below A₀ base outer h₀) (F : Fr h₀ L s.heap m) (X : (Mine.kept.heap_1 w.params).In h₀) (N : News h₀ L s.heap news) (T : Top p loose mean mg mb h₀) (hk : cs.kind = .function) (hd : dp + need < recursionLimit) (hu : un + 8 * need < cLine)
    (ret : ∀ t h' tk', Fr h₀ L h' m → News h₀ L h' news → Q (v t) { s with heap := h', toks := tk' }) : wpAny (model PG w) (ktrTop dp un gd cn cs L a ccd cl outer) (call (.ref f) vs) Q E s :=
  C _ _ _ _ _ _ _ _ _ _ _ _ _ _ _ _ _ B F X N T hk hd hu fun r n h' tk' ⟨⟨t, e⟩, e'⟩ F9 N9 => by
    subst e e'
    exact ret t h' tk' F9 N9
theorem call_val {w : World} {p : Program} {loose : List Str} {mean : ExcName → Option Value} {mg mb : Str → Option Value} {f : Addr} {vs : List Value} {news : Led} {need : Nat} {dp un : Nat} {gd : Option (List Code)} {cn : Str} {cs : Scope} {a : Addr} {ccd : Value} {cl : List (Str × Addr)} {outer : List Env} {A₀ : Around} {base h₀ : Heap} {L : Addr} {m : Str → Option Value} {s : Shared} {Q E : Value → Shared → Prop} {v : Value}
    (C : CallTo w p loose mean mg mb f vs news need (fun r news' => r = v ∧ news' = news)) (B : Below A₀ base outer h₀) (F : Fr h₀ L s.heap m) (X : (Mine.kept.heap_1 w.params).In h₀) (N : News h₀ L s.heap news) (T : Top p loose mean mg mb h₀) (hk : cs.kind = .function) (hd : dp + need < recursionLimit) (hu : un + 8 * need < cLine)
    (ret : ∀ h' tk', Fr h₀ L h' m → News h₀ L h' news → Q v { s with heap := h', toks := tk' }) : wpAny (model PG w) (ktrTop dp un gd cn cs L a ccd cl outer) (call (.ref f) vs) Q E s :=
  C _ _ _ _ _ _ _ _ _ _ _ _ _ _ _ _ _ B F X N T hk hd hu fun r n h' tk' ⟨e, e'⟩ F9 N9 => by
    subst e e'
    exact ret h' tk' F9 N9
section
set_option maxHeartbeats 2000000 in
theorem mk_name {w : World} {pr : Program} {loose : List Str} {mean : ExcName → Option Value} {mg mb : Str → Option Value} {news : Led} {v0 v1 : Value} :
    CallTo w pr loose mean mg mb 153 [v0, v1] news 3 (fun r news' => ∀ R : Value → Led → Prop, (∀ E D b0 u0 b1 u1 b2 u2 b3 u3 b4 u4 ut, (∀ p ∈ news, p.1 < D) → D < E → R (.ref E) ((E, instObj 153 D) :: (D, dictOf [⟨b0, .str (Str.ofString "table") u0, v0⟩, ⟨b1, .str (Str.ofString "column") u1, v1⟩, ⟨b2, .str (Str.ofString "source") u2, .none⟩, ⟨b3, .str (Str.ofString "place") u3, .none⟩, ⟨b4, .str (Str.ofString "depth") u4, .int 0 ut⟩] 5) :: news)) → R r news') := by
  exact ensure_expected_type% "" (by exact ?walk9 : type_of% (let_mvar% ?walk9 := (by
    intro dp un gd cn cs ac ccd cl outer A₀ base h₀ L m s Q E B F X N T hk hdp hun hret
    k_dflt (refine' call_cls ?k1 ?k2 ?k3 ?k4 ?k5 ?k6 ?_; (case k1 => k_asm); (case k2 => k_asm); (case k3 => k_asm); (case k4 => k_is); (case k5 => k_is); (case k6 => k_is); k_whole; intro x' d' h' F' N' l1 l2; have l1c := l1; have l2c := l2; (try k_lt l1); (try k_lt2 l2))
    k_dflt (refine' code_def ?k1 ?k2 ?k3 ?k4 ?k5 ?kA ?kF ?kK ?k6 ?k7 ?k8 ?k9 ?kB ?_ ?c2 ?c3 ?c4 ?c5; (case kA => exact rfl); (case kF => exact rfl); (case kK => assumption); (case k1 => k_asm); (case k2 => k_asm); (case k3 => k_asm); (case k4 => k_asm); (case k5 => k_asm); (case k6 => k_is); (case k7 => k_is); (case k8 => ktr_room); (case k9 => exact BindsTo.of_eq rfl); (case c5 => decide); (case kB => exact locs rfl); (case c2 => exact rfl); (case c3 => exact rfl); (case c4 => exact rfl); k_whole; intro g' L' h' FG' F' N' B' X' T'; (try dsimp only); (try k_lift B'); (try k_fold))
    k_steps
    all_goals (refine hret _ _ _ _ ?_ (by k_asm) (by k_asm); exact fun R k => k _ _ _ _ _ _ _ _ _ _ _ _ _ (by assumption) (by first | assumption | omega | exact And.left (by assumption)))
    : _); ?walk9))
theorem mk_name_use {w : World} {p : Program} {loose : List Str} {mean : ExcName → Option Value} {mg mb : Str → Option Value} {f : Addr} {vs : List Value} {news : Led} {need : Nat} {dp un : Nat} {gd : Option (List Code)} {cn : Str} {cs : Scope} {a : Addr} {ccd : Value} {cl : List (Str × Addr)} {outer : List Env} {A₀ : Around} {base h₀ : Heap} {L : Addr} {m : Str → Option Value} {s : Shared} {Q E : Value → Shared → Prop} {v0 v1 : Value}
    (C : CallTo w p loose mean mg mb f vs news need (fun r news' => ∀ R : Value → Led → Prop, (∀ E D b0 u0 b1 u1 b2 u2 b3 u3 b4 u4 ut, (∀ p ∈ news, p.1 < D) → D < E → R (.ref E) ((E, instObj 153 D) :: (D, dictOf [⟨b0, .str (Str.ofString "table") u0, v0⟩, ⟨b1, .str (Str.ofString "column") u1, v1⟩, ⟨b2, .str (Str.ofString "source") u2, .none⟩, ⟨b3, .str (Str.ofString "place") u3, .none⟩, ⟨b4, .str (Str.ofString "depth") u4, .int 0 ut⟩] 5) :: news)) → R r news')) (B : Below A₀ base outer h₀) (F : Fr h₀ L s.heap m) (X : (Mine.kept.heap_1 w.params).In h₀) (N : News h₀ L s.heap news) (T : Top p loose mean mg mb h₀) (hk : cs.kind = .function) (hd : dp + need < recursionLimit) (hu : un + 8 * need < cLine)
    (ret : ∀ E D b0 u0 b1 u1 b2 u2 b3 u3 b4 u4 ut, (∀ p ∈ news, p.1 < D) → D < E → ∀ h' tk', Fr h₀ L h' m → News h₀ L h' ((E, instObj 153 D) :: (D, dictOf [⟨b0, .str (Str.ofString "table") u0, v0⟩, ⟨b1, .str (Str.ofString "column") u1, v1⟩, ⟨b2, .str (Str.ofString "source") u2, .none⟩, ⟨b3, .str (Str.ofString "place") u3, .none⟩, ⟨b4, .str (Str.ofString "depth") u4, .int 0 ut⟩] 5) :: news) → Q (.ref E) { s with heap := h', toks := tk' }) : wpAny (model PG w) (ktrTop dp un gd cn cs L a ccd cl outer) (call (.ref f) vs) Q E s :=
  C _ _ _ _ _ _ _ _ _ _ _ _ _ _ _ _ _ B F X N T hk hd hu fun r n h' tk' P9 F9 N9 => P9 (fun r n => Fr h₀ L h' m → News h₀ L h' n → Q r { s with heap := h', toks := tk' }) (fun E D b0 u0 b1 u1 b2 u2 b3 u3 b4 u4 ut l1 l2 F9 N9 => ret E D b0 u0 b1 u1 b2 u2 b3 u3 b4 u4 ut l1 l2 h' tk' F9 N9) F9 N9
set_option maxHeartbeats 2000000 in
theorem mk_source {w : World} {pr : Program} {loose : List Str} {mean : ExcName → Option Value} {mg mb : Str → Option Value} {news : Led} {v0 v1 v2 v3 v4 v5 v6 : Value} :
    CallTo w pr loose mean mg mb 897 [v0, v1, v2, v3, v4, v5, v6] news 3 (fun r news' => ∀ R : Value → Led → Prop, (∀ E D b0 u0 b1 u1 b2 u2 b3 u3 b4 u4 b5 u5 b6 u6 b7 u7 b8 u8 U un, (∀ p ∈ news, p.1 < D) → D < E → E < U → R (.ref E) ((U, listOf #[] un) :: (E, instObj 897 D) :: (D, dictOf [⟨b0, .str (Str.ofString "number") u0, v0⟩, ⟨b1, .str (Str.ofString "alias") u1, v1⟩, ⟨b2, .str (Str.ofString "table") u2, v2⟩, ⟨b3, .str (Str.ofString "columns") u3, v3⟩, ⟨b4, .str (Str.ofString "select") u4, v4⟩, ⟨b5, .str (Str.ofString "kind") u5, v5⟩, ⟨b6, .str (Str.ofString "hint") u6, v6⟩, ⟨b7, .str (Str.ofString "on") u7, .none⟩, ⟨b8, .str (Str.ofString "using") u8, .ref U⟩] 9) :: news)) → R r news') := by
  exact ensure_expected_type% "" (by exact ?walk9 : type_of% (let_mvar% ?walk9 := (by
    intro dp un gd cn cs ac ccd cl outer A₀ base h₀ L m s Q E B F X N T hk hdp hun hret
    k_dflt (refine' call_cls ?k1 ?k2 ?k3 ?k4 ?k5 ?k6 ?_; (case k1 => k_asm); (case k2 => k_asm); (case k3 => k_asm); (case k4 => k_is); (case k5 => k_is); (case k6 => k_is); k_whole; intro x' d' h' F' N' l1 l2; have l1c := l1; have l2c := l2; (try k_lt l1); (try k_lt2 l2))
    k_dflt (refine' code_def ?k1 ?k2 ?k3 ?k4 ?k5 ?kA ?kF ?kK ?k6 ?k7 ?k8 ?k9 ?kB ?_ ?c2 ?c3 ?c4 ?c5; (case kA => exact rfl); (case kF => exact rfl); (case kK => assumption); (case k1 => k_asm); (case k2 => k_asm); (case k3 => k_asm); (case k4 => k_asm); (case k5 => k_asm); (case k6 => k_is); (case k7 => k_is); (case k8 => ktr_room); (case k9 => exact BindsTo.of_eq rfl); (case c5 => decide); (case kB => exact locs rfl); (case c2 => exact rfl); (case c3 => exact rfl); (case c4 => exact rfl); k_whole; intro g' L' h' FG' F' N' B' X' T'; (try dsimp only); (try k_lift B'); (try k_fold))
    k_steps
    all_goals (refine hret _ _ _ _ ?_ (by k_asm) (by k_asm); exact fun R k => k _ _ _ _ _ _ _ _ _ _ _ _ _ _ _ _ _ _ _ _ _ _ (by assumption) (by first | assumption | omega | exact And.left (by assumption)) (by first | assumption | omega | exact And.left (by assumption)))
    : _); ?walk9))
theorem mk_source_use {w : World} {p : Program} {loose : List Str} {mean : ExcName → Option Value} {mg mb : Str → Option Value} {f : Addr} {vs : List Value} {news : Led} {need : Nat} {dp un : Nat} {gd : Option (List Code)} {cn : Str} {cs : Scope} {a : Addr} {ccd : Value} {cl : List (Str × Addr)} {outer : List Env} {A₀ : Around} {base h₀ : Heap} {L : Addr} {m : Str → Option Value} {s : Shared} {Q E : Value → Shared → Prop} {v0 v1 v2 v3 v4 v5 v6 : Value}
    (C : CallTo w p loose mean mg mb f vs news need (fun r news' => ∀ R : Value → Led → Prop, (∀ E D b0 u0 b1 u1 b2 u2 b3 u3 b4 u4 b5 u5 b6 u6 b7 u7 b8 u8 U un, (∀ p ∈ news, p.1 < D) → D < E → E < U → R (.ref E) ((U, listOf #[] un) :: (E, instObj 897 D) :: (D, dictOf [⟨b0, .str (Str.ofString "number") u0, v0⟩, ⟨b1, .str (Str.ofString "alias") u1, v1⟩, ⟨b2, .str (Str.ofString "table") u2, v2⟩, ⟨b3, .str (Str.ofString "columns") u3, v3⟩, ⟨b4, .str (Str.ofString "select") u4, v4⟩, ⟨b5, .str (Str.ofString "kind") u5, v5⟩, ⟨b6, .str (Str.ofString "hint") u6, v6⟩, ⟨b7, .str (Str.ofString "on") u7, .none⟩, ⟨b8, .str (Str.ofString "using") u8, .ref U⟩] 9) :: news)) → R r news')) (B : Below A₀ base outer h₀) (F : Fr h₀ L s.heap m) (X : (Mine.kept.heap_1 w.params).In h₀) (N : News h₀ L s.heap news) (T : Top p loose mean mg mb h₀) (hk : cs.kind = .function) (hd : dp + need < recursionLimit) (hu : un + 8 * need < cLine)
    (ret : ∀ E D b0 u0 b1 u1 b2 u2 b3 u3 b4 u4 b5 u5 b6 u6 b7 u7 b8 u8 U un, (∀ p ∈ news, p.1 < D) → D < E → E < U → ∀ h' tk', Fr h₀ L h' m → News h₀ L h' ((U, listOf #[] un) :: (E, instObj 897 D) :: (D, dictOf [⟨b0, .str (Str.ofString "number") u0, v0⟩, ⟨b1, .str (Str.ofString "alias") u1, v1⟩, ⟨b2, .str (Str.ofString "table") u2, v2⟩, ⟨b3, .str (Str.ofString "columns") u3, v3⟩, ⟨b4, .str (Str.ofString "select") u4, v4⟩, ⟨b5, .str (Str.ofString "kind") u5, v5⟩, ⟨b6, .str (Str.ofString "hint") u6, v6⟩, ⟨b7, .str (Str.ofString "on") u7, .none⟩, ⟨b8, .str (Str.ofString "using") u8, .ref U⟩] 9) :: news) → Q (.ref E) { s with heap := h', toks := tk' }) : wpAny (model PG w) (ktrTop dp un gd cn cs L a ccd cl outer) (call (.ref f) vs) Q E s :=
  C _ _ _ _ _ _ _ _ _ _ _ _ _ _ _ _ _ B F X N T hk hd hu fun r n h' tk' P9 F9 N9 => P9 (fun r n => Fr h₀ L h' m → News h₀ L h' n → Q r { s with heap := h', toks := tk' }) (fun E D b0 u0 b1 u1 b2 u2 b3 u3 b4 u4 b5 u5 b6 u6 b7 u7 b8 u8 U un l1 l2 l3 F9 N9 => ret E D b0 u0 b1 u1 b2 u2 b3 u3 b4 u4 b5 u5 b6 u6 b7 u7 b8 u8 U un l1 l2 l3 h' tk' F9 N9) F9 N9
set_option maxHeartbeats 2000000 in
theorem mk_lit {w : World} {pr : Program} {loose : List Str} {mean : ExcName → Option Value} {mg mb : Str → Option Value} {news : Led} {v0 : Value} :
    CallTo w pr loose mean mg mb 127 [v0] news 3 (fun r news' => ∀ R : Value → Led → Prop, (∀ E D b0 u0, (∀ p ∈ news, p.1 < D) → D < E → R (.ref E) ((E, instObj 127 D) :: (D, dictOf [⟨b0, .str (Str.ofString "value") u0, v0⟩] 1) :: news)) → R r news') := by
  exact ensure_expected_type% "" (by exact ?walk9 : type_of% (let_mvar% ?walk9 := (by
    intro dp un gd cn cs ac ccd cl outer A₀ base h₀ L m s Q E B F X N T hk hdp hun hret
    k_dflt (refine' call_cls ?k1 ?k2 ?k3 ?k4 ?k5 ?k6 ?_; (case k1 => k_asm); (case k2 => k_asm); (case k3 => k_asm); (case k4 => k_is); (case k5 => k_is); (case k6 => k_is); k_whole; intro x' d' h' F' N' l1 l2; have l1c := l1; have l2c := l2; (try k_lt l1); (try k_lt2 l2))
    k_dflt (refine' code_def ?k1 ?k2 ?k3 ?k4 ?k5 ?kA ?kF ?kK ?k6 ?k7 ?k8 ?k9 ?kB ?_ ?c2 ?c3 ?c4 ?c5; (case kA => exact rfl); (case kF => exact rfl); (case kK => assumption); (case k1 => k_asm); (case k2 => k_asm); (case k3 => k_asm); (case k4 => k_asm); (case k5 => k_asm); (case k6 => k_is); (case k7 => k_is); (case k8 => ktr_room); (case k9 => exact BindsTo.of_eq rfl); (case c5 => decide); (case kB => exact locs rfl); (case c2 => exact rfl); (case c3 => exact rfl); (case c4 => exact rfl); k_whole; intro g' L' h' FG' F' N' B' X' T'; (try dsimp only); (try k_lift B'); (try k_fold))
    k_steps
    all_goals (refine hret _ _ _ _ ?_ (by k_asm) (by k_asm); exact fun R k => k _ _ _ _ (by assumption) (by first | assumption | omega | exact And.left (by assumption)))
    : _); ?walk9))
theorem mk_lit_use {w : World} {p : Program} {loose : List Str} {mean : ExcName → Option Value} {mg mb : Str → Option Value} {f : Addr} {vs : List Value} {news : Led} {need : Nat} {dp un : Nat} {gd : Option (List Code)} {cn : Str} {cs : Scope} {a : Addr} {ccd : Value} {cl : List (Str × Addr)} {outer : List Env} {A₀ : Around} {base h₀ : Heap} {L : Addr} {m : Str → Option Value} {s : Shared} {Q E : Value → Shared → Prop} {v0 : Value}
    (C : CallTo w p loose mean mg mb f vs news need (fun r news' => ∀ R : Value → Led → Prop, (∀ E D b0 u0, (∀ p ∈ news, p.1 < D) → D < E → R (.ref E) ((E, instObj 127 D) :: (D, dictOf [⟨b0, .str (Str.ofString "value") u0, v0⟩] 1) :: news)) → R r news')) (B : Below A₀ base outer h₀) (F : Fr h₀ L s.heap m) (X : (Mine.kept.heap_1 w.params).In h₀) (N : News h₀ L s.heap news) (T : Top p loose mean mg mb h₀) (hk : cs.kind = .function) (hd : dp + need < recursionLimit) (hu : un + 8 * need < cLine)
    (ret : ∀ E D b0 u0, (∀ p ∈ news, p.1 < D) → D < E → ∀ h' tk', Fr h₀ L h' m → News h₀ L h' ((E, instObj 127 D) :: (D, dictOf [⟨b0, .str (Str.ofString "value") u0, v0⟩] 1) :: news) → Q (.ref E) { s with heap := h', toks := tk' }) : wpAny (model PG w) (ktrTop dp un gd cn cs L a ccd cl outer) (call (.ref f) vs) Q E s :=
  C _ _ _ _ _ _ _ _ _ _ _ _ _ _ _ _ _ B F X N T hk hd hu fun r n h' tk' P9 F9 N9 => P9 (fun r n => Fr h₀ L h' m → News h₀ L h' n → Q r { s with heap := h', toks := tk' }) (fun E D b0 u0 l1 l2 F9 N9 => ret E D b0 u0 l1 l2 h' tk' F9 N9) F9 N9
set_option maxHeartbeats 2000000 in
theorem mk_col {w : World} {pr : Program} {loose : List Str} {mean : ExcName → Option Value} {mg mb : Str → Option Value} {news : Led} {v0 v1 v2 : Value} :
    CallTo w pr loose mean mg mb 541 [v0, v1, v2] news 3 (fun r news' => ∀ R : Value → Led → Prop, (∀ E D b0 u0 b1 u1 b2 u2, (∀ p ∈ news, p.1 < D) → D < E → R (.ref E) ((E, instObj 541 D) :: (D, dictOf [⟨b0, .str (Str.ofString "value") u0, v0⟩, ⟨b1, .str (Str.ofString "alias") u1, v1⟩, ⟨b2, .str (Str.ofString "star_table") u2, v2⟩] 3) :: news)) → R r news') := by
  exact ensure_expected_type% "" (by exact ?walk9 : type_of% (let_mvar% ?walk9 := (by
    intro dp un gd cn cs ac ccd cl outer A₀ base h₀ L m s Q E B F X N T hk hdp hun hret
    k_dflt (refine' call_cls ?k1 ?k2 ?k3 ?k4 ?k5 ?k6 ?_; (case k1 => k_asm); (case k2 => k_asm); (case k3 => k_asm); (case k4 => k_is); (case k5 => k_is); (case k6 => k_is); k_whole; intro x' d' h' F' N' l1 l2; have l1c := l1; have l2c := l2; (try k_lt l1); (try k_lt2 l2))
    k_dflt (refine' code_def ?k1 ?k2 ?k3 ?k4 ?k5 ?kA ?kF ?kK ?k6 ?k7 ?k8 ?k9 ?kB ?_ ?c2 ?c3 ?c4 ?c5; (case kA => exact rfl); (case kF => exact rfl); (case kK => assumption); (case k1 => k_asm); (case k2 => k_asm); (case k3 => k_asm); (case k4 => k_asm); (case k5 => k_asm); (case k6 => k_is); (case k7 => k_is); (case k8 => ktr_room); (case k9 => exact BindsTo.of_eq rfl); (case c5 => decide); (case kB => exact locs rfl); (case c2 => exact rfl); (case c3 => exact rfl); (case c4 => exact rfl); k_whole; intro g' L' h' FG' F' N' B' X' T'; (try dsimp only); (try k_lift B'); (try k_fold))
    k_steps
    all_goals (refine hret _ _ _ _ ?_ (by k_asm) (by k_asm); exact fun R k => k _ _ _ _ _ _ _ _ (by assumption) (by first | assumption | omega | exact And.left (by assumption)))
    : _); ?walk9))
theorem mk_col_use {w : World} {p : Program} {loose : List Str} {mean : ExcName → Option Value} {mg mb : Str → Option Value} {f : Addr} {vs : List Value} {news : Led} {need : Nat} {dp un : Nat} {gd : Option (List Code)} {cn : Str} {cs : Scope} {a : Addr} {ccd : Value} {cl : List (Str × Addr)} {outer : List Env} {A₀ : Around} {base h₀ : Heap} {L : Addr} {m : Str → Option Value} {s : Shared} {Q E : Value → Shared → Prop} {v0 v1 v2 : Value}
    (C : CallTo w p loose mean mg mb f vs news need (fun r news' => ∀ R : Value → Led → Prop, (∀ E D b0 u0 b1 u1 b2 u2, (∀ p ∈ news, p.1 < D) → D < E → R (.ref E) ((E, instObj 541 D) :: (D, dictOf [⟨b0, .str (Str.ofString "value") u0, v0⟩, ⟨b1, .str (Str.ofString "alias") u1, v1⟩, ⟨b2, .str (Str.ofString "star_table") u2, v2⟩] 3) :: news)) → R r news')) (B : Below A₀ base outer h₀) (F : Fr h₀ L s.heap m) (X : (Mine.kept.heap_1 w.params).In h₀) (N : News h₀ L s.heap news) (T : Top p loose mean mg mb h₀) (hk : cs.kind = .function) (hd : dp + need < recursionLimit) (hu : un + 8 * need < cLine)
    (ret : ∀ E D b0 u0 b1 u1 b2 u2, (∀ p ∈ news, p.1 < D) → D < E → ∀ h' tk', Fr h₀ L h' m → News h₀ L h' ((E, instObj 541 D) :: (D, dictOf [⟨b0, .str (Str.ofString "value") u0, v0⟩, ⟨b1, .str (Str.ofString "alias") u1, v1⟩, ⟨b2, .str (Str.ofString "star_table") u2, v2⟩] 3) :: news) → Q (.ref E) { s with heap := h', toks := tk' }) : wpAny (model PG w) (ktrTop dp un gd cn cs L a ccd cl outer) (call (.ref f) vs) Q E s :=
  C _ _ _ _ _ _ _ _ _ _ _ _ _ _ _ _ _ B F X N T hk hd hu fun r n h' tk' P9 F9 N9 => P9 (fun r n => Fr h₀ L h' m → News h₀ L h' n → Q r { s with heap := h', toks := tk' }) (fun E D b0 u0 b1 u1 b2 u2 l1 l2 F9 N9 => ret E D b0 u0 b1 u1 b2 u2 l1 l2 h' tk' F9 N9) F9 N9
end
section
theorem true_end {fs : List Addr} {g₀ : Heap} {K : Frag} {A₀ : Around} {base : Heap} {outer : List Env} {p : Program} {loose : List Str} {mean : ExcName → Option Value} {mg mb : Str → Option Value} {L src : Addr} {rest all : Led} {m : Str → Option Value} {s : Shared} {Q : Value → Shared → Prop} {o' : Obj} {h' h₁ : Heap} {tk' : Nat}
    (ret : ∀ r news' h' tk' h₁, (fun r news' => ∃ o', r = Value.bool true ∧ SrcOk o' ∧ news' = (src, o') :: rest) r news' → KtsTurn fs g₀ h₁ → Fr h₁ L h' m → News h₁ L h' news' → Below A₀ base outer h₁ → K.In h₁ → Top p loose mean mg mb h₁ → KtsDicts fs h₁ → Q r { s with heap := h', toks := tk' })
    (F : Fr h₁ L h' m) (T : KtsTurn fs g₀ h₁) (N : News h₁ L h' all) (B : Below A₀ base outer h₁) (X : K.In h₁) (P : Top p loose mean mg mb h₁) (D : KtsDicts fs h₁) (ho : SrcOk o') (m1 : (src, o') ∈ all) (sub : ∀ q ∈ rest, q ∈ all) : Q (.bool true) { s with heap := h', toks := tk' } :=
  ret _ _ _ _ _ ⟨o', rfl, ho, rfl⟩ T F (cb_drop N (List.forall_mem_cons.mpr ⟨m1, sub⟩)) B X P D
theorem told_eq {c : Int} {z : Str} {a b : Nat} (h : a = b) : told c z a = ordF c ++ Str.ofString " " ++ z ++ Str.ofString " BY term out of range - should be between 1 and " ++ Str.ofString (toString (b : Int)) := by
  subst h
  rfl
theorem low_end {y x : Str} {t : Tok} (hn : Nm y x) : ∃ t', Value.str (Txt.lower y) t = .str x t' := ⟨t, by rw [show Txt.lower y = x from nm_low _ hn]⟩
theorem strs_any {k : Str} : ∀ {vs : List Value} {ys : List Str}, StrsAre vs ys → ∀ (i : Nat) (hi : i < vs.length) (hj : i < ys.length), isStrOf k vs[i] = (ys[i] == k)
  | _, _, .cons _ _ _, 0, _, _ => rfl
  | _, _, .cons _ _ h, i + 1, hi, hj => by simpa using strs_any h i (by simpa using hi) (by simpa using hj)
theorem index_strs {prog : Program} {w : World} {A : Around} {E : Value → Shared → Prop} {s : Shared} {h₀ : Heap} {L D : Addr} {news : Led} {vs : List Value} {ys : List Str} {k : Str} {n : Nat} {t : Tok} {Q : Value → Shared → Prop} (N : News h₀ L s.heap news) (hS : StrsAre vs ys) (hm : (D, listOf vs.toArray n) ∈ news) (ha : (ys.any fun y => y == k) = true) (h4 : ys.length ≤ 4)
    (h : ∀ t tk', Q (placeV (ys.findIdx? (· == k)) t) { s with toks := tk' }) : wpAny (model prog w) A (call (.builtin "list.index") [.ref D, .str k t]) Q E s := by
  have hl := hS.len_eq
  have hsome : (ys.findIdx? (· == k)).isSome = true := by rw [List.findIdx?_isSome]; exact ha
  obtain ⟨j, hj⟩ := Option.isSome_iff_exists.mp hsome
  obtain ⟨hj1, hj2, hj3⟩ := List.findIdx?_eq_some_iff_getElem.mp hj
  rw [hj] at h
  refine call_meets PySem.F.slot_list_index ⟨_, (N _ hm).1, rfl⟩ PySem.F.entry_list_index (PySem.F.args_list_index_2 _ _)
    (MeetsSeq.list_index D vs.toArray n (.str k t) (isStrOf k) (fun y hy => eq_isStrOf k t hS y (by simpa using hy)) j (by rw [List.size_toArray]; omega) (by omega) (by
      have := strs_any (k := k) hS j (by omega) hj1
      simpa using this.trans hj2) (fun i hi hlt => by
      have hi' : i < vs.length := by simpa using hi
      have := strs_any (k := k) hS i hi' (by omega)
      have h3 := hj3 i hlt
      simp only [List.getElem_toArray]
      rw [this]
      simpa using h3)) ⟨(N _ hm).1, h _ _⟩
def DueEnd (s : Shared) (xs : List Str) (k : Str) (v : Value) (s' : Shared) : Prop := ∃ t tk, v = placeV (xs.findIdx? (· == k)) t ∧ s' = { s with toks := tk }
theorem due_join {M : Model} {A : Around} {E : Value → Shared → Prop} {s : Shared} {vs : List Value} {xs : List Str} {k : Str} {e : PySem.Expr} {env : Env} {Q : Value → Shared → Prop} (hS : StrsAre vs xs) (hk : k ∈ menu5) (h : wpAny M A (eval e env) (DueEnd s xs k) E s) (ret : ∀ t tk, Q (placeV (xs.findIdx? (· == k)) t) { s with toks := tk }) : wpAny M A (eval e env) Q E s :=
  wpAny_mono h (fun _ _ ⟨t, tk, e, e'⟩ => by subst e e'; exact ret t tk) fun _ _ e => e
theorem due_end1 {s : Shared} {xs : List Str} {k : Str} {t : Tok} {tk : Nat} : DueEnd s xs k (placeV (xs.findIdx? (· == k)) t) { s with toks := tk } := ⟨_, _, rfl, rfl⟩
theorem due_end2 {s : Shared} {xs : List Str} {k : Str} (h : (xs.any fun y => y == k) = false) : DueEnd s xs k .none s := ⟨0, s.toks, by
  rw [List.findIdx?_eq_none_iff.mpr fun x hx => by
    rw [Bool.eq_false_iff]
    exact fun hh => Bool.noConfusion (h.symm.trans (List.any_eq_true.mpr ⟨x, hx, hh⟩))]
  rfl, rfl⟩
theorem ne_place {prog : Program} {w : World} {A : Around} {E : Value → Shared → Prop} {s : Shared} {o : Option Nat} {t u : Tok} {Q : Value → Shared → Prop} (h : Q (.bool false) s) : wpAny (model prog w) A (compareOp .NotEq (placeV o t) (placeV o u)) Q E s := by
  cases o with
  | none => exact PySem.EqNone.ne_none_none h
  | some i => exact PyProof.Rows.ne_int (by rw [show ((i : Int) != (i : Int)) = false from by simp]; exact h)
theorem tups {prog : Program} {w : World} {A : Around} {E : Value → Shared → Prop} {s : Shared} {l b : Addr} {a1 a2 b1 b2 : Value} {Q : Value → Shared → Prop} (hl : s.heap.get? l = some { cls := .type "tuple", data := .seq #[a1, a2] }) (hb : s.heap.get? b = some { cls := .type "tuple", data := .seq #[b1, b2] }) (hu : A.units < cLine)
    (h1 : SeqAt.EqAt A.in1 s a1 b1 true) (h2 : SeqAt.EqAt A.in1 s a2 b2 true) : (Q (.bool false) s → wpAny (model prog w) A (compareOp .NotEq (.ref l) (.ref b)) Q E s) ∧ (Q (.bool true) s → wpAny (model prog w) A (compareOp .Eq (.ref l) (.ref b)) Q E s) := by
  have he : ∀ j (h1 : j < (#[a1, a2] : Array Value).size) (h2 : j < (#[b1, b2] : Array Value).size), SeqAt.EqAt A.in1 s #[a1, a2][j] #[b1, b2][j] ((fun _ => true) j) := by
    intro j hj hj'
    match j, hj with
    | 0, _ => exact h1
    | 1, _ => exact h2
  exact ⟨fun h => SeqAt.RcNeAt.tuples ⟨_, hl, rfl, _, rfl⟩ ⟨_, hb, rfl, _, rfl⟩ hu he prog w E Q h, fun h => SeqAt.eq_tupleAt ⟨_, hl, rfl, _, rfl⟩ ⟨_, hb, rfl, _, rfl⟩ hu he h⟩
section
variable {prog : Program} {w : World} {A : Around} {E : Value → Shared → Prop} {s : Shared} {h₀ : Heap} {L l b : Addr} {news : Led} {Q : Value → Shared → Prop}
theorem ne_tint {x y : Int} {t u : Tok} (N : News h₀ L s.heap news) (hl : (l, ({ cls := .type "tuple", data := .seq #[.int x t, .none] } : Obj)) ∈ news) (hb : (b, ({ cls := .type "tuple", data := .seq #[.int y u, .none] } : Obj)) ∈ news) (e : x = y) (hu : A.units < cLine) (h : Q (.bool false) s) :
    wpAny (model prog w) A (compareOp .NotEq (.ref l) (.ref b)) Q E s :=
  (tups (N _ hl).1 (N _ hb).1 hu (by subst e; have := (MeetsSeq.EqGives.int x x t u).at A.in1 s; rwa [beq_self_eq_true] at this) (SeqAt.EqAt.same _)).1 h
theorem ne_tstr {x y : Str} {t u : Tok} (N : News h₀ L s.heap news) (hl : (l, ({ cls := .type "tuple", data := .seq #[.none, .str x t] } : Obj)) ∈ news) (hb : (b, ({ cls := .type "tuple", data := .seq #[.none, .str y u] } : Obj)) ∈ news) (e : x = y) (hu : A.units < cLine) (h : Q (.bool false) s) :
    wpAny (model prog w) A (compareOp .NotEq (.ref l) (.ref b)) Q E s :=
  (tups (N _ hl).1 (N _ hb).1 hu (SeqAt.EqAt.same _) (by subst e; have := (eqGives_str x x t u).at A.in1 s; rwa [beq_self_eq_true] at this)).1 h
theorem eq_tnone (N : News h₀ L s.heap news) (hl : (l, ({ cls := .type "tuple", data := .seq #[.none, .none] } : Obj)) ∈ news) (hb : (b, ({ cls := .type "tuple", data := .seq #[.none, .none] } : Obj)) ∈ news) (hu : A.units < cLine) (h : Q (.bool true) s) :
    wpAny (model prog w) A (compareOp .Eq (.ref l) (.ref b)) Q E s :=
  (tups (N _ hl).1 (N _ hb).1 hu (SeqAt.EqAt.same _) (SeqAt.EqAt.same _)).2 h
end
theorem ne_add {src d k : Addr} {o : Obj} {l : List (Addr × Obj)} (h : ∀ p ∈ l, p.1 < d) (m : (src, o) ∈ l) : d + k ≠ src := Nat.ne_of_gt (Nat.lt_of_lt_of_le (h _ m) (Nat.le_add_right _ _))
open PyProof.Rows.LCg
local macro_rules | `(tactic| k_lt $h:ident) => `(tactic| skip)
local macro_rules | `(tactic| k_lt2 $h:ident) => `(tactic| skip)
theorem rows22 : True := by
  w_top off
  (k_with "call ref" => ((k_here; (with_reducible show wpAny _ _ (call (Value.ref 153) _) _ _ _); k_dflt (first | (refine' mk_name_use (mk_name) ?k1 ?k2 ?k3 ?k4 ?k5 ?kK ?kd ?ku ?_; (case k2 => k_asm); (case k1 => k_asm); (case k3 => k_asm); (case k4 => k_asm); (case k5 => k_asm); (case kK => first | exact rfl | assumption); (case kd => ktr_room); (case ku => ktr_units);  k_whole)); (intro E' D' _ _ _ _ _ _ _ _ _ _ _ l1' l2' h' tk' F' N'; (try k_lt l1'); (try k_lt2 l2')); (try k_sweep); (try k_fold); (try dsimp only); walk_say "MK_NAME")))
  (k_with "call ref" => ((k_here; (with_reducible show wpAny _ _ (call (Value.ref 127) _) _ _ _); k_dflt (first | (refine' mk_lit_use (mk_lit) ?k1 ?k2 ?k3 ?k4 ?k5 ?kK ?kd ?ku ?_; (case k2 => k_asm); (case k1 => k_asm); (case k3 => k_asm); (case k4 => k_asm); (case k5 => k_asm); (case kK => first | exact rfl | assumption); (case kd => ktr_room); (case ku => ktr_units);  k_whole)); (intro E' D' _ _ l1' l2' h' tk' F' N'; (try k_lt l1'); (try k_lt2 l2')); (try k_sweep); (try k_fold); (try dsimp only); walk_say "MK_LIT")))
  (k_with "k_all" => (((repeat' (first | with_reducible assumption | exact l9_ne (by with_reducible assumption) | with_reducible refine ne_cons ?_ ?_ | exact ne_add (by with_reducible assumption) (by k_mem) | exact ne_l1 (by with_reducible assumption) (by k_mem) | exact ne_l2 (by with_reducible assumption) (by with_reducible assumption) (by k_mem) | k_ne)); done)))
  (k_with "exec Assign cons ListComp" => ((k_here; k_dflt (refine Assign_ListComp_U (F₀ := by k_asm) (by rfl) (by with_unfolding_all rfl) (by with_unfolding_all rfl) (by decide) (by rfl) (by decide) (by rfl) (by rfl) (by rfl) ?_); walk_say "NAMES")))
  (k_with "CompSrc" => ((k_here; k_dflt (refine' names_src ?hh ?F ?N ?hp ?hr ?h0 ?h5 ?ho ?_ ?_; (case hh => rfl); (case F => k_asm); (case N => k_asm); (case hp => k_mem); (case hr => assumption); (case h0 => assumption); (case h5 => assumption); (case ho => assumption)); intro g' ys' xs' o' hn' hl' hso'; have hyn' := NamesAre.length hn'; rotate_left; intro g' i' ys' xs' o' v' I' oI' C' oC' D' m' h' tk' E' hn' hl' hso' hC' hx' F' N' off' ne'; (have off2' := off'); (simp only [LCg.Off3] at off2'); rotate_right; walk_say "DRAWN")))
  (k_with "CompSrc" => ((k_here; (with_reducible show CompSrc _ _ _ _ _ _ _ (Expr.Call (Expr.Attribute _ _ _) _ _ _) _ _ _ _ _ _); k_dflt (refine' small_src ?hh ?F ?N ?hm ?hn ?h4 ?_ ?_; (case hh => rfl); (case F => k_asm); (case N => k_asm); (case hn => assumption); (case hm => k_mem); (case h4 => assumption)); intro g' ys' hS'; rotate_left; intro g' y' x' t' ys' I' oI' C' oC' D' m' h' tk' E' hnm' hyl' hC' hx' F' N' off' ne'; rotate_right; walk_say "SMALL")))
  (k_with "CompSrc" => ((k_here; (with_reducible show CompSrc _ _ _ _ _ _ _ (Expr.Tuple _ _ _) _ _ _ _ _ _); k_dflt (refine' out_src ?hh ?F ?N ?hm ?hn ?h4 ?_ ?_; (case hh => rfl); (case F => k_asm); (case N => k_asm); (case hn => assumption); (case hm => k_mem); (case h4 => assumption)); intro g' ys' hyl'; rotate_left; intro g' y' t' ys' I' oI' C' oC' D' m' h' tk' E' hC' hx' F' N' off' ne'; rotate_right; walk_say "OUTPUTS")))
  (k_with "ElEnd" => ((k_here; k_dflt (refine' elEnd ?F ?N ?sub ?k; (case F => k_asm); (case N => k_asm); (case sub => exact List.forall_mem_cons.mpr ⟨by k_mem, List.forall_mem_cons.mpr ⟨by k_mem, List.forall_mem_cons.mpr ⟨by k_mem, fun q hq => by k_mem⟩⟩⟩); (case k => first | exact trivial | exact low_end (by assumption))); walk_say "EL END")))
  (k_with "eval IfExp" => ((k_here; (fail_if_success (with_reducible show wpAny _ _ _ (DueEnd _ _ _) _ _)); k_dflt (refine due_join (by assumption) (by assumption) ?_ ?_); rotate_left; intro t' tk'; rotate_right; walk_say "DUE")))
  (k_with "DueEnd" => (first | exact due_end1 | exact due_end2 (by assumption)))
  (k_with "call builtin:list.index" => ((k_here; (with_reducible show wpAny _ _ (call (Value.builtin _) [Value.ref _, Value.str _ _]) _ _ _); k_dflt (refine' index_strs ?N ?hS ?hm ?ha ?h4 ?_; (case N => k_asm); (case hS => assumption); (case hm => k_mem); (case ha => assumption); (case h4 => assumption)); intro t' tk'; walk_say "INDEX")))
  (k_with "compareOp NotEq" => (((with_reducible show wpAny _ _ (compareOp CmpOp.NotEq (placeV _ _) (placeV _ _)) _ _ _); refine ne_place ?_; walk_say "NE PLACE")))
  (k_with "compareOp NotEq ref ref" => ((k_here; k_dflt (first | (refine' ne_tint ?N ?hl ?hb ?e ?hu ?_; (case N => k_asm); (case hl => k_mem); (case hb => k_mem); (case e => rfl); (case hu => ktr_units); k_whole) | (refine' ne_tstr ?N ?hl ?hb ?e ?hu ?_; (case N => k_asm); (case hl => k_mem); (case hb => k_mem); (case e => exact told_eq (by assumption)); (case hu => ktr_units); k_whole)); walk_say "TUPLES")))
  (k_with "compareOp Eq ref ref" => ((k_here; k_dflt (refine' eq_tnone ?N ?hl ?hb ?hu ?_; (case N => k_asm); (case hl => k_mem); (case hb => k_mem); (case hu => ktr_units); k_whole); walk_say "TUPLES")))
  (k_with "CompEnd" => ((k_here; k_dflt (refine' names_end ?F ?N ?sub ?off ?hn ?hl ?hy ?ho; (case F => k_asm); (case N => k_asm); (case off => assumption); (case hn => assumption); (case hl => assumption); (case hy => assumption); (case ho => assumption); (case sub => exact List.forall_mem_cons.mpr ⟨by k_mem, List.forall_mem_cons.mpr ⟨by k_mem, List.forall_mem_cons.mpr ⟨by k_mem, List.forall_mem_cons.mpr ⟨by k_mem, fun q hq => by k_mem⟩⟩⟩⟩)); walk_say "DRAWN END")))
  trivial
set_option maxHeartbeats 8000000 in
theorem places_call {w : World} {p : Program} {loose : List Str} {mean : ExcName → Option Value} {mg mb : Str → Option Value} {src : Addr} {o : Obj} {rest : Led}
    (ho : SrcOk o) (hr : ∀ q ∈ rest, q.1 ≠ src) :
    CallToS w p loose mean mg mb 998 [.ref src] ((src, o) :: rest) 6 (fun r news' => ∃ o', r = .bool true ∧ SrcOk o' ∧ news' = (src, o') :: rest) := by
  exact ensure_expected_type% "" (by exact ?walk9 : type_of% (let_mvar% ?walk9 := (by
    intro dp un gd cn cs ac ccd cl outer A₀ base h₀ g₀ L m s Q E B F X N T XB TB D T0 hk hdp hun hret
    refine wpAny_call ?_
    k_dflt ((refine' code_defSC ?k1 ?k2 ?k3 ?k4 ?k5 ?XB ?TB ?D ?T0 ?kA ?kF ?kK ?k6 ?k7 ?k8 ?k9 ?kB ?kD ?_ ?c2 ?c3 ?c4; (case kA => exact rfl); (case kF => exact rfl); (case kK => first | exact rfl | assumption); (case k2 => k_asm); (case k1 => k_asm); (case XB => assumption); (case TB => assumption); (case D => assumption); (case T0 => first | assumption | exact KtsTurn.refl); (case k3 => k_asm); (case k4 => k_asm); (case k5 => k_asm); (case k6 => k_is); (case k7 => k_is); (case k8 => ktr_room); (case k9 => exact BindsTo.of_eq rfl); (case kB => exact rfl); (case kD => decide +kernel); (case c2 => exact rfl); (case c3 => exact rfl); (case c4 => exact rfl); k_whole; intro g' L' h' tk' cells' FG' F' N' Y' B' X' T' D' l1; (try k_lt l1); k_cells Y'; (try simp only [List.cons_append, List.nil_append] at N'); (try dsimp only); (try k_lift B'); (try k_fold)))
    k_steps
    all_goals (refine' true_end hret ?F ?T ?N ?B ?X ?P ?D ?ho ?m1 ?sub; (case F => assumption); (case T => assumption); (case N => assumption); (case B => assumption); (case X => assumption); (case P => assumption); (case D => assumption); (case m1 => (repeat (first | exact List.Mem.head _ | refine List.Mem.tail _ ?_))); (case ho => assumption); (case sub => (intro q hq; (repeat (first | exact hq | refine List.Mem.tail _ ?_)))))
    : _); ?walk9))
end
theorem rows23 : True := by
  w_top off
  k_with_none
  (k_with "execs cons" => ((k_here; (with_reducible refine gen_toks (P := fun k => wpAny _ _ _ _ _ ⟨_, _, _, k, _⟩) (_ + _) ?_); intro tk9'; walk_say "TOKS")))
  (k_with "eval Name" => ((k_here; name_kind "globalImplicit"; k_dflt (refine' nameX_K ?F ?X ?T ?e ?_ ?a ?b; (case F => k_asm); (case X => k_asm); (case T => k_asm); (case a => kernel_rfl!); (case b => kernel_rfl!); (case e => k_is); k_whole))))
  (k_with "eval Name" => ((k_here; name_kind "local"; k_dflt (refine' nameX_L ?F ?v ?_ ?a ?b; (case F => k_asm); (case a => kernel_rfl!); (case b => kernel_rfl!); (case v => rfl); k_whole))))
  (k_with "execs nil" => ((k_here; (with_reducible refine gen_toks (P := fun k => wpAny _ _ _ _ _ ⟨_, _, _, k, _⟩) (_ + _) ?_); intro tk9'; walk_say "TOKS")))
  (k_with "eval Name" => ((k_here; name_kind "globalImplicit"; name_is_builtin; k_dflt (refine' nameX_B ?F ?X ?T ?e ?v ?n ?_ ?a ?b; (case F => k_asm); (case X => k_asm); (case T => k_asm); (case a => kernel_rfl!); (case b => kernel_rfl!); (case e => k_is); (case v => boot_fast); (case n => decide); k_whole))))
  (k_with "ite" => ((k_closed; first | with_reducible refine ite_ff ?_ | with_reducible refine ite_tt ?_ | k_dflt (first | refine ite_t rfl ?_ | refine ite_f rfl ?_))))
  (k_with "call builtin:isinstance" => ((k_here; k_dflt (refine' isi_call ?k1 ?k2 ?k3 ?k4 ?_; (case k1 => k_in); (case k2 => k_types); (case k3 => k_is); (case k4 => intro e; cases e); k_whole))))
  (k_with "ktr_room" => (k_dflt (first | exact room2 (by with_reducible assumption) (by decide) | exact room1 (by with_reducible assumption) rfl | exact room0 (by with_reducible assumption))))
  (k_with "ktr_units" => (k_dflt (first | exact units2 (by with_reducible assumption) (by decide) | exact units1 (by with_reducible assumption) rfl | exact units0 (by with_reducible assumption) rfl | exact room0 (by with_reducible assumption))))
  (k_with "k_in" => (first | with_reducible assumption | exact Frag.In.keeps (by with_reducible assumption) (Fr.keep (by with_reducible assumption))))
  (k_with "call builtin:isinstance" => ((k_here; (with_reducible show wpAny _ _ (call _ [Value.ref _, Value.ref _]) _ _ _); k_dflt (refine' kin_callC ?k1 ?k2 ?k3 ?k4 ?k5 ?k6 ?k7 ?k8 ?k9 ?_; (case k1 => k_in); (case k2 => k_inst); (case k3 => kin_no); (case k4 => k_is); (case k5 => k_is); (case k6 => k_is); (case k7 => k_is); (case k8 => k_is); (case k9 => k_is); k_whole))))
  (k_with "getAttr ref" => ((k_here; k_dflt (refine' get_own ?k1 ?k2 ?k3 ?k4 ?k5 ?k6 ?k7 ?k8 ?k9 ?_; (case k1 => k_asm); (case k2 => k_asm); (case k3 => k_inst); (case k4 => k_is); (case k5 => k_is); (case k6 => k_is); (case k7 => k_is); (case k8 => k_get); (case k9 => k_handed); k_whole))))
  (k_with "k_room" => (ktr_room))
  (k_with "k_units" => (ktr_units))
  (k_with "k_all" => (assumption))
  (k_with "k_mem" => (first | assumption | ((with_reducible show Pick _ _ _); first | exact Pick.head | exact Pick.tail (Pick.head) | exact Pick.tail (Pick.tail (Pick.head)) | exact Pick.tail (Pick.tail (Pick.tail (Pick.head))) | exact Pick.tail (Pick.tail (Pick.tail (Pick.tail (Pick.head)))) | exact Pick.tail (Pick.tail (Pick.tail (Pick.tail (Pick.tail (Pick.head))))) | exact Pick.tail (Pick.tail (Pick.tail (Pick.tail (Pick.tail (Pick.tail (Pick.head)))))) | exact Pick.tail (Pick.tail (Pick.tail (Pick.tail (Pick.tail (Pick.tail (Pick.tail (Pick.head))))))) | exact Pick.t8 (Pick.head) | exact Pick.t8 (Pick.tail (Pick.head)) | exact Pick.t8 (Pick.tail (Pick.tail (Pick.head))) | exact Pick.t8 (Pick.tail (Pick.tail (Pick.tail (Pick.head)))) | exact Pick.t8 (Pick.tail (Pick.tail (Pick.tail (Pick.tail (Pick.head))))) | exact Pick.t8 (Pick.tail (Pick.tail (Pick.tail (Pick.tail (Pick.tail (Pick.head)))))) | exact Pick.t8 (Pick.tail (Pick.tail (Pick.tail (Pick.tail (Pick.tail (Pick.tail (Pick.head))))))) | exact Pick.t8 (Pick.tail (Pick.tail (Pick.tail (Pick.tail (Pick.tail (Pick.tail (Pick.tail (Pick.head)))))))) | exact Pick.t8 (Pick.t8 (Pick.head)) | exact Pick.t8 (Pick.t8 (Pick.tail (Pick.head))) | exact Pick.t8 (Pick.t8 (Pick.tail (Pick.tail (Pick.head)))) | exact Pick.t8 (Pick.t8 (Pick.tail (Pick.tail (Pick.tail (Pick.head))))) | exact Pick.t8 (Pick.t8 (Pick.tail (Pick.tail (Pick.tail (Pick.tail (Pick.head)))))) | exact Pick.t8 (Pick.t8 (Pick.tail (Pick.tail (Pick.tail (Pick.tail (Pick.tail (Pick.head))))))) | exact Pick.t8 (Pick.t8 (Pick.tail (Pick.tail (Pick.tail (Pick.tail (Pick.tail (Pick.tail (Pick.head)))))))) | exact Pick.t8 (Pick.t8 (Pick.tail (Pick.tail (Pick.tail (Pick.tail (Pick.tail (Pick.tail (Pick.tail (Pick.head))))))))) | exact Pick.t8 (Pick.t8 (Pick.t8 (Pick.head))) | exact Pick.t8 (Pick.t8 (Pick.t8 (Pick.tail (Pick.head)))) | exact Pick.t8 (Pick.t8 (Pick.t8 (Pick.tail (Pick.tail (Pick.head))))) | exact Pick.t8 (Pick.t8 (Pick.t8 (Pick.tail (Pick.tail (Pick.tail (Pick.head)))))) | exact Pick.t8 (Pick.t8 (Pick.t8 (Pick.tail (Pick.tail (Pick.tail (Pick.tail (Pick.head))))))) | exact Pick.t8 (Pick.t8 (Pick.t8 (Pick.tail (Pick.tail (Pick.tail (Pick.tail (Pick.tail (Pick.head)))))))) | exact Pick.t8 (Pick.t8 (Pick.t8 (Pick.tail (Pick.tail (Pick.tail (Pick.tail (Pick.tail (Pick.tail (Pick.head))))))))) | exact Pick.t8 (Pick.t8 (Pick.t8 (Pick.tail (Pick.tail (Pick.tail (Pick.tail (Pick.tail (Pick.tail (Pick.tail (Pick.head)))))))))) | exact Pick.t8 (Pick.t8 (Pick.t8 (Pick.t8 (Pick.head)))) | exact Pick.t8 (Pick.t8 (Pick.t8 (Pick.t8 (Pick.tail (Pick.head))))) | exact Pick.t8 (Pick.t8 (Pick.t8 (Pick.t8 (Pick.tail (Pick.tail (Pick.head)))))) | exact Pick.t8 (Pick.t8 (Pick.t8 (Pick.t8 (Pick.tail (Pick.tail (Pick.tail (Pick.head))))))) | exact Pick.t8 (Pick.t8 (Pick.t8 (Pick.t8 (Pick.tail (Pick.tail (Pick.tail (Pick.tail (Pick.head)))))))) | exact Pick.t8 (Pick.t8 (Pick.t8 (Pick.t8 (Pick.tail (Pick.tail (Pick.tail (Pick.tail (Pick.tail (Pick.head))))))))) | exact Pick.t8 (Pick.t8 (Pick.t8 (Pick.t8 (Pick.tail (Pick.tail (Pick.tail (Pick.tail (Pick.tail (Pick.tail (Pick.head)))))))))) | exact Pick.t8 (Pick.t8 (Pick.t8 (Pick.t8 (Pick.tail (Pick.tail (Pick.tail (Pick.tail (Pick.tail (Pick.tail (Pick.tail (Pick.head))))))))))) | exact Pick.t8 (Pick.t8 (Pick.t8 (Pick.t8 (Pick.t8 (Pick.head))))) | exact Pick.t8 (Pick.t8 (Pick.t8 (Pick.t8 (Pick.t8 (Pick.tail (Pick.head)))))) | exact Pick.t8 (Pick.t8 (Pick.t8 (Pick.t8 (Pick.t8 (Pick.tail (Pick.tail (Pick.head))))))) | exact Pick.t8 (Pick.t8 (Pick.t8 (Pick.t8 (Pick.t8 (Pick.tail (Pick.tail (Pick.tail (Pick.head)))))))) | exact Pick.t8 (Pick.t8 (Pick.t8 (Pick.t8 (Pick.t8 (Pick.tail (Pick.tail (Pick.tail (Pick.tail (Pick.head))))))))) | exact Pick.t8 (Pick.t8 (Pick.t8 (Pick.t8 (Pick.t8 (Pick.tail (Pick.tail (Pick.tail (Pick.tail (Pick.tail (Pick.head)))))))))) | exact Pick.t8 (Pick.t8 (Pick.t8 (Pick.t8 (Pick.t8 (Pick.tail (Pick.tail (Pick.tail (Pick.tail (Pick.tail (Pick.tail (Pick.head))))))))))) | exact Pick.t8 (Pick.t8 (Pick.t8 (Pick.t8 (Pick.t8 (Pick.tail (Pick.tail (Pick.tail (Pick.tail (Pick.tail (Pick.tail (Pick.tail (Pick.head)))))))))))) | exact Pick.t8 (Pick.t8 (Pick.t8 (Pick.t8 (Pick.t8 (Pick.t8 (Pick.head)))))) | exact Pick.t8 (Pick.t8 (Pick.t8 (Pick.t8 (Pick.t8 (Pick.t8 (Pick.tail (Pick.head))))))) | exact Pick.t8 (Pick.t8 (Pick.t8 (Pick.t8 (Pick.t8 (Pick.t8 (Pick.tail (Pick.tail (Pick.head)))))))) | exact Pick.t8 (Pick.t8 (Pick.t8 (Pick.t8 (Pick.t8 (Pick.t8 (Pick.tail (Pick.tail (Pick.tail (Pick.head))))))))) | exact Pick.t8 (Pick.t8 (Pick.t8 (Pick.t8 (Pick.t8 (Pick.t8 (Pick.tail (Pick.tail (Pick.tail (Pick.tail (Pick.head)))))))))) | exact Pick.t8 (Pick.t8 (Pick.t8 (Pick.t8 (Pick.t8 (Pick.t8 (Pick.tail (Pick.tail (Pick.tail (Pick.tail (Pick.tail (Pick.head))))))))))) | exact Pick.t8 (Pick.t8 (Pick.t8 (Pick.t8 (Pick.t8 (Pick.t8 (Pick.tail (Pick.tail (Pick.tail (Pick.tail (Pick.tail (Pick.tail (Pick.head)))))))))))) | exact Pick.t8 (Pick.t8 (Pick.t8 (Pick.t8 (Pick.t8 (Pick.t8 (Pick.tail (Pick.tail (Pick.tail (Pick.tail (Pick.tail (Pick.tail (Pick.tail (Pick.head)))))))))))))) | exact List.Mem.tail _ (by assumption)))
  (k_with "call ref" => ((k_here; (with_reducible show wpAny _ _ (call (Value.ref 965) _) _ _ _); k_dflt (refine' take_use ?k1 ?k2 ?k3 ?k4 ?k5 ?kK ?kp ?ko ?kr ?h2 ?ht ?kd ?ku ?_; (case k2 => k_asm); (case k1 => k_asm); (case k3 => k_asm); (case k4 => k_asm); (case k5 => k_asm); (case kK => first | exact rfl | assumption); (case kp => k_mem); (case ko => assumption); (case kr => k_all); (case h2 => omega); (case ht => omega); (case kd => ktr_room); (case ku => ktr_units); k_whole); intro d' t' o' h' tk' hd0' hd1' hso' F' N'; (try k_sweep); (try k_fold); (try dsimp only); walk_say "TAKE")))
  (k_with "call ref" => ((k_here; (with_reducible show wpAny _ _ (call (Value.ref 58) _) _ _ _); k_dflt (refine' fold_use ?k1 ?k2 ?k3 ?k4 ?k5 ?kK ?kn ?kd ?ku ?_; (case k2 => k_asm); (case k1 => k_asm); (case k3 => k_asm); (case k4 => k_asm); (case k5 => k_asm); (case kK => first | exact rfl | assumption); (case kn => assumption); (case kd => ktr_room); (case ku => ktr_units); k_whole); intro t' h' tk' F' N'; (try k_sweep); (try k_fold); (try dsimp only); walk_say "FOLD")))
  (k_with "call ref" => ((k_here; (with_reducible show wpAny _ _ (call (Value.ref 986) _) _ _ _); k_dflt (refine' lordinal_use ?k1 ?k2 ?k3 ?k4 ?k5 ?kK ?h0 ?h1 ?kd ?ku ?_; (case k2 => k_asm); (case k1 => k_asm); (case k3 => k_asm); (case k4 => k_asm); (case k5 => k_asm); (case kK => first | exact rfl | assumption); (case h0 => omega); (case h1 => omega); (case kd => ktr_room); (case ku => ktr_units); k_whole); intro t' h' tk' hol' F' N'; (try k_sweep); (try k_fold); (try dsimp only); walk_say "LORDINAL")))
  (k_with "call ref" => ((k_here; (with_reducible show wpAny _ _ (call (Value.ref 852) _) _ _ _); k_dflt (refine' ordinal_use ?k1 ?k2 ?k3 ?k4 ?k5 ?kK ?h0 ?h1 ?kd ?ku ?_; (case k2 => k_asm); (case k1 => k_asm); (case k3 => k_asm); (case k4 => k_asm); (case k5 => k_asm); (case kK => first | exact rfl | assumption); (case h0 => omega); (case h1 => omega); (case kd => ktr_room); (case ku => ktr_units); k_whole); intro t' h' tk' hol' F' N'; (try k_sweep); (try k_fold); (try dsimp only); walk_say "ORDINAL")))
  (k_with "call builtin:len" => ((k_here; (with_reducible show wpAny _ _ (call (Value.builtin "len") [Value.ref _]) _ _ _); k_dflt (refine' len_short ?N ?m ?f ?_; (case N => k_asm); (case m => k_mem); (case f => omega); k_whole))))
  (k_with "call ref" => ((k_here; (with_reducible show wpAny _ _ (call (Value.ref 866) _) _ _ _); k_dflt (refine' alias_use ?k1 ?k2 ?k3 ?k4 ?k5 ?kK ?ke ?kD ?kv ?kl ?kn ?k9 ?kd ?ku ?_; (case k2 => k_asm); (case k1 => k_asm); (case k3 => k_asm); (case k4 => k_asm); (case k5 => k_asm); (case kK => first | exact rfl | assumption); (case ke => k_mem); (case kD => k_mem); (case kv => assumption); (case kl => k_mem); (case kn => assumption); (case k9 => assumption); (case kd => ktr_room); (case ku => ktr_units); k_whole); intro t' h' tk' F' N'; (try k_sweep); (try k_fold); (try dsimp only); walk_say "ALIAS")))
  (k_with "call ref" => ((k_here; (with_reducible show wpAny _ _ (call (Value.ref 51) _) _ _ _); k_dflt (refine' exc_make ?F ?X ?N ?hC ?b1 ?b2 ?b3 ?hv ?hi ?hf ?_; (case F => k_asm); (case X => k_asm); (case N => k_asm); (case hC => k_is); (case b1 => decide +kernel); (case b2 => decide +kernel); (case b3 => decide +kernel); (case hv => exact Nat.le_of_ble_eq_true rfl); (case hi => k_is); (case hf => k_is); k_whole); intro e' T' h' F' N' l1 l2 l3; (try k_lt l1); (try k_lt2 l2); (try k_sweep); k_enter; walk_say "EXC MADE")))
  (k_with "setAttr ref" => ((k_here; k_dflt (refine' exc_set ?F ?X ?N ?hx ?hc ?hm ?hd ?hs ?ht ?_; (case F => k_asm); (case X => k_asm); (case N => k_asm); (case hx => k_all); (case hc => k_is); (case hm => exact rfl); (case hd => exact rfl); (case hs => k_is); (case ht => k_is); k_whole); intro d' h' tk' a' b' F' N' l1 l2 l3; (try k_lt l1); (try k_sweep); (try dsimp only); walk_say "EXC SET")))
  (k_with "getAttr ref" => ((k_here; k_dflt (refine' exc_get ?F ?X ?N ?hx ?hdx ?hc ?hm ?hd ?hg ?hk ?ha ?hl ?hv ?_; (case F => k_asm); (case X => k_asm); (case N => k_asm); (case hx => k_mem); (case hdx => k_mem); (case hc => k_is); (case hm => exact rfl); (case hd => exact rfl); (case hg => k_is); (case hk => k_is); (case ha => k_is); (case hl => exact rfl); (case hv => exact rfl); k_whole); intro tk'; walk_say "EXC GET")))
  (k_with "exec Raise some none" => ((k_here; (with_reducible show wpAny _ _ (exec (Stmt.Raise (some (Expr.Call (Expr.Name ("SqlError" : Str) _) _ _ _)) none _) _) _ _ _); refine Raise_own rfl ?_; walk_say "RAISE")))
  (k_with "RaisableD" => ((k_dflt (refine' raisableD ?F ?X ?N ?hm ?q ?_; (case F => k_asm); (case X => k_asm); (case N => k_asm); (case hm => k_mem); (case q => kts_isx); k_whole); walk_say "RAISABLE")))
  (k_with "leaving ref" => ((k_here; k_dflt (refine' leave_raiseD ?K ?F ?N ?ne ?_; (case K => k_asm); (case F => k_asm); (case N => k_asm); (case ne => k_all); k_whole); intro h' R' U'; (try dsimp only at R' U' ⊢); walk_say "LEAVING")))
  (k_with "noteFrame ref" => ((k_here; (with_reducible rename RaisedD _ _ _ _ _ _ _ _ => rsX); k_dflt (refine' caught_D ?R ?F ?K ?U ?XB ?TB ?D ?T0 ?ex ?q ?_; (case R => assumption); (case F => assumption); (case K => assumption); (case U => assumption); (case XB => assumption); (case TB => assumption); (case D => assumption); (case T0 => first | assumption | exact KtsTurn.refl); (case ex => k_is); (case q => kts_isx); k_whole); intro h' g' vs' sl' tk' T' F' N' K' X' P' D'; (try k_lift K'); (try k_sweep); (try dsimp only); walk_say "CAUGHT")))
  (k_with "call ref" => ((k_here; (with_reducible show wpAny _ _ (call (Value.ref 993) [Value.ref _, Value.ref _, Value.int _ _, Value.str _ _]) _ _ _); k_dflt (first   | (refine' refusal_in ?k2 ?k1 ?k3 ?k4 ?k5 ?XB ?TB ?D ?T0 ?kK ?he ?hd ?hl ?h4 ?hc ?hc' ?hz ?h1 ?h2 ?kd ?ku ?_; (case k2 => k_asm); (case k1 => k_asm); (case k3 => k_asm); (case k4 => k_asm); (case k5 => k_asm); (case XB => assumption); (case TB => assumption); (case D => assumption); (case T0 => first | assumption | exact KtsTurn.refl); (case kK => first | exact rfl | assumption); (case he => k_mem); (case hd => k_mem); (case hl => k_mem); (case h4 => omega); (case hc => omega); (case hc' => omega); (case hz => assumption); (case h1 => omega); (case h2 => omega); (case kd => ktr_room); (case ku => ktr_units); k_whole)   | (refine' refusal_out ?k2 ?k1 ?k3 ?k4 ?k5 ?XB ?TB ?D ?T0 ?kK ?he ?hd ?hl ?h4 ?hc ?hc' ?hz ?h1 ?kd ?ku ?_; (case k2 => k_asm); (case k1 => k_asm); (case k3 => k_asm); (case k4 => k_asm); (case k5 => k_asm); (case XB => assumption); (case TB => assumption); (case D => assumption); (case T0 => first | assumption | exact KtsTurn.refl); (case kK => first | exact rfl | assumption); (case he => k_mem); (case hd => k_mem); (case hl => k_mem); (case h4 => omega); (case hc => omega); (case hc' => omega); (case hz => assumption); (case h1 => omega); (case kd => ktr_room); (case ku => ktr_units); k_whole)); intro D' t' h' tk' h₁' T' F' N' B' X' P' D''; (try k_lift B'); (try k_sweep); (try dsimp only); walk_say "REFUSAL")))
  (k_with "call ref" => ((k_here; (with_reducible show wpAny _ _ (call (Value.ref 993) [Value.ref _, Value.ref _, Value.int _ _, Value.str _ _]) _ _ _); k_dflt (refine' refusal_none ?k2 ?k1 ?k3 ?k4 ?k5 ?XB ?TB ?D ?T0 ?kK ?he ?hd ?hl ?kd ?ku ?_; (case k2 => k_asm); (case k1 => k_asm); (case k3 => k_asm); (case k4 => k_asm); (case k5 => k_asm); (case XB => assumption); (case TB => assumption); (case D => assumption); (case T0 => first | assumption | exact KtsTurn.refl); (case kK => first | exact rfl | assumption); (case he => k_mem); (case hd => k_mem); (case hl => k_mem); (case kd => ktr_room); (case ku => ktr_units); k_whole); intro D' h' tk' h₁' T' F' N' B' X' P' D''; (try k_lift B'); (try k_sweep); (try dsimp only); walk_say "REFUSAL0")))
  (k_with "call ref" => ((k_here; (with_reducible show wpAny _ _ (call (Value.ref 979) _) _ _ _); k_dflt (refine' letters_use ?k2 ?k1 ?k3 ?k4 ?k5 ?kK ?kp ?ko ?hx ?kr ?kd ?ku ?_; (case k2 => k_asm); (case k1 => k_asm); (case k3 => k_asm); (case k4 => k_asm); (case k5 => k_asm); (case kK => first | exact rfl | assumption); (case kp => k_mem); (case ko => assumption); (case hx => assumption); (case kr => k_all); (case kd => ktr_room); (case ku => ktr_units); k_whole); intro y' t' o' h' tk' hnm' hso' F' N'; (try k_sweep); (try k_fold); (try dsimp only); walk_say "LETTERS")))
  (k_with "call ref" => ((k_here; (with_reducible show wpAny _ _ (call (Value.ref 972) [Value.ref _, Value.ref _]) _ _ _); k_dflt (first | ((refine' one_use (IsStrOf menu5) ?k1 ?k2 ?k3 ?k4 ?k5 ?kK ?kp ?ko ?kr ?hm ?h2 ?ht ?hP ?kd ?ku ?_; (case k2 => k_asm); (case k1 => k_asm); (case k3 => k_asm); (case k4 => k_asm); (case k5 => k_asm); (case kK => first | exact rfl | assumption); (case kp => k_mem); (case ko => assumption); (case kr => k_all); (case hm => k_mem); (case h2 => exact Nat.le_of_ble_eq_true rfl); (case ht => exact Nat.le_of_ble_eq_true rfl); (case hP => (repeat (first | exact List.forall_mem_nil _ | refine List.forall_mem_cons.mpr ⟨⟨_, _, rfl, by decide +kernel⟩, ?_⟩))); (case kd => ktr_room); (case ku => ktr_units); k_whole)) | ((refine' one_use IsShort ?k1 ?k2 ?k3 ?k4 ?k5 ?kK ?kp ?ko ?kr ?hm ?h2 ?ht ?hP ?kd ?ku ?_; (case k2 => k_asm); (case k1 => k_asm); (case k3 => k_asm); (case k4 => k_asm); (case k5 => k_asm); (case kK => first | exact rfl | assumption); (case kp => k_mem); (case ko => assumption); (case kr => k_all); (case hm => k_mem); (case h2 => exact Nat.le_of_ble_eq_true rfl); (case ht => exact Nat.le_of_ble_eq_true rfl); (case hP => (repeat (first | exact List.forall_mem_nil _ | refine List.forall_mem_cons.mpr ⟨⟨_, _, rfl, by decide +kernel⟩, ?_⟩))); (case kd => ktr_room); (case ku => ktr_units); k_whole))); intro r' o' h' tk' hP' hso' F' N'; k_dflt (obtain ⟨x', t', hr', hx'⟩ := hP'); subst hr'; (try k_sweep); (try k_fold); (try dsimp only); walk_say "ONE")))
  (k_with "size_fits" => (exact Nat.le_of_ble_eq_true rfl))
  (k_with "k_mem" => (((with_reducible show _ ∈ _ :: _); first | with_reducible exact mem_hd | ((with_reducible refine mem_tl ?_); (first | with_reducible exact mem_hd | ((with_reducible refine mem_tl ?_); (first | with_reducible exact mem_hd | ((with_reducible refine mem_tl ?_); (first | with_reducible exact mem_hd | ((with_reducible refine mem_tl ?_); (first | with_reducible exact mem_hd | ((with_reducible refine mem_tl ?_); (first | with_reducible exact mem_hd | ((with_reducible refine mem_tl ?_); (first | with_reducible exact mem_hd | ((with_reducible refine mem_tl ?_); (first | with_reducible exact mem_hd | ((with_reducible refine mem_tl ?_); (first | with_reducible exact mem_hd | ((with_reducible refine mem_tl ?_); (first | with_reducible exact mem_hd | ((with_reducible refine mem_tl ?_); (first | with_reducible exact mem_hd | ((with_reducible refine mem_tl ?_); (first | with_reducible exact mem_hd | ((with_reducible refine mem_tl ?_); (first | with_reducible exact mem_hd | ((with_reducible refine mem_tl ?_); (first | with_reducible exact mem_hd | ((with_reducible refine mem_tl ?_); (first | with_reducible exact mem_hd | ((with_reducible refine mem_tl ?_); (first | with_reducible exact mem_hd | ((with_reducible refine mem_tl ?_); ((first | ktr_member | (refine AllIn.sub (by assumption) _ ?_; ktr_member)))) | (first | ktr_member | (refine AllIn.sub (by assumption) _ ?_; ktr_member)))) | (first | ktr_member | (refine AllIn.sub (by assumption) _ ?_; ktr_member)))) | (first | ktr_member | (refine AllIn.sub (by assumption) _ ?_; ktr_member)))) | (first | ktr_member | (refine AllIn.sub (by assumption) _ ?_; ktr_member)))) | (first | ktr_member | (refine AllIn.sub (by assumption) _ ?_; ktr_member)))) | (first | ktr_member | (refine AllIn.sub (by assumption) _ ?_; ktr_member)))) | (first | ktr_member | (refine AllIn.sub (by assumption) _ ?_; ktr_member)))) | (first | ktr_member | (refine AllIn.sub (by assumption) _ ?_; ktr_member)))) | (first | ktr_member | (refine AllIn.sub (by assumption) _ ?_; ktr_member)))) | (first | ktr_member | (refine AllIn.sub (by assumption) _ ?_; ktr_member)))) | (first | ktr_member | (refine AllIn.sub (by assumption) _ ?_; ktr_member)))) | (first | ktr_member | (refine AllIn.sub (by assumption) _ ?_; ktr_member)))) | (first | ktr_member | (refine AllIn.sub (by assumption) _ ?_; ktr_member)))) | (first | ktr_member | (refine AllIn.sub (by assumption) _ ?_; ktr_member)))) | (first | ktr_member | (refine AllIn.sub (by assumption) _ ?_; ktr_member)))) | (first | ktr_member | (refine AllIn.sub (by assumption) _ ?_; ktr_member)))))
  (k_with "k_all" => (((repeat' (first | with_reducible assumption | exact l9_ne (by with_reducible assumption) | with_reducible refine ne_cons ?_ ?_ | exact ne_l1 (by with_reducible assumption) (by k_mem) | exact ne_l2 (by with_reducible assumption) (by with_reducible assumption) (by k_mem) | exact ne_l3 (by with_reducible assumption) (by with_reducible assumption) (by with_reducible assumption) (by k_mem) | exact ne_l4 (by with_reducible assumption) (by with_reducible assumption) (by with_reducible assumption) (by with_reducible assumption) (by k_mem) | k_ne)); done)))
  (k_with "call ref" => ((k_here; (with_reducible show wpAny _ _ (call (Value.ref 153) _) _ _ _); k_dflt (first | (refine' mk_name_use (mk_name) ?k1 ?k2 ?k3 ?k4 ?k5 ?kK ?kd ?ku ?_; (case k2 => k_asm); (case k1 => k_asm); (case k3 => k_asm); (case k4 => k_asm); (case k5 => k_asm); (case kK => first | exact rfl | assumption); (case kd => ktr_room); (case ku => ktr_units);  k_whole)); (intro E' D' _ _ _ _ _ _ _ _ _ _ _ l1' l2' h' tk' F' N'; (try k_lt l1'); (try k_lt2 l2')); (try k_sweep); (try k_fold); (try dsimp only); walk_say "MK_NAME")))
  (k_with "call ref" => ((k_here; (with_reducible show wpAny _ _ (call (Value.ref 127) _) _ _ _); k_dflt (first | (refine' mk_lit_use (mk_lit) ?k1 ?k2 ?k3 ?k4 ?k5 ?kK ?kd ?ku ?_; (case k2 => k_asm); (case k1 => k_asm); (case k3 => k_asm); (case k4 => k_asm); (case k5 => k_asm); (case kK => first | exact rfl | assumption); (case kd => ktr_room); (case ku => ktr_units);  k_whole)); (intro E' D' _ _ l1' l2' h' tk' F' N'; (try k_lt l1'); (try k_lt2 l2')); (try k_sweep); (try k_fold); (try dsimp only); walk_say "MK_LIT")))
  trivial
theorem in_str_yes {prog : Program} {w : World} {A : Around} {E Q : Value → Shared → Prop} {s : Shared} {x y : Str} {t u : Tok} (hb : (Builtin.Str.occurrences x y 0 x.length 1).isEmpty = false) (h : Q (.bool true) s) : wpAny (model prog w) A (compareOp .In (.str y u) (.str x t)) Q E s :=
  PyProof.Rows.in_str (by rw [hb]; exact h)
def strBut (k : Str) : Value → Bool
  | .str y _ => y != k
  | _ => false
theorem not_in_tup {prog : Program} {w : World} {A : Around} {E Q : Value → Shared → Prop} {s : Shared} {h₀ : Heap} {K : Frag} {L l : Addr} {m : Str → Option Value} {vs : Array Value} {n : Nat} {k : Str} {t : Tok} (F : Fr h₀ L s.heap m) (X : K.In h₀) (hl : K.lookup l = some { cls := .type "tuple", data := .seq vs n }) {ks : List Str} (hk : k ∈ ks) (hb : ks.all (fun k => vs.toList.all (strBut k)) = true) (h : Q (.bool false) s) :
    wpAny (model prog w) A (compareOp .In (.str k t) (.ref l)) Q E s := by
  have hall : ∀ v ∈ vs, strBut k v = true := fun v hv => List.all_eq_true.mp (List.all_eq_true.mp hb k hk) v (by simpa using hv)
  refine SeqAt.in_tupleAt (fun _ => false) ⟨_, (X.keeps F.keep) _ _ hl, rfl, _, rfl⟩ (fun y hy => ?_) (by rw [show vs.any (fun _ => false) = false from by rw [Array.any_eq_false]; intros; exact Bool.false_ne_true]; exact h)
  have hv := hall y hy
  cases y with
  | str y u =>
    have := (eqGives_str y k u t).at A.in1 s
    have e : (y == k) = false := by
      have : (y != k) = true := hv
      simpa using this
    rwa [e] at this
  | _ => cases hv
def bare5 : List Str := [S "q", S "t", S "b", S "Max", S "count"]
def ups5 : List Str := [S "Q", S "T", S "B", S "MAX", S "COUNT"]
theorem bare_facts : ∀ x ∈ bare5, (0 < x.length ∧ x.length ≤ 5) ∧ Txt.isascii x = true ∧ Txt.upper x ∈ ups5 ∧ (x.cps.toList == (S "").cps.toList) = false ∧ (Builtin.Str.occurrences (S "abcdefghijklmnopqrstuvwxyzABCDEFGHIJKLMNOPQRSTUVWXYZ_") (Txt.item x 0) 0 (S "abcdefghijklmnopqrstuvwxyzABCDEFGHIJKLMNOPQRSTUVWXYZ_").length 1).isEmpty = false := by decide +kernel
theorem name_signs : ∀ x ∈ bare5, ∀ c ∈ x.cps.toList, (Builtin.Str.occurrences (S "abcdefghijklmnopqrstuvwxyzABCDEFGHIJKLMNOPQRSTUVWXYZ_0123456789$") ⟨#[c]⟩ 0 (S "abcdefghijklmnopqrstuvwxyzABCDEFGHIJKLMNOPQRSTUVWXYZ_0123456789$").length 1).isEmpty = false := by decide +kernel
section
variable {prog : Program} {w : World} {A : Around} {E Q : Value → Shared → Prop} {s : Shared} {x : Str} {t u : Tok}
theorem eq_no (hb : (x.cps.toList == (S "").cps.toList) = false) (h : Q (.bool false) s) : wpAny (model prog w) A (compareOp .Eq (.str x t) (.str (S "") u)) Q E s :=
  P.eq_str (by rw [hb]; exact h)
theorem ascii_yes (hb : Txt.isascii x = true) (h : Q (.bool true) s) : wpAny (model prog w) A (call (.builtin "str.isascii") [.str x t]) Q E s :=
  PySem.SC.isascii (by rw [hb]; exact h)
end
/-- one turn over a text's signs that goes on -/
def SignTurn (h₀ : Heap) (L : Addr) (m₀ : Str → Option Value) (x : Str) (all : Led) (s₁ : Shared) (f : Flow) (s₂ : Shared) : Prop :=
  f = .next ∧ ∃ h' tk v, s₂ = { s₁ with heap := h', toks := tk } ∧ Fr h₀ L h' (fun y => if y = x then v else m₀ y) ∧ News h₀ L h' all
theorem signs_loop {prog : Program} {w : World} {A : Around} {E : Value → Shared → Prop} {s : Shared} {env : Env} {h₀ : Heap} {x : Str} {body : List Stmt} {Q : Flow → Shared → Prop} {xt : Str} {tx : Tok} {m₀ : Str → Option Value} {news : Led}
    (hh : A.handled = none) (F : Fr h₀ env.locals s.heap m₀) (N : News h₀ env.locals s.heap news)
    (turn : ∀ (n : Nat) t h tk own, n ∈ xt.cps.toList → Fr h₀ env.locals h (fun y => if y = x then some (.str ⟨#[n]⟩ t) else m₀ y) → News h₀ env.locals h (news ++ own) →
      wpAny (model prog w) A (execs body env) (SignTurn h₀ env.locals m₀ x (news ++ own) { s with heap := h, toks := tk }) E { s with heap := h, toks := tk })
    (done : ∀ u h tk, Fr h₀ env.locals h (fun y => if y = x then u else m₀ y) → News h₀ env.locals h news → Q .next { s with heap := h, toks := tk }) :
    wpAny (model prog w) A (pyIter (.str xt tx)) (fun it s₂ => LoopAtV prog w A h₀ env x body Q E it s₂) E s := by
  refine KStt.kst_text (σ := Unit) (fun _ => news) (fun _ => []) (fun _ => True) [] (fun _ _ => True) () hh F N trivial (fun _ h => nomatch h) trivial (fun c pre post n t u h tk own e off _ _ F' N' => ?_) (fun c u h tk _ _ F' N' => ?_)
  · have hn : n ∈ xt.cps.toList := by
      have h1 : (n : Int) ∈ KStt.codes xt := by rw [e]; exact List.mem_append.mpr (.inr (.head _))
      obtain ⟨c, hc, hc'⟩ := List.mem_map.mp h1
      have : c = n := Int.ofNat.inj hc'
      exact this ▸ hc
    refine wpAny_mono (turn n t h tk own hn F' N') (fun f s₄ h₄ => ?_) fun _ _ e => e
    obtain ⟨rfl, h', tk', v, rfl, F₄, N₄⟩ := h₄
    refine ⟨h', tk', _, _, news, rfl, F₄, N₄, fun p hp => List.mem_append.mpr (.inl hp), fun p hp => List.mem_append.mpr (.inr hp), rfl, (), rfl, trivial, (fun _ h => nomatch h), fun z hz _ _ => if_neg hz, trivial⟩
  · refine done (u x) h tk ?_ N'
    have e : (fun y => if y = x then u x else m₀ y) = (fun y => if y = x then u y else kstB (fun z => if ([] : List Str).contains z then u z else m₀ z) [] y) := by
      funext y
      by_cases hy : y = x
      · subst hy; rw [if_pos rfl, if_pos rfl]
      · rw [if_neg hy, if_neg hy]; rfl
    rw [e]; exact F'
theorem sign_go {h₀ : Heap} {L : Addr} {m₀ : Str → Option Value} {x : Str} {all all' : Led} {s₁ : Shared} {h' : Heap} {tk : Nat} {v : Option Value} (F : Fr h₀ L h' (fun y => if y = x then v else m₀ y)) (N : News h₀ L h' all') (sub : ∀ p ∈ all, p ∈ all') :
    SignTurn h₀ L m₀ x all s₁ .next { s₁ with heap := h', toks := tk } := ⟨rfl, h', tk, v, rfl, F, cb_drop N sub⟩
section
theorem rows24 : True := by
  w_top off
  (k_with "compareOp In str str" => ((k_here; k_dflt (first | refine in_str_yes (by assumption) ?_ | refine in_str_yes (name_signs _ (by assumption) _ (by assumption)) ?_))))
  (k_with "compareOp Eq str str" => ((k_here; k_dflt (refine eq_no (by assumption) ?_))))
  (k_with "call builtin:str.isascii" => ((k_here; k_dflt (refine ascii_yes (by assumption) ?_))))
  (k_with "compareOp In str ref" => ((k_here; k_dflt (refine' not_in_tup ?F ?X ?hl ?hk ?hb ?_; (case F => k_asm); (case X => k_asm); (case hl => k_is); (case hk => assumption); (case hb => decide +kernel); k_whole))))
  (k_with "exec For Name Name cons nil" => ((k_here; (rename Fr _ _ _ _ => lF'); (with_unfolding_all refine' For_invVF lF' ?k1 ?k2 ?_; (case k1 => exact rfl); (case k2 => exact rfl); k_whole))))
  (k_with "pyIter str" => ((k_here; (with_reducible show wpAny _ _ (pyIter (Value.str _ _)) _ _ _); k_dflt (refine' signs_loop ?hh ?F ?N ?_ ?_; (case hh => rfl); (case F => k_asm); (case N => k_asm)); rotate_left; intro u' h' tk' F' N'; rotate_right; intro n' t' h' tk' own' hn' F' N'; walk_say "SIGNS")))
  (k_with "SignTurn" => ((k_dflt (refine' sign_go ?F ?N ?sub; (case F => k_asm); (case N => k_asm); (case sub => exact fun _ h => h)); walk_say "SIGN")))
  trivial
set_option maxHeartbeats 8000000 in
theorem bare_call {w : World} {p : Program} {loose : List Str} {mean : ExcName → Option Value} {mg mb : Str → Option Value} {news : Led} {x : Str} {tt : Tok} (hx : x ∈ bare5) :
    CallTo w p loose mean mg mb 676 [.str x tt] news 3 (fun r news' => r = .bool true ∧ news' = news) := by
  exact ensure_expected_type% "" (by exact ?walk9 : type_of% (let_mvar% ?walk9 := (by
    intro dp un gd cn cs ac ccd cl outer A₀ base h₀ L m s Q E B F X N T hk hdp hun hret
    obtain ⟨⟨hl0, hl5⟩, hasc, hup, hne, hlet⟩ := bare_facts x hx
    refine wpAny_call ?_
    k_dflt cell_enter
    k_steps
    all_goals exact hret _ _ _ _ ⟨rfl, rfl⟩ (by k_asm) (by k_asm)
    : _); ?walk9))
end
theorem rows25 : True := by
  w_top off
  k_with_none
  (k_with "execs cons" => ((k_here; (with_reducible refine gen_toks (P := fun k => wpAny _ _ _ _ _ ⟨_, _, _, k, _⟩) (_ + _) ?_); intro tk9'; walk_say "TOKS")))
  (k_with "eval Name" => ((k_here; name_kind "globalImplicit"; k_dflt (refine' nameX_K ?F ?X ?T ?e ?_ ?a ?b; (case F => k_asm); (case X => k_asm); (case T => k_asm); (case a => kernel_rfl!); (case b => kernel_rfl!); (case e => k_is); k_whole))))
  (k_with "eval Name" => ((k_here; name_kind "local"; k_dflt (refine' nameX_L ?F ?v ?_ ?a ?b; (case F => k_asm); (case a => kernel_rfl!); (case b => kernel_rfl!); (case v => rfl); k_whole))))
  (k_with "execs nil" => ((k_here; (with_reducible refine gen_toks (P := fun k => wpAny _ _ _ _ _ ⟨_, _, _, k, _⟩) (_ + _) ?_); intro tk9'; walk_say "TOKS")))
  (k_with "eval Name" => ((k_here; name_kind "globalImplicit"; name_is_builtin; k_dflt (refine' nameX_B ?F ?X ?T ?e ?v ?n ?_ ?a ?b; (case F => k_asm); (case X => k_asm); (case T => k_asm); (case a => kernel_rfl!); (case b => kernel_rfl!); (case e => k_is); (case v => boot_fast); (case n => decide); k_whole))))
  (k_with "ite" => ((k_closed; first | with_reducible refine ite_ff ?_ | with_reducible refine ite_tt ?_ | k_dflt (first | refine ite_t rfl ?_ | refine ite_f rfl ?_))))
  (k_with "call builtin:isinstance" => ((k_here; k_dflt (refine' isi_call ?k1 ?k2 ?k3 ?k4 ?_; (case k1 => k_in); (case k2 => k_types); (case k3 => k_is); (case k4 => intro e; cases e); k_whole))))
  (k_with "ktr_room" => (k_dflt (first | exact room2 (by with_reducible assumption) (by decide) | exact room1 (by with_reducible assumption) rfl | exact room0 (by with_reducible assumption))))
  (k_with "ktr_units" => (k_dflt (first | exact units2 (by with_reducible assumption) (by decide) | exact units1 (by with_reducible assumption) rfl | exact units0 (by with_reducible assumption) rfl | exact room0 (by with_reducible assumption))))
  (k_with "k_in" => (first | with_reducible assumption | exact Frag.In.keeps (by with_reducible assumption) (Fr.keep (by with_reducible assumption))))
  (k_with "call builtin:isinstance" => ((k_here; (with_reducible show wpAny _ _ (call _ [Value.ref _, Value.ref _]) _ _ _); k_dflt (refine' kin_callC ?k1 ?k2 ?k3 ?k4 ?k5 ?k6 ?k7 ?k8 ?k9 ?_; (case k1 => k_in); (case k2 => k_inst); (case k3 => kin_no); (case k4 => k_is); (case k5 => k_is); (case k6 => k_is); (case k7 => k_is); (case k8 => k_is); (case k9 => k_is); k_whole))))
  (k_with "getAttr ref" => ((k_here; k_dflt (refine' get_own ?k1 ?k2 ?k3 ?k4 ?k5 ?k6 ?k7 ?k8 ?k9 ?_; (case k1 => k_asm); (case k2 => k_asm); (case k3 => k_inst); (case k4 => k_is); (case k5 => k_is); (case k6 => k_is); (case k7 => k_is); (case k8 => k_get); (case k9 => k_handed); k_whole))))
  (k_with "k_room" => (ktr_room))
  (k_with "k_units" => (ktr_units))
  (k_with "k_all" => (assumption))
  (k_with "k_mem" => (first | assumption | ((with_reducible show Pick _ _ _); first | exact Pick.head | exact Pick.tail (Pick.head) | exact Pick.tail (Pick.tail (Pick.head)) | exact Pick.tail (Pick.tail (Pick.tail (Pick.head))) | exact Pick.tail (Pick.tail (Pick.tail (Pick.tail (Pick.head)))) | exact Pick.tail (Pick.tail (Pick.tail (Pick.tail (Pick.tail (Pick.head))))) | exact Pick.tail (Pick.tail (Pick.tail (Pick.tail (Pick.tail (Pick.tail (Pick.head)))))) | exact Pick.tail (Pick.tail (Pick.tail (Pick.tail (Pick.tail (Pick.tail (Pick.tail (Pick.head))))))) | exact Pick.t8 (Pick.head) | exact Pick.t8 (Pick.tail (Pick.head)) | exact Pick.t8 (Pick.tail (Pick.tail (Pick.head))) | exact Pick.t8 (Pick.tail (Pick.tail (Pick.tail (Pick.head)))) | exact Pick.t8 (Pick.tail (Pick.tail (Pick.tail (Pick.tail (Pick.head))))) | exact Pick.t8 (Pick.tail (Pick.tail (Pick.tail (Pick.tail (Pick.tail (Pick.head)))))) | exact Pick.t8 (Pick.tail (Pick.tail (Pick.tail (Pick.tail (Pick.tail (Pick.tail (Pick.head))))))) | exact Pick.t8 (Pick.tail (Pick.tail (Pick.tail (Pick.tail (Pick.tail (Pick.tail (Pick.tail (Pick.head)))))))) | exact Pick.t8 (Pick.t8 (Pick.head)) | exact Pick.t8 (Pick.t8 (Pick.tail (Pick.head))) | exact Pick.t8 (Pick.t8 (Pick.tail (Pick.tail (Pick.head)))) | exact Pick.t8 (Pick.t8 (Pick.tail (Pick.tail (Pick.tail (Pick.head))))) | exact Pick.t8 (Pick.t8 (Pick.tail (Pick.tail (Pick.tail (Pick.tail (Pick.head)))))) | exact Pick.t8 (Pick.t8 (Pick.tail (Pick.tail (Pick.tail (Pick.tail (Pick.tail (Pick.head))))))) | exact Pick.t8 (Pick.t8 (Pick.tail (Pick.tail (Pick.tail (Pick.tail (Pick.tail (Pick.tail (Pick.head)))))))) | exact Pick.t8 (Pick.t8 (Pick.tail (Pick.tail (Pick.tail (Pick.tail (Pick.tail (Pick.tail (Pick.tail (Pick.head))))))))) | exact Pick.t8 (Pick.t8 (Pick.t8 (Pick.head))) | exact Pick.t8 (Pick.t8 (Pick.t8 (Pick.tail (Pick.head)))) | exact Pick.t8 (Pick.t8 (Pick.t8 (Pick.tail (Pick.tail (Pick.head))))) | exact Pick.t8 (Pick.t8 (Pick.t8 (Pick.tail (Pick.tail (Pick.tail (Pick.head)))))) | exact Pick.t8 (Pick.t8 (Pick.t8 (Pick.tail (Pick.tail (Pick.tail (Pick.tail (Pick.head))))))) | exact Pick.t8 (Pick.t8 (Pick.t8 (Pick.tail (Pick.tail (Pick.tail (Pick.tail (Pick.tail (Pick.head)))))))) | exact Pick.t8 (Pick.t8 (Pick.t8 (Pick.tail (Pick.tail (Pick.tail (Pick.tail (Pick.tail (Pick.tail (Pick.head))))))))) | exact Pick.t8 (Pick.t8 (Pick.t8 (Pick.tail (Pick.tail (Pick.tail (Pick.tail (Pick.tail (Pick.tail (Pick.tail (Pick.head)))))))))) | exact Pick.t8 (Pick.t8 (Pick.t8 (Pick.t8 (Pick.head)))) | exact Pick.t8 (Pick.t8 (Pick.t8 (Pick.t8 (Pick.tail (Pick.head))))) | exact Pick.t8 (Pick.t8 (Pick.t8 (Pick.t8 (Pick.tail (Pick.tail (Pick.head)))))) | exact Pick.t8 (Pick.t8 (Pick.t8 (Pick.t8 (Pick.tail (Pick.tail (Pick.tail (Pick.head))))))) | exact Pick.t8 (Pick.t8 (Pick.t8 (Pick.t8 (Pick.tail (Pick.tail (Pick.tail (Pick.tail (Pick.head)))))))) | exact Pick.t8 (Pick.t8 (Pick.t8 (Pick.t8 (Pick.tail (Pick.tail (Pick.tail (Pick.tail (Pick.tail (Pick.head))))))))) | exact Pick.t8 (Pick.t8 (Pick.t8 (Pick.t8 (Pick.tail (Pick.tail (Pick.tail (Pick.tail (Pick.tail (Pick.tail (Pick.head)))))))))) | exact Pick.t8 (Pick.t8 (Pick.t8 (Pick.t8 (Pick.tail (Pick.tail (Pick.tail (Pick.tail (Pick.tail (Pick.tail (Pick.tail (Pick.head))))))))))) | exact Pick.t8 (Pick.t8 (Pick.t8 (Pick.t8 (Pick.t8 (Pick.head))))) | exact Pick.t8 (Pick.t8 (Pick.t8 (Pick.t8 (Pick.t8 (Pick.tail (Pick.head)))))) | exact Pick.t8 (Pick.t8 (Pick.t8 (Pick.t8 (Pick.t8 (Pick.tail (Pick.tail (Pick.head))))))) | exact Pick.t8 (Pick.t8 (Pick.t8 (Pick.t8 (Pick.t8 (Pick.tail (Pick.tail (Pick.tail (Pick.head)))))))) | exact Pick.t8 (Pick.t8 (Pick.t8 (Pick.t8 (Pick.t8 (Pick.tail (Pick.tail (Pick.tail (Pick.tail (Pick.head))))))))) | exact Pick.t8 (Pick.t8 (Pick.t8 (Pick.t8 (Pick.t8 (Pick.tail (Pick.tail (Pick.tail (Pick.tail (Pick.tail (Pick.head)))))))))) | exact Pick.t8 (Pick.t8 (Pick.t8 (Pick.t8 (Pick.t8 (Pick.tail (Pick.tail (Pick.tail (Pick.tail (Pick.tail (Pick.tail (Pick.head))))))))))) | exact Pick.t8 (Pick.t8 (Pick.t8 (Pick.t8 (Pick.t8 (Pick.tail (Pick.tail (Pick.tail (Pick.tail (Pick.tail (Pick.tail (Pick.tail (Pick.head)))))))))))) | exact Pick.t8 (Pick.t8 (Pick.t8 (Pick.t8 (Pick.t8 (Pick.t8 (Pick.head)))))) | exact Pick.t8 (Pick.t8 (Pick.t8 (Pick.t8 (Pick.t8 (Pick.t8 (Pick.tail (Pick.head))))))) | exact Pick.t8 (Pick.t8 (Pick.t8 (Pick.t8 (Pick.t8 (Pick.t8 (Pick.tail (Pick.tail (Pick.head)))))))) | exact Pick.t8 (Pick.t8 (Pick.t8 (Pick.t8 (Pick.t8 (Pick.t8 (Pick.tail (Pick.tail (Pick.tail (Pick.head))))))))) | exact Pick.t8 (Pick.t8 (Pick.t8 (Pick.t8 (Pick.t8 (Pick.t8 (Pick.tail (Pick.tail (Pick.tail (Pick.tail (Pick.head)))))))))) | exact Pick.t8 (Pick.t8 (Pick.t8 (Pick.t8 (Pick.t8 (Pick.t8 (Pick.tail (Pick.tail (Pick.tail (Pick.tail (Pick.tail (Pick.head))))))))))) | exact Pick.t8 (Pick.t8 (Pick.t8 (Pick.t8 (Pick.t8 (Pick.t8 (Pick.tail (Pick.tail (Pick.tail (Pick.tail (Pick.tail (Pick.tail (Pick.head)))))))))))) | exact Pick.t8 (Pick.t8 (Pick.t8 (Pick.t8 (Pick.t8 (Pick.t8 (Pick.tail (Pick.tail (Pick.tail (Pick.tail (Pick.tail (Pick.tail (Pick.tail (Pick.head)))))))))))))) | exact List.Mem.tail _ (by assumption)))
  (k_with "call ref" => ((k_here; (with_reducible show wpAny _ _ (call (Value.ref 965) _) _ _ _); k_dflt (refine' take_use ?k1 ?k2 ?k3 ?k4 ?k5 ?kK ?kp ?ko ?kr ?h2 ?ht ?kd ?ku ?_; (case k2 => k_asm); (case k1 => k_asm); (case k3 => k_asm); (case k4 => k_asm); (case k5 => k_asm); (case kK => first | exact rfl | assumption); (case kp => k_mem); (case ko => assumption); (case kr => k_all); (case h2 => omega); (case ht => omega); (case kd => ktr_room); (case ku => ktr_units); k_whole); intro d' t' o' h' tk' hd0' hd1' hso' F' N'; (try k_sweep); (try k_fold); (try dsimp only); walk_say "TAKE")))
  (k_with "call ref" => ((k_here; (with_reducible show wpAny _ _ (call (Value.ref 58) _) _ _ _); k_dflt (refine' fold_use ?k1 ?k2 ?k3 ?k4 ?k5 ?kK ?kn ?kd ?ku ?_; (case k2 => k_asm); (case k1 => k_asm); (case k3 => k_asm); (case k4 => k_asm); (case k5 => k_asm); (case kK => first | exact rfl | assumption); (case kn => assumption); (case kd => ktr_room); (case ku => ktr_units); k_whole); intro t' h' tk' F' N'; (try k_sweep); (try k_fold); (try dsimp only); walk_say "FOLD")))
  (k_with "call ref" => ((k_here; (with_reducible show wpAny _ _ (call (Value.ref 986) _) _ _ _); k_dflt (refine' lordinal_use ?k1 ?k2 ?k3 ?k4 ?k5 ?kK ?h0 ?h1 ?kd ?ku ?_; (case k2 => k_asm); (case k1 => k_asm); (case k3 => k_asm); (case k4 => k_asm); (case k5 => k_asm); (case kK => first | exact rfl | assumption); (case h0 => omega); (case h1 => omega); (case kd => ktr_room); (case ku => ktr_units); k_whole); intro t' h' tk' hol' F' N'; (try k_sweep); (try k_fold); (try dsimp only); walk_say "LORDINAL")))
  (k_with "call ref" => ((k_here; (with_reducible show wpAny _ _ (call (Value.ref 852) _) _ _ _); k_dflt (refine' ordinal_use ?k1 ?k2 ?k3 ?k4 ?k5 ?kK ?h0 ?h1 ?kd ?ku ?_; (case k2 => k_asm); (case k1 => k_asm); (case k3 => k_asm); (case k4 => k_asm); (case k5 => k_asm); (case kK => first | exact rfl | assumption); (case h0 => omega); (case h1 => omega); (case kd => ktr_room); (case ku => ktr_units); k_whole); intro t' h' tk' hol' F' N'; (try k_sweep); (try k_fold); (try dsimp only); walk_say "ORDINAL")))
  (k_with "call builtin:len" => ((k_here; (with_reducible show wpAny _ _ (call (Value.builtin "len") [Value.ref _]) _ _ _); k_dflt (refine' len_short ?N ?m ?f ?_; (case N => k_asm); (case m => k_mem); (case f => omega); k_whole))))
  (k_with "call ref" => ((k_here; (with_reducible show wpAny _ _ (call (Value.ref 866) _) _ _ _); k_dflt (refine' alias_use ?k1 ?k2 ?k3 ?k4 ?k5 ?kK ?ke ?kD ?kv ?kl ?kn ?k9 ?kd ?ku ?_; (case k2 => k_asm); (case k1 => k_asm); (case k3 => k_asm); (case k4 => k_asm); (case k5 => k_asm); (case kK => first | exact rfl | assumption); (case ke => k_mem); (case kD => k_mem); (case kv => assumption); (case kl => k_mem); (case kn => assumption); (case k9 => assumption); (case kd => ktr_room); (case ku => ktr_units); k_whole); intro t' h' tk' F' N'; (try k_sweep); (try k_fold); (try dsimp only); walk_say "ALIAS")))
  (k_with "call ref" => ((k_here; (with_reducible show wpAny _ _ (call (Value.ref 51) _) _ _ _); k_dflt (refine' exc_make ?F ?X ?N ?hC ?b1 ?b2 ?b3 ?hv ?hi ?hf ?_; (case F => k_asm); (case X => k_asm); (case N => k_asm); (case hC => k_is); (case b1 => decide +kernel); (case b2 => decide +kernel); (case b3 => decide +kernel); (case hv => exact Nat.le_of_ble_eq_true rfl); (case hi => k_is); (case hf => k_is); k_whole); intro e' T' h' F' N' l1 l2 l3; (try k_lt l1); (try k_lt2 l2); (try k_sweep); k_enter; walk_say "EXC MADE")))
  (k_with "setAttr ref" => ((k_here; k_dflt (refine' exc_set ?F ?X ?N ?hx ?hc ?hm ?hd ?hs ?ht ?_; (case F => k_asm); (case X => k_asm); (case N => k_asm); (case hx => k_all); (case hc => k_is); (case hm => exact rfl); (case hd => exact rfl); (case hs => k_is); (case ht => k_is); k_whole); intro d' h' tk' a' b' F' N' l1 l2 l3; (try k_lt l1); (try k_sweep); (try dsimp only); walk_say "EXC SET")))
  (k_with "getAttr ref" => ((k_here; k_dflt (refine' exc_get ?F ?X ?N ?hx ?hdx ?hc ?hm ?hd ?hg ?hk ?ha ?hl ?hv ?_; (case F => k_asm); (case X => k_asm); (case N => k_asm); (case hx => k_mem); (case hdx => k_mem); (case hc => k_is); (case hm => exact rfl); (case hd => exact rfl); (case hg => k_is); (case hk => k_is); (case ha => k_is); (case hl => exact rfl); (case hv => exact rfl); k_whole); intro tk'; walk_say "EXC GET")))
  (k_with "exec Raise some none" => ((k_here; (with_reducible show wpAny _ _ (exec (Stmt.Raise (some (Expr.Call (Expr.Name ("SqlError" : Str) _) _ _ _)) none _) _) _ _ _); refine Raise_own rfl ?_; walk_say "RAISE")))
  (k_with "RaisableD" => ((k_dflt (refine' raisableD ?F ?X ?N ?hm ?q ?_; (case F => k_asm); (case X => k_asm); (case N => k_asm); (case hm => k_mem); (case q => kts_isx); k_whole); walk_say "RAISABLE")))
  (k_with "leaving ref" => ((k_here; k_dflt (refine' leave_raiseD ?K ?F ?N ?ne ?_; (case K => k_asm); (case F => k_asm); (case N => k_asm); (case ne => k_all); k_whole); intro h' R' U'; (try dsimp only at R' U' ⊢); walk_say "LEAVING")))
  (k_with "noteFrame ref" => ((k_here; (with_reducible rename RaisedD _ _ _ _ _ _ _ _ => rsX); k_dflt (refine' caught_D ?R ?F ?K ?U ?XB ?TB ?D ?T0 ?ex ?q ?_; (case R => assumption); (case F => assumption); (case K => assumption); (case U => assumption); (case XB => assumption); (case TB => assumption); (case D => assumption); (case T0 => first | assumption | exact KtsTurn.refl); (case ex => k_is); (case q => kts_isx); k_whole); intro h' g' vs' sl' tk' T' F' N' K' X' P' D'; (try k_lift K'); (try k_sweep); (try dsimp only); walk_say "CAUGHT")))
  (k_with "call ref" => ((k_here; (with_reducible show wpAny _ _ (call (Value.ref 993) [Value.ref _, Value.ref _, Value.int _ _, Value.str _ _]) _ _ _); k_dflt (first   | (refine' refusal_in ?k2 ?k1 ?k3 ?k4 ?k5 ?XB ?TB ?D ?T0 ?kK ?he ?hd ?hl ?h4 ?hc ?hc' ?hz ?h1 ?h2 ?kd ?ku ?_; (case k2 => k_asm); (case k1 => k_asm); (case k3 => k_asm); (case k4 => k_asm); (case k5 => k_asm); (case XB => assumption); (case TB => assumption); (case D => assumption); (case T0 => first | assumption | exact KtsTurn.refl); (case kK => first | exact rfl | assumption); (case he => k_mem); (case hd => k_mem); (case hl => k_mem); (case h4 => omega); (case hc => omega); (case hc' => omega); (case hz => assumption); (case h1 => omega); (case h2 => omega); (case kd => ktr_room); (case ku => ktr_units); k_whole)   | (refine' refusal_out ?k2 ?k1 ?k3 ?k4 ?k5 ?XB ?TB ?D ?T0 ?kK ?he ?hd ?hl ?h4 ?hc ?hc' ?hz ?h1 ?kd ?ku ?_; (case k2 => k_asm); (case k1 => k_asm); (case k3 => k_asm); (case k4 => k_asm); (case k5 => k_asm); (case XB => assumption); (case TB => assumption); (case D => assumption); (case T0 => first | assumption | exact KtsTurn.refl); (case kK => first | exact rfl | assumption); (case he => k_mem); (case hd => k_mem); (case hl => k_mem); (case h4 => omega); (case hc => omega); (case hc' => omega); (case hz => assumption); (case h1 => omega); (case kd => ktr_room); (case ku => ktr_units); k_whole)); intro D' t' h' tk' h₁' T' F' N' B' X' P' D''; (try k_lift B'); (try k_sweep); (try dsimp only); walk_say "REFUSAL")))
  (k_with "call ref" => ((k_here; (with_reducible show wpAny _ _ (call (Value.ref 993) [Value.ref _, Value.ref _, Value.int _ _, Value.str _ _]) _ _ _); k_dflt (refine' refusal_none ?k2 ?k1 ?k3 ?k4 ?k5 ?XB ?TB ?D ?T0 ?kK ?he ?hd ?hl ?kd ?ku ?_; (case k2 => k_asm); (case k1 => k_asm); (case k3 => k_asm); (case k4 => k_asm); (case k5 => k_asm); (case XB => assumption); (case TB => assumption); (case D => assumption); (case T0 => first | assumption | exact KtsTurn.refl); (case kK => first | exact rfl | assumption); (case he => k_mem); (case hd => k_mem); (case hl => k_mem); (case kd => ktr_room); (case ku => ktr_units); k_whole); intro D' h' tk' h₁' T' F' N' B' X' P' D''; (try k_lift B'); (try k_sweep); (try dsimp only); walk_say "REFUSAL0")))
  (k_with "call ref" => ((k_here; (with_reducible show wpAny _ _ (call (Value.ref 979) _) _ _ _); k_dflt (refine' letters_use ?k2 ?k1 ?k3 ?k4 ?k5 ?kK ?kp ?ko ?hx ?kr ?kd ?ku ?_; (case k2 => k_asm); (case k1 => k_asm); (case k3 => k_asm); (case k4 => k_asm); (case k5 => k_asm); (case kK => first | exact rfl | assumption); (case kp => k_mem); (case ko => assumption); (case hx => assumption); (case kr => k_all); (case kd => ktr_room); (case ku => ktr_units); k_whole); intro y' t' o' h' tk' hnm' hso' F' N'; (try k_sweep); (try k_fold); (try dsimp only); walk_say "LETTERS")))
  (k_with "call ref" => ((k_here; (with_reducible show wpAny _ _ (call (Value.ref 972) [Value.ref _, Value.ref _]) _ _ _); k_dflt (first | ((refine' one_use (IsStrOf menu5) ?k1 ?k2 ?k3 ?k4 ?k5 ?kK ?kp ?ko ?kr ?hm ?h2 ?ht ?hP ?kd ?ku ?_; (case k2 => k_asm); (case k1 => k_asm); (case k3 => k_asm); (case k4 => k_asm); (case k5 => k_asm); (case kK => first | exact rfl | assumption); (case kp => k_mem); (case ko => assumption); (case kr => k_all); (case hm => k_mem); (case h2 => exact Nat.le_of_ble_eq_true rfl); (case ht => exact Nat.le_of_ble_eq_true rfl); (case hP => (repeat (first | exact List.forall_mem_nil _ | refine List.forall_mem_cons.mpr ⟨⟨_, _, rfl, by decide +kernel⟩, ?_⟩))); (case kd => ktr_room); (case ku => ktr_units); k_whole)) | ((refine' one_use IsShort ?k1 ?k2 ?k3 ?k4 ?k5 ?kK ?kp ?ko ?kr ?hm ?h2 ?ht ?hP ?kd ?ku ?_; (case k2 => k_asm); (case k1 => k_asm); (case k3 => k_asm); (case k4 => k_asm); (case k5 => k_asm); (case kK => first | exact rfl | assumption); (case kp => k_mem); (case ko => assumption); (case kr => k_all); (case hm => k_mem); (case h2 => exact Nat.le_of_ble_eq_true rfl); (case ht => exact Nat.le_of_ble_eq_true rfl); (case hP => (repeat (first | exact List.forall_mem_nil _ | refine List.forall_mem_cons.mpr ⟨⟨_, _, rfl, by decide +kernel⟩, ?_⟩))); (case kd => ktr_room); (case ku => ktr_units); k_whole))); intro r' o' h' tk' hP' hso' F' N'; k_dflt (obtain ⟨x', t', hr', hx'⟩ := hP'); subst hr'; (try k_sweep); (try k_fold); (try dsimp only); walk_say "ONE")))
  (k_with "size_fits" => (exact Nat.le_of_ble_eq_true rfl))
  (k_with "k_mem" => (((with_reducible show _ ∈ _ :: _); first | with_reducible exact mem_hd | ((with_reducible refine mem_tl ?_); (first | with_reducible exact mem_hd | ((with_reducible refine mem_tl ?_); (first | with_reducible exact mem_hd | ((with_reducible refine mem_tl ?_); (first | with_reducible exact mem_hd | ((with_reducible refine mem_tl ?_); (first | with_reducible exact mem_hd | ((with_reducible refine mem_tl ?_); (first | with_reducible exact mem_hd | ((with_reducible refine mem_tl ?_); (first | with_reducible exact mem_hd | ((with_reducible refine mem_tl ?_); (first | with_reducible exact mem_hd | ((with_reducible refine mem_tl ?_); (first | with_reducible exact mem_hd | ((with_reducible refine mem_tl ?_); (first | with_reducible exact mem_hd | ((with_reducible refine mem_tl ?_); (first | with_reducible exact mem_hd | ((with_reducible refine mem_tl ?_); (first | with_reducible exact mem_hd | ((with_reducible refine mem_tl ?_); (first | with_reducible exact mem_hd | ((with_reducible refine mem_tl ?_); (first | with_reducible exact mem_hd | ((with_reducible refine mem_tl ?_); (first | with_reducible exact mem_hd | ((with_reducible refine mem_tl ?_); (first | with_reducible exact mem_hd | ((with_reducible refine mem_tl ?_); ((first | ktr_member | (refine AllIn.sub (by assumption) _ ?_; ktr_member)))) | (first | ktr_member | (refine AllIn.sub (by assumption) _ ?_; ktr_member)))) | (first | ktr_member | (refine AllIn.sub (by assumption) _ ?_; ktr_member)))) | (first | ktr_member | (refine AllIn.sub (by assumption) _ ?_; ktr_member)))) | (first | ktr_member | (refine AllIn.sub (by assumption) _ ?_; ktr_member)))) | (first | ktr_member | (refine AllIn.sub (by assumption) _ ?_; ktr_member)))) | (first | ktr_member | (refine AllIn.sub (by assumption) _ ?_; ktr_member)))) | (first | ktr_member | (refine AllIn.sub (by assumption) _ ?_; ktr_member)))) | (first | ktr_member | (refine AllIn.sub (by assumption) _ ?_; ktr_member)))) | (first | ktr_member | (refine AllIn.sub (by assumption) _ ?_; ktr_member)))) | (first | ktr_member | (refine AllIn.sub (by assumption) _ ?_; ktr_member)))) | (first | ktr_member | (refine AllIn.sub (by assumption) _ ?_; ktr_member)))) | (first | ktr_member | (refine AllIn.sub (by assumption) _ ?_; ktr_member)))) | (first | ktr_member | (refine AllIn.sub (by assumption) _ ?_; ktr_member)))) | (first | ktr_member | (refine AllIn.sub (by assumption) _ ?_; ktr_member)))) | (first | ktr_member | (refine AllIn.sub (by assumption) _ ?_; ktr_member)))) | (first | ktr_member | (refine AllIn.sub (by assumption) _ ?_; ktr_member)))))
  (k_with "k_all" => (((repeat' (first | with_reducible assumption | exact l9_ne (by with_reducible assumption) | with_reducible refine ne_cons ?_ ?_ | exact ne_l1 (by with_reducible assumption) (by k_mem) | exact ne_l2 (by with_reducible assumption) (by with_reducible assumption) (by k_mem) | exact ne_l3 (by with_reducible assumption) (by with_reducible assumption) (by with_reducible assumption) (by k_mem) | exact ne_l4 (by with_reducible assumption) (by with_reducible assumption) (by with_reducible assumption) (by with_reducible assumption) (by k_mem) | k_ne)); done)))
  (k_with "call ref" => ((k_here; (with_reducible show wpAny _ _ (call (Value.ref 153) _) _ _ _); k_dflt (first | (refine' mk_name_use (mk_name) ?k1 ?k2 ?k3 ?k4 ?k5 ?kK ?kd ?ku ?_; (case k2 => k_asm); (case k1 => k_asm); (case k3 => k_asm); (case k4 => k_asm); (case k5 => k_asm); (case kK => first | exact rfl | assumption); (case kd => ktr_room); (case ku => ktr_units);  k_whole)); (intro E' D' _ _ _ _ _ _ _ _ _ _ _ l1' l2' h' tk' F' N'; (try k_lt l1'); (try k_lt2 l2')); (try k_sweep); (try k_fold); (try dsimp only); walk_say "MK_NAME")))
  (k_with "call ref" => ((k_here; (with_reducible show wpAny _ _ (call (Value.ref 127) _) _ _ _); k_dflt (first | (refine' mk_lit_use (mk_lit) ?k1 ?k2 ?k3 ?k4 ?k5 ?kK ?kd ?ku ?_; (case k2 => k_asm); (case k1 => k_asm); (case k3 => k_asm); (case k4 => k_asm); (case k5 => k_asm); (case kK => first | exact rfl | assumption); (case kd => ktr_room); (case ku => ktr_units);  k_whole)); (intro E' D' _ _ l1' l2' h' tk' F' N'; (try k_lt l1'); (try k_lt2 l2')); (try k_sweep); (try k_fold); (try dsimp only); walk_say "MK_LIT")))
  trivial
section
variable {w : World} {p : Program} {loose : List Str} {mean : ExcName → Option Value} {mg mb : Str → Option Value}
  {dp un : Nat} {gd : Option (List Code)} {cn : Str} {cs : Scope} {a : Addr} {ccd : Value} {cl : List (Str × Addr)} {outer : List Env} {A₀ : Around} {base h₀ : Heap} {L : Addr} {m : Str → Option Value} {s : Shared} {Q E : Value → Shared → Prop}
  {news : Led} {x : Str} {tt : Tok}
theorem bare_use (B : Below A₀ base outer h₀) (F : Fr h₀ L s.heap m) (X : (Mine.kept.heap_1 w.params).In h₀) (N : News h₀ L s.heap news) (T : Top p loose mean mg mb h₀) (hk : cs.kind = .function)
    (hx : x ∈ bare5) (hd : dp + 3 < recursionLimit) (hu : un + 8 * 3 < cLine)
    (ret : ∀ h' tk', Fr h₀ L h' m → News h₀ L h' news → Q (.bool true) { s with heap := h', toks := tk' }) :
    wpAny (model PG w) (ktrTop dp un gd cn cs L a ccd cl outer) (call (.ref 676) [.str x tt]) Q E s :=
  bare_call hx _ _ _ _ _ _ _ _ _ _ _ _ _ _ _ _ _ B F X N T hk hd hu fun _ _ h' tk' ⟨e, e'⟩ F' N' => by
    subst e e'
    exact ret h' tk' F' N'
end
section
theorem rows26 : True := by
  w_top off
  (k_with "call ref" => ((k_here; (with_reducible show wpAny _ _ (call (Value.ref 676) _) _ _ _); k_dflt (refine' bare_use ?k1 ?k2 ?k3 ?k4 ?k5 ?kK ?kn ?kd ?ku ?_; (case k2 => k_asm); (case k1 => k_asm); (case k3 => k_asm); (case k4 => k_asm); (case k5 => k_asm); (case kK => first | exact rfl | assumption); (case kn => assumption); (case kd => ktr_room); (case ku => ktr_units); k_whole); intro h' tk' F' N'; (try k_sweep); (try k_fold); (try dsimp only); walk_say "BARE")))
  trivial
set_option maxHeartbeats 8000000 in
theorem wname_call {w : World} {p : Program} {loose : List Str} {mean : ExcName → Option Value} {mg mb : Str → Option Value} {news : Led} {x : Str} {tt : Tok} (hx : x ∈ bare5) :
    CallTo w p loose mean mg mb 683 [.str x tt] news 4 (fun r news' => (∃ t, r = .str x t) ∧ news' = news) := by
  exact ensure_expected_type% "" (by exact ?walk9 : type_of% (let_mvar% ?walk9 := (by
    intro dp un gd cn cs ac ccd cl outer A₀ base h₀ L m s Q E B F X N T hk hdp hun hret
    refine wpAny_call ?_
    k_dflt cell_enter
    k_steps
    all_goals exact hret _ _ _ _ ⟨⟨_, rfl⟩, rfl⟩ (by k_asm) (by k_asm)
    : _); ?walk9))
end
theorem rows27 : True := by
  w_top off
  k_with_none
  (k_with "execs cons" => ((k_here; (with_reducible refine gen_toks (P := fun k => wpAny _ _ _ _ _ ⟨_, _, _, k, _⟩) (_ + _) ?_); intro tk9'; walk_say "TOKS")))
  (k_with "eval Name" => ((k_here; name_kind "globalImplicit"; k_dflt (refine' nameX_K ?F ?X ?T ?e ?_ ?a ?b; (case F => k_asm); (case X => k_asm); (case T => k_asm); (case a => kernel_rfl!); (case b => kernel_rfl!); (case e => k_is); k_whole))))
  (k_with "eval Name" => ((k_here; name_kind "local"; k_dflt (refine' nameX_L ?F ?v ?_ ?a ?b; (case F => k_asm); (case a => kernel_rfl!); (case b => kernel_rfl!); (case v => rfl); k_whole))))
  (k_with "execs nil" => ((k_here; (with_reducible refine gen_toks (P := fun k => wpAny _ _ _ _ _ ⟨_, _, _, k, _⟩) (_ + _) ?_); intro tk9'; walk_say "TOKS")))
  (k_with "eval Name" => ((k_here; name_kind "globalImplicit"; name_is_builtin; k_dflt (refine' nameX_B ?F ?X ?T ?e ?v ?n ?_ ?a ?b; (case F => k_asm); (case X => k_asm); (case T => k_asm); (case a => kernel_rfl!); (case b => kernel_rfl!); (case e => k_is); (case v => boot_fast); (case n => decide); k_whole))))
  (k_with "ite" => ((k_closed; first | with_reducible refine ite_ff ?_ | with_reducible refine ite_tt ?_ | k_dflt (first | refine ite_t rfl ?_ | refine ite_f rfl ?_))))
  (k_with "call builtin:isinstance" => ((k_here; k_dflt (refine' isi_call ?k1 ?k2 ?k3 ?k4 ?_; (case k1 => k_in); (case k2 => k_types); (case k3 => k_is); (case k4 => intro e; cases e); k_whole))))
  (k_with "ktr_room" => (k_dflt (first | exact room2 (by with_reducible assumption) (by decide) | exact room1 (by with_reducible assumption) rfl | exact room0 (by with_reducible assumption))))
  (k_with "ktr_units" => (k_dflt (first | exact units2 (by with_reducible assumption) (by decide) | exact units1 (by with_reducible assumption) rfl | exact units0 (by with_reducible assumption) rfl | exact room0 (by with_reducible assumption))))
  (k_with "k_in" => (first | with_reducible assumption | exact Frag.In.keeps (by with_reducible assumption) (Fr.keep (by with_reducible assumption))))
  (k_with "call builtin:isinstance" => ((k_here; (with_reducible show wpAny _ _ (call _ [Value.ref _, Value.ref _]) _ _ _); k_dflt (refine' kin_callC ?k1 ?k2 ?k3 ?k4 ?k5 ?k6 ?k7 ?k8 ?k9 ?_; (case k1 => k_in); (case k2 => k_inst); (case k3 => kin_no); (case k4 => k_is); (case k5 => k_is); (case k6 => k_is); (case k7 => k_is); (case k8 => k_is); (case k9 => k_is); k_whole))))
  (k_with "getAttr ref" => ((k_here; k_dflt (refine' get_own ?k1 ?k2 ?k3 ?k4 ?k5 ?k6 ?k7 ?k8 ?k9 ?_; (case k1 => k_asm); (case k2 => k_asm); (case k3 => k_inst); (case k4 => k_is); (case k5 => k_is); (case k6 => k_is); (case k7 => k_is); (case k8 => k_get); (case k9 => k_handed); k_whole))))
  (k_with "k_room" => (ktr_room))
  (k_with "k_units" => (ktr_units))
  (k_with "k_all" => (assumption))
  (k_with "k_mem" => (first | assumption | ((with_reducible show Pick _ _ _); first | exact Pick.head | exact Pick.tail (Pick.head) | exact Pick.tail (Pick.tail (Pick.head)) | exact Pick.tail (Pick.tail (Pick.tail (Pick.head))) | exact Pick.tail (Pick.tail (Pick.tail (Pick.tail (Pick.head)))) | exact Pick.tail (Pick.tail (Pick.tail (Pick.tail (Pick.tail (Pick.head))))) | exact Pick.tail (Pick.tail (Pick.tail (Pick.tail (Pick.tail (Pick.tail (Pick.head)))))) | exact Pick.tail (Pick.tail (Pick.tail (Pick.tail (Pick.tail (Pick.tail (Pick.tail (Pick.head))))))) | exact Pick.t8 (Pick.head) | exact Pick.t8 (Pick.tail (Pick.head)) | exact Pick.t8 (Pick.tail (Pick.tail (Pick.head))) | exact Pick.t8 (Pick.tail (Pick.tail (Pick.tail (Pick.head)))) | exact Pick.t8 (Pick.tail (Pick.tail (Pick.tail (Pick.tail (Pick.head))))) | exact Pick.t8 (Pick.tail (Pick.tail (Pick.tail (Pick.tail (Pick.tail (Pick.head)))))) | exact Pick.t8 (Pick.tail (Pick.tail (Pick.tail (Pick.tail (Pick.tail (Pick.tail (Pick.head))))))) | exact Pick.t8 (Pick.tail (Pick.tail (Pick.tail (Pick.tail (Pick.tail (Pick.tail (Pick.tail (Pick.head)))))))) | exact Pick.t8 (Pick.t8 (Pick.head)) | exact Pick.t8 (Pick.t8 (Pick.tail (Pick.head))) | exact Pick.t8 (Pick.t8 (Pick.tail (Pick.tail (Pick.head)))) | exact Pick.t8 (Pick.t8 (Pick.tail (Pick.tail (Pick.tail (Pick.head))))) | exact Pick.t8 (Pick.t8 (Pick.tail (Pick.tail (Pick.tail (Pick.tail (Pick.head)))))) | exact Pick.t8 (Pick.t8 (Pick.tail (Pick.tail (Pick.tail (Pick.tail (Pick.tail (Pick.head))))))) | exact Pick.t8 (Pick.t8 (Pick.tail (Pick.tail (Pick.tail (Pick.tail (Pick.tail (Pick.tail (Pick.head)))))))) | exact Pick.t8 (Pick.t8 (Pick.tail (Pick.tail (Pick.tail (Pick.tail (Pick.tail (Pick.tail (Pick.tail (Pick.head))))))))) | exact Pick.t8 (Pick.t8 (Pick.t8 (Pick.head))) | exact Pick.t8 (Pick.t8 (Pick.t8 (Pick.tail (Pick.head)))) | exact Pick.t8 (Pick.t8 (Pick.t8 (Pick.tail (Pick.tail (Pick.head))))) | exact Pick.t8 (Pick.t8 (Pick.t8 (Pick.tail (Pick.tail (Pick.tail (Pick.head)))))) | exact Pick.t8 (Pick.t8 (Pick.t8 (Pick.tail (Pick.tail (Pick.tail (Pick.tail (Pick.head))))))) | exact Pick.t8 (Pick.t8 (Pick.t8 (Pick.tail (Pick.tail (Pick.tail (Pick.tail (Pick.tail (Pick.head)))))))) | exact Pick.t8 (Pick.t8 (Pick.t8 (Pick.tail (Pick.tail (Pick.tail (Pick.tail (Pick.tail (Pick.tail (Pick.head))))))))) | exact Pick.t8 (Pick.t8 (Pick.t8 (Pick.tail (Pick.tail (Pick.tail (Pick.tail (Pick.tail (Pick.tail (Pick.tail (Pick.head)))))))))) | exact Pick.t8 (Pick.t8 (Pick.t8 (Pick.t8 (Pick.head)))) | exact Pick.t8 (Pick.t8 (Pick.t8 (Pick.t8 (Pick.tail (Pick.head))))) | exact Pick.t8 (Pick.t8 (Pick.t8 (Pick.t8 (Pick.tail (Pick.tail (Pick.head)))))) | exact Pick.t8 (Pick.t8 (Pick.t8 (Pick.t8 (Pick.tail (Pick.tail (Pick.tail (Pick.head))))))) | exact Pick.t8 (Pick.t8 (Pick.t8 (Pick.t8 (Pick.tail (Pick.tail (Pick.tail (Pick.tail (Pick.head)))))))) | exact Pick.t8 (Pick.t8 (Pick.t8 (Pick.t8 (Pick.tail (Pick.tail (Pick.tail (Pick.tail (Pick.tail (Pick.head))))))))) | exact Pick.t8 (Pick.t8 (Pick.t8 (Pick.t8 (Pick.tail (Pick.tail (Pick.tail (Pick.tail (Pick.tail (Pick.tail (Pick.head)))))))))) | exact Pick.t8 (Pick.t8 (Pick.t8 (Pick.t8 (Pick.tail (Pick.tail (Pick.tail (Pick.tail (Pick.tail (Pick.tail (Pick.tail (Pick.head))))))))))) | exact Pick.t8 (Pick.t8 (Pick.t8 (Pick.t8 (Pick.t8 (Pick.head))))) | exact Pick.t8 (Pick.t8 (Pick.t8 (Pick.t8 (Pick.t8 (Pick.tail (Pick.head)))))) | exact Pick.t8 (Pick.t8 (Pick.t8 (Pick.t8 (Pick.t8 (Pick.tail (Pick.tail (Pick.head))))))) | exact Pick.t8 (Pick.t8 (Pick.t8 (Pick.t8 (Pick.t8 (Pick.tail (Pick.tail (Pick.tail (Pick.head)))))))) | exact Pick.t8 (Pick.t8 (Pick.t8 (Pick.t8 (Pick.t8 (Pick.tail (Pick.tail (Pick.tail (Pick.tail (Pick.head))))))))) | exact Pick.t8 (Pick.t8 (Pick.t8 (Pick.t8 (Pick.t8 (Pick.tail (Pick.tail (Pick.tail (Pick.tail (Pick.tail (Pick.head)))))))))) | exact Pick.t8 (Pick.t8 (Pick.t8 (Pick.t8 (Pick.t8 (Pick.tail (Pick.tail (Pick.tail (Pick.tail (Pick.tail (Pick.tail (Pick.head))))))))))) | exact Pick.t8 (Pick.t8 (Pick.t8 (Pick.t8 (Pick.t8 (Pick.tail (Pick.tail (Pick.tail (Pick.tail (Pick.tail (Pick.tail (Pick.tail (Pick.head)))))))))))) | exact Pick.t8 (Pick.t8 (Pick.t8 (Pick.t8 (Pick.t8 (Pick.t8 (Pick.head)))))) | exact Pick.t8 (Pick.t8 (Pick.t8 (Pick.t8 (Pick.t8 (Pick.t8 (Pick.tail (Pick.head))))))) | exact Pick.t8 (Pick.t8 (Pick.t8 (Pick.t8 (Pick.t8 (Pick.t8 (Pick.tail (Pick.tail (Pick.head)))))))) | exact Pick.t8 (Pick.t8 (Pick.t8 (Pick.t8 (Pick.t8 (Pick.t8 (Pick.tail (Pick.tail (Pick.tail (Pick.head))))))))) | exact Pick.t8 (Pick.t8 (Pick.t8 (Pick.t8 (Pick.t8 (Pick.t8 (Pick.tail (Pick.tail (Pick.tail (Pick.tail (Pick.head)))))))))) | exact Pick.t8 (Pick.t8 (Pick.t8 (Pick.t8 (Pick.t8 (Pick.t8 (Pick.tail (Pick.tail (Pick.tail (Pick.tail (Pick.tail (Pick.head))))))))))) | exact Pick.t8 (Pick.t8 (Pick.t8 (Pick.t8 (Pick.t8 (Pick.t8 (Pick.tail (Pick.tail (Pick.tail (Pick.tail (Pick.tail (Pick.tail (Pick.head)))))))))))) | exact Pick.t8 (Pick.t8 (Pick.t8 (Pick.t8 (Pick.t8 (Pick.t8 (Pick.tail (Pick.tail (Pick.tail (Pick.tail (Pick.tail (Pick.tail (Pick.tail (Pick.head)))))))))))))) | exact List.Mem.tail _ (by assumption)))
  (k_with "call ref" => ((k_here; (with_reducible show wpAny _ _ (call (Value.ref 965) _) _ _ _); k_dflt (refine' take_use ?k1 ?k2 ?k3 ?k4 ?k5 ?kK ?kp ?ko ?kr ?h2 ?ht ?kd ?ku ?_; (case k2 => k_asm); (case k1 => k_asm); (case k3 => k_asm); (case k4 => k_asm); (case k5 => k_asm); (case kK => first | exact rfl | assumption); (case kp => k_mem); (case ko => assumption); (case kr => k_all); (case h2 => omega); (case ht => omega); (case kd => ktr_room); (case ku => ktr_units); k_whole); intro d' t' o' h' tk' hd0' hd1' hso' F' N'; (try k_sweep); (try k_fold); (try dsimp only); walk_say "TAKE")))
  (k_with "call ref" => ((k_here; (with_reducible show wpAny _ _ (call (Value.ref 58) _) _ _ _); k_dflt (refine' fold_use ?k1 ?k2 ?k3 ?k4 ?k5 ?kK ?kn ?kd ?ku ?_; (case k2 => k_asm); (case k1 => k_asm); (case k3 => k_asm); (case k4 => k_asm); (case k5 => k_asm); (case kK => first | exact rfl | assumption); (case kn => assumption); (case kd => ktr_room); (case ku => ktr_units); k_whole); intro t' h' tk' F' N'; (try k_sweep); (try k_fold); (try dsimp only); walk_say "FOLD")))
  (k_with "call ref" => ((k_here; (with_reducible show wpAny _ _ (call (Value.ref 986) _) _ _ _); k_dflt (refine' lordinal_use ?k1 ?k2 ?k3 ?k4 ?k5 ?kK ?h0 ?h1 ?kd ?ku ?_; (case k2 => k_asm); (case k1 => k_asm); (case k3 => k_asm); (case k4 => k_asm); (case k5 => k_asm); (case kK => first | exact rfl | assumption); (case h0 => omega); (case h1 => omega); (case kd => ktr_room); (case ku => ktr_units); k_whole); intro t' h' tk' hol' F' N'; (try k_sweep); (try k_fold); (try dsimp only); walk_say "LORDINAL")))
  (k_with "call ref" => ((k_here; (with_reducible show wpAny _ _ (call (Value.ref 852) _) _ _ _); k_dflt (refine' ordinal_use ?k1 ?k2 ?k3 ?k4 ?k5 ?kK ?h0 ?h1 ?kd ?ku ?_; (case k2 => k_asm); (case k1 => k_asm); (case k3 => k_asm); (case k4 => k_asm); (case k5 => k_asm); (case kK => first | exact rfl | assumption); (case h0 => omega); (case h1 => omega); (case kd => ktr_room); (case ku => ktr_units); k_whole); intro t' h' tk' hol' F' N'; (try k_sweep); (try k_fold); (try dsimp only); walk_say "ORDINAL")))
  (k_with "call builtin:len" => ((k_here; (with_reducible show wpAny _ _ (call (Value.builtin "len") [Value.ref _]) _ _ _); k_dflt (refine' len_short ?N ?m ?f ?_; (case N => k_asm); (case m => k_mem); (case f => omega); k_whole))))
  (k_with "call ref" => ((k_here; (with_reducible show wpAny _ _ (call (Value.ref 866) _) _ _ _); k_dflt (refine' alias_use ?k1 ?k2 ?k3 ?k4 ?k5 ?kK ?ke ?kD ?kv ?kl ?kn ?k9 ?kd ?ku ?_; (case k2 => k_asm); (case k1 => k_asm); (case k3 => k_asm); (case k4 => k_asm); (case k5 => k_asm); (case kK => first | exact rfl | assumption); (case ke => k_mem); (case kD => k_mem); (case kv => assumption); (case kl => k_mem); (case kn => assumption); (case k9 => assumption); (case kd => ktr_room); (case ku => ktr_units); k_whole); intro t' h' tk' F' N'; (try k_sweep); (try k_fold); (try dsimp only); walk_say "ALIAS")))
  (k_with "call ref" => ((k_here; (with_reducible show wpAny _ _ (call (Value.ref 51) _) _ _ _); k_dflt (refine' exc_make ?F ?X ?N ?hC ?b1 ?b2 ?b3 ?hv ?hi ?hf ?_; (case F => k_asm); (case X => k_asm); (case N => k_asm); (case hC => k_is); (case b1 => decide +kernel); (case b2 => decide +kernel); (case b3 => decide +kernel); (case hv => exact Nat.le_of_ble_eq_true rfl); (case hi => k_is); (case hf => k_is); k_whole); intro e' T' h' F' N' l1 l2 l3; (try k_lt l1); (try k_lt2 l2); (try k_sweep); k_enter; walk_say "EXC MADE")))
  (k_with "setAttr ref" => ((k_here; k_dflt (refine' exc_set ?F ?X ?N ?hx ?hc ?hm ?hd ?hs ?ht ?_; (case F => k_asm); (case X => k_asm); (case N => k_asm); (case hx => k_all); (case hc => k_is); (case hm => exact rfl); (case hd => exact rfl); (case hs => k_is); (case ht => k_is); k_whole); intro d' h' tk' a' b' F' N' l1 l2 l3; (try k_lt l1); (try k_sweep); (try dsimp only); walk_say "EXC SET")))
  (k_with "getAttr ref" => ((k_here; k_dflt (refine' exc_get ?F ?X ?N ?hx ?hdx ?hc ?hm ?hd ?hg ?hk ?ha ?hl ?hv ?_; (case F => k_asm); (case X => k_asm); (case N => k_asm); (case hx => k_mem); (case hdx => k_mem); (case hc => k_is); (case hm => exact rfl); (case hd => exact rfl); (case hg => k_is); (case hk => k_is); (case ha => k_is); (case hl => exact rfl); (case hv => exact rfl); k_whole); intro tk'; walk_say "EXC GET")))
  (k_with "exec Raise some none" => ((k_here; (with_reducible show wpAny _ _ (exec (Stmt.Raise (some (Expr.Call (Expr.Name ("SqlError" : Str) _) _ _ _)) none _) _) _ _ _); refine Raise_own rfl ?_; walk_say "RAISE")))
  (k_with "RaisableD" => ((k_dflt (refine' raisableD ?F ?X ?N ?hm ?q ?_; (case F => k_asm); (case X => k_asm); (case N => k_asm); (case hm => k_mem); (case q => kts_isx); k_whole); walk_say "RAISABLE")))
  (k_with "leaving ref" => ((k_here; k_dflt (refine' leave_raiseD ?K ?F ?N ?ne ?_; (case K => k_asm); (case F => k_asm); (case N => k_asm); (case ne => k_all); k_whole); intro h' R' U'; (try dsimp only at R' U' ⊢); walk_say "LEAVING")))
  (k_with "noteFrame ref" => ((k_here; (with_reducible rename RaisedD _ _ _ _ _ _ _ _ => rsX); k_dflt (refine' caught_D ?R ?F ?K ?U ?XB ?TB ?D ?T0 ?ex ?q ?_; (case R => assumption); (case F => assumption); (case K => assumption); (case U => assumption); (case XB => assumption); (case TB => assumption); (case D => assumption); (case T0 => first | assumption | exact KtsTurn.refl); (case ex => k_is); (case q => kts_isx); k_whole); intro h' g' vs' sl' tk' T' F' N' K' X' P' D'; (try k_lift K'); (try k_sweep); (try dsimp only); walk_say "CAUGHT")))
  (k_with "call ref" => ((k_here; (with_reducible show wpAny _ _ (call (Value.ref 993) [Value.ref _, Value.ref _, Value.int _ _, Value.str _ _]) _ _ _); k_dflt (first   | (refine' refusal_in ?k2 ?k1 ?k3 ?k4 ?k5 ?XB ?TB ?D ?T0 ?kK ?he ?hd ?hl ?h4 ?hc ?hc' ?hz ?h1 ?h2 ?kd ?ku ?_; (case k2 => k_asm); (case k1 => k_asm); (case k3 => k_asm); (case k4 => k_asm); (case k5 => k_asm); (case XB => assumption); (case TB => assumption); (case D => assumption); (case T0 => first | assumption | exact KtsTurn.refl); (case kK => first | exact rfl | assumption); (case he => k_mem); (case hd => k_mem); (case hl => k_mem); (case h4 => omega); (case hc => omega); (case hc' => omega); (case hz => assumption); (case h1 => omega); (case h2 => omega); (case kd => ktr_room); (case ku => ktr_units); k_whole)   | (refine' refusal_out ?k2 ?k1 ?k3 ?k4 ?k5 ?XB ?TB ?D ?T0 ?kK ?he ?hd ?hl ?h4 ?hc ?hc' ?hz ?h1 ?kd ?ku ?_; (case k2 => k_asm); (case k1 => k_asm); (case k3 => k_asm); (case k4 => k_asm); (case k5 => k_asm); (case XB => assumption); (case TB => assumption); (case D => assumption); (case T0 => first | assumption | exact KtsTurn.refl); (case kK => first | exact rfl | assumption); (case he => k_mem); (case hd => k_mem); (case hl => k_mem); (case h4 => omega); (case hc => omega); (case hc' => omega); (case hz => assumption); (case h1 => omega); (case kd => ktr_room); (case ku => ktr_units); k_whole)); intro D' t' h' tk' h₁' T' F' N' B' X' P' D''; (try k_lift B'); (try k_sweep); (try dsimp only); walk_say "REFUSAL")))
  (k_with "call ref" => ((k_here; (with_reducible show wpAny _ _ (call (Value.ref 993) [Value.ref _, Value.ref _, Value.int _ _, Value.str _ _]) _ _ _); k_dflt (refine' refusal_none ?k2 ?k1 ?k3 ?k4 ?k5 ?XB ?TB ?D ?T0 ?kK ?he ?hd ?hl ?kd ?ku ?_; (case k2 => k_asm); (case k1 => k_asm); (case k3 => k_asm); (case k4 => k_asm); (case k5 => k_asm); (case XB => assumption); (case TB => assumption); (case D => assumption); (case T0 => first | assumption | exact KtsTurn.refl); (case kK => first | exact rfl | assumption); (case he => k_mem); (case hd => k_mem); (case hl => k_mem); (case kd => ktr_room); (case ku => ktr_units); k_whole); intro D' h' tk' h₁' T' F' N' B' X' P' D''; (try k_lift B'); (try k_sweep); (try dsimp only); walk_say "REFUSAL0")))
  (k_with "call ref" => ((k_here; (with_reducible show wpAny _ _ (call (Value.ref 979) _) _ _ _); k_dflt (refine' letters_use ?k2 ?k1 ?k3 ?k4 ?k5 ?kK ?kp ?ko ?hx ?kr ?kd ?ku ?_; (case k2 => k_asm); (case k1 => k_asm); (case k3 => k_asm); (case k4 => k_asm); (case k5 => k_asm); (case kK => first | exact rfl | assumption); (case kp => k_mem); (case ko => assumption); (case hx => assumption); (case kr => k_all); (case kd => ktr_room); (case ku => ktr_units); k_whole); intro y' t' o' h' tk' hnm' hso' F' N'; (try k_sweep); (try k_fold); (try dsimp only); walk_say "LETTERS")))
  (k_with "call ref" => ((k_here; (with_reducible show wpAny _ _ (call (Value.ref 972) [Value.ref _, Value.ref _]) _ _ _); k_dflt (first | ((refine' one_use (IsStrOf menu5) ?k1 ?k2 ?k3 ?k4 ?k5 ?kK ?kp ?ko ?kr ?hm ?h2 ?ht ?hP ?kd ?ku ?_; (case k2 => k_asm); (case k1 => k_asm); (case k3 => k_asm); (case k4 => k_asm); (case k5 => k_asm); (case kK => first | exact rfl | assumption); (case kp => k_mem); (case ko => assumption); (case kr => k_all); (case hm => k_mem); (case h2 => exact Nat.le_of_ble_eq_true rfl); (case ht => exact Nat.le_of_ble_eq_true rfl); (case hP => (repeat (first | exact List.forall_mem_nil _ | refine List.forall_mem_cons.mpr ⟨⟨_, _, rfl, by decide +kernel⟩, ?_⟩))); (case kd => ktr_room); (case ku => ktr_units); k_whole)) | ((refine' one_use IsShort ?k1 ?k2 ?k3 ?k4 ?k5 ?kK ?kp ?ko ?kr ?hm ?h2 ?ht ?hP ?kd ?ku ?_; (case k2 => k_asm); (case k1 => k_asm); (case k3 => k_asm); (case k4 => k_asm); (case k5 => k_asm); (case kK => first | exact rfl | assumption); (case kp => k_mem); (case ko => assumption); (case kr => k_all); (case hm => k_mem); (case h2 => exact Nat.le_of_ble_eq_true rfl); (case ht => exact Nat.le_of_ble_eq_true rfl); (case hP => (repeat (first | exact List.forall_mem_nil _ | refine List.forall_mem_cons.mpr ⟨⟨_, _, rfl, by decide +kernel⟩, ?_⟩))); (case kd => ktr_room); (case ku => ktr_units); k_whole))); intro r' o' h' tk' hP' hso' F' N'; k_dflt (obtain ⟨x', t', hr', hx'⟩ := hP'); subst hr'; (try k_sweep); (try k_fold); (try dsimp only); walk_say "ONE")))
  (k_with "size_fits" => (exact Nat.le_of_ble_eq_true rfl))
  (k_with "k_mem" => (((with_reducible show _ ∈ _ :: _); first | with_reducible exact mem_hd | ((with_reducible refine mem_tl ?_); (first | with_reducible exact mem_hd | ((with_reducible refine mem_tl ?_); (first | with_reducible exact mem_hd | ((with_reducible refine mem_tl ?_); (first | with_reducible exact mem_hd | ((with_reducible refine mem_tl ?_); (first | with_reducible exact mem_hd | ((with_reducible refine mem_tl ?_); (first | with_reducible exact mem_hd | ((with_reducible refine mem_tl ?_); (first | with_reducible exact mem_hd | ((with_reducible refine mem_tl ?_); (first | with_reducible exact mem_hd | ((with_reducible refine mem_tl ?_); (first | with_reducible exact mem_hd | ((with_reducible refine mem_tl ?_); (first | with_reducible exact mem_hd | ((with_reducible refine mem_tl ?_); (first | with_reducible exact mem_hd | ((with_reducible refine mem_tl ?_); (first | with_reducible exact mem_hd | ((with_reducible refine mem_tl ?_); (first | with_reducible exact mem_hd | ((with_reducible refine mem_tl ?_); (first | with_reducible exact mem_hd | ((with_reducible refine mem_tl ?_); (first | with_reducible exact mem_hd | ((with_reducible refine mem_tl ?_); (first | with_reducible exact mem_hd | ((with_reducible refine mem_tl ?_); ((first | ktr_member | (refine AllIn.sub (by assumption) _ ?_; ktr_member)))) | (first | ktr_member | (refine AllIn.sub (by assumption) _ ?_; ktr_member)))) | (first | ktr_member | (refine AllIn.sub (by assumption) _ ?_; ktr_member)))) | (first | ktr_member | (refine AllIn.sub (by assumption) _ ?_; ktr_member)))) | (first | ktr_member | (refine AllIn.sub (by assumption) _ ?_; ktr_member)))) | (first | ktr_member | (refine AllIn.sub (by assumption) _ ?_; ktr_member)))) | (first | ktr_member | (refine AllIn.sub (by assumption) _ ?_; ktr_member)))) | (first | ktr_member | (refine AllIn.sub (by assumption) _ ?_; ktr_member)))) | (first | ktr_member | (refine AllIn.sub (by assumption) _ ?_; ktr_member)))) | (first | ktr_member | (refine AllIn.sub (by assumption) _ ?_; ktr_member)))) | (first | ktr_member | (refine AllIn.sub (by assumption) _ ?_; ktr_member)))) | (first | ktr_member | (refine AllIn.sub (by assumption) _ ?_; ktr_member)))) | (first | ktr_member | (refine AllIn.sub (by assumption) _ ?_; ktr_member)))) | (first | ktr_member | (refine AllIn.sub (by assumption) _ ?_; ktr_member)))) | (first | ktr_member | (refine AllIn.sub (by assumption) _ ?_; ktr_member)))) | (first | ktr_member | (refine AllIn.sub (by assumption) _ ?_; ktr_member)))) | (first | ktr_member | (refine AllIn.sub (by assumption) _ ?_; ktr_member)))))
  (k_with "k_all" => (((repeat' (first | with_reducible assumption | exact l9_ne (by with_reducible assumption) | with_reducible refine ne_cons ?_ ?_ | exact ne_l1 (by with_reducible assumption) (by k_mem) | exact ne_l2 (by with_reducible assumption) (by with_reducible assumption) (by k_mem) | exact ne_l3 (by with_reducible assumption) (by with_reducible assumption) (by with_reducible assumption) (by k_mem) | exact ne_l4 (by with_reducible assumption) (by with_reducible assumption) (by with_reducible assumption) (by with_reducible assumption) (by k_mem) | k_ne)); done)))
  (k_with "call ref" => ((k_here; (with_reducible show wpAny _ _ (call (Value.ref 153) _) _ _ _); k_dflt (first | (refine' mk_name_use (mk_name) ?k1 ?k2 ?k3 ?k4 ?k5 ?kK ?kd ?ku ?_; (case k2 => k_asm); (case k1 => k_asm); (case k3 => k_asm); (case k4 => k_asm); (case k5 => k_asm); (case kK => first | exact rfl | assumption); (case kd => ktr_room); (case ku => ktr_units);  k_whole)); (intro E' D' _ _ _ _ _ _ _ _ _ _ _ l1' l2' h' tk' F' N'; (try k_lt l1'); (try k_lt2 l2')); (try k_sweep); (try k_fold); (try dsimp only); walk_say "MK_NAME")))
  (k_with "call ref" => ((k_here; (with_reducible show wpAny _ _ (call (Value.ref 127) _) _ _ _); k_dflt (first | (refine' mk_lit_use (mk_lit) ?k1 ?k2 ?k3 ?k4 ?k5 ?kK ?kd ?ku ?_; (case k2 => k_asm); (case k1 => k_asm); (case k3 => k_asm); (case k4 => k_asm); (case k5 => k_asm); (case kK => first | exact rfl | assumption); (case kd => ktr_room); (case ku => ktr_units);  k_whole)); (intro E' D' _ _ l1' l2' h' tk' F' N'; (try k_lt l1'); (try k_lt2 l2')); (try k_sweep); (try k_fold); (try dsimp only); walk_say "MK_LIT")))
  trivial
section
variable {w : World} {p : Program} {loose : List Str} {mean : ExcName → Option Value} {mg mb : Str → Option Value}
  {dp un : Nat} {gd : Option (List Code)} {cn : Str} {cs : Scope} {a : Addr} {ccd : Value} {cl : List (Str × Addr)} {outer : List Env} {A₀ : Around} {base h₀ : Heap} {L : Addr} {m : Str → Option Value} {s : Shared} {Q E : Value → Shared → Prop}
  {news : Led} {x : Str} {tt : Tok}
theorem wname_use (B : Below A₀ base outer h₀) (F : Fr h₀ L s.heap m) (X : (Mine.kept.heap_1 w.params).In h₀) (N : News h₀ L s.heap news) (T : Top p loose mean mg mb h₀) (hk : cs.kind = .function)
    (hx : x ∈ bare5) (hd : dp + 4 < recursionLimit) (hu : un + 8 * 4 < cLine)
    (ret : ∀ t h' tk', Fr h₀ L h' m → News h₀ L h' news → Q (.str x t) { s with heap := h', toks := tk' }) :
    wpAny (model PG w) (ktrTop dp un gd cn cs L a ccd cl outer) (call (.ref 683) [.str x tt]) Q E s :=
  wname_call hx _ _ _ _ _ _ _ _ _ _ _ _ _ _ _ _ _ B F X N T hk hd hu fun _ _ h' tk' ⟨⟨t, e⟩, e'⟩ F' N' => by
    subst e e'
    exact ret t h' tk' F' N'
end
def litText : Value → Str
  | .int k _ => Str.ofString (toString k)
  | _ => S "NULL"
def LitOk (v : Value) : Prop := v = .none ∨ ∃ k t, v = .int k t ∧ 0 ≤ k ∧ k < 10
section
theorem drop1 {h₀ h : Heap} {L : Addr} {a : Addr × Obj} {rest : Led} (N : News h₀ L h (a :: rest)) : News h₀ L h rest := cb_drop N fun _ hq => .tail _ hq
set_option maxHeartbeats 8000000 in
theorem lev_name {w : World} {p : Program} {loose : List Str} {mean : ExcName → Option Value} {mg mb : Str → Option Value} {news : Led} {e dx : Addr} {C : Nat} {es : List DictEntry} {n1 : Nat} (he : (e, instObj C dx) ∈ news) (hd : (dx, dictOf es n1) ∈ news) (hC : C = 153 ∨ C = 411) :
    CallTo w p loose mean mg mb 709 [.ref e] news 2 (fun r news' => (∃ t, r = .int 12 t) ∧ news' = news) := by
  exact ensure_expected_type% "" (by exact ?walk9 : type_of% (let_mvar% ?walk9 := (by
    intro dp un gd cn cs ac ccd cl outer A₀ base h₀ L m s Q E B F X N T hk hdp hun hret
    rcases hC with rfl | rfl
    all_goals (refine wpAny_call ?_; k_dflt cell_enter)
    k_steps
    all_goals exact hret _ _ _ _ ⟨⟨_, rfl⟩, rfl⟩ (by k_asm) (drop1 (by assumption))
    : _); ?walk9))
set_option maxHeartbeats 8000000 in
theorem lev_lit {w : World} {p : Program} {loose : List Str} {mean : ExcName → Option Value} {mg mb : Str → Option Value} {news : Led} {e dx : Addr} {v1 : Value} {a1 : Int} {t1 : Tok} {n1 : Nat} (he : (e, instObj 127 dx) ∈ news) (hd : (dx, dictOf [⟨a1, .str (Str.ofString "value") t1, v1⟩] n1) ∈ news) (h1 : LitOk v1) :
    CallTo w p loose mean mg mb 709 [.ref e] news 2 (fun r news' => (∃ t, r = .int 12 t) ∧ news' = news) := by
  exact ensure_expected_type% "" (by exact ?walk9 : type_of% (let_mvar% ?walk9 := (by
    intro dp un gd cn cs ac ccd cl outer A₀ base h₀ L m s Q E B F X N T hk hdp hun hret
    rcases h1 with rfl | ⟨i, tt', rfl, hi0, hi9⟩
    all_goals (refine wpAny_call ?_; k_dflt cell_enter)
    k_steps
    all_goals exact hret _ _ _ _ ⟨⟨_, rfl⟩, rfl⟩ (by k_asm) (drop1 (by assumption))
    : _); ?walk9))
set_option maxHeartbeats 8000000 in
theorem lev_plus {w : World} {p : Program} {loose : List Str} {mean : ExcName → Option Value} {mg mb : Str → Option Value} {news : Led} {e dx : Addr} {v2 v3 : Value} {a1 a2 a3 : Int} {t0 t1 t2 t3 : Tok} {n1 : Nat} (he : (e, instObj 231 dx) ∈ news) (hd : (dx, dictOf [⟨a1, .str (Str.ofString "op") t1, .str (Str.ofString "+") t0⟩, ⟨a2, .str (Str.ofString "left") t2, v2⟩, ⟨a3, .str (Str.ofString "right") t3, v3⟩] n1) ∈ news) :
    CallTo w p loose mean mg mb 709 [.ref e] news 2 (fun r news' => (∃ t, r = .int 7 t) ∧ news' = news) := by
  exact ensure_expected_type% "" (by exact ?walk9 : type_of% (let_mvar% ?walk9 := (by
    intro dp un gd cn cs ac ccd cl outer A₀ base h₀ L m s Q E B F X N T hk hdp hun hret
    refine wpAny_call ?_
    k_dflt cell_enter
    k_steps
    all_goals exact hret _ _ _ _ ⟨⟨_, rfl⟩, rfl⟩ (by k_asm) (by assumption)
    : _); ?walk9))
end
theorem nil_end {x : Str} {t : Tok} : ∃ t', Value.str (Str.ofString "" ++ x) t = .str x t' := ⟨t, congrArg (fun y => Value.str y t) (show Str.ofString "" ++ x = x from (Str.empty_append x))⟩
section
variable {sw dw e dx : Addr} {x : Str} {k i : Int} {tt tk : Tok} {v0 v1 v3 v4 v5 : Value} {a0 a1 a2 a3 a4 a5 : Int} {t0 t1 t2 t3 t4 t5 t9 : Tok} {n0 n1 : Nat}
theorem rows28 : True := by
  w_top off
  (k_with "call ref" => ((k_here; (with_reducible show wpAny _ _ (call (Value.ref 683) _) _ _ _); k_dflt (first | (refine' call_str (wname_call ?hx) ?k1 ?k2 ?k3 ?k4 ?k5 ?kK ?kd ?ku ?_; (case k2 => k_asm); (case k1 => k_asm); (case k3 => k_asm); (case k4 => k_asm); (case k5 => k_asm); (case kK => first | exact rfl | assumption); (case kd => ktr_room); (case ku => ktr_units); (case hx => assumption); k_whole)); (intro t' h' tk' F' N'); (try k_sweep); (try k_fold); (try dsimp only); walk_say "WNAME")))
  (k_with "call ref" => ((k_here; (with_reducible show wpAny _ _ (call (Value.ref 709) _) _ _ _); k_dflt (first | (refine' call_str (lev_name (C := 153) ?he ?hd (.inl rfl)) ?k1 ?k2 ?k3 ?k4 ?k5 ?kK ?kd ?ku ?_; (case k2 => k_asm); (case k1 => k_asm); (case k3 => k_asm); (case k4 => k_asm); (case k5 => k_asm); (case kK => first | exact rfl | assumption); (case kd => ktr_room); (case ku => ktr_units); (case he => k_mem); (case hd => k_mem); k_whole) | (refine' call_str (lev_lit ?he ?hd ?h1) ?k1 ?k2 ?k3 ?k4 ?k5 ?kK ?kd ?ku ?_; (case k2 => k_asm); (case k1 => k_asm); (case k3 => k_asm); (case k4 => k_asm); (case k5 => k_asm); (case kK => first | exact rfl | assumption); (case kd => ktr_room); (case ku => ktr_units); (case he => k_mem); (case hd => k_mem); (case h1 => assumption); k_whole)); (intro t' h' tk' F' N'); (try k_sweep); (try k_fold); (try dsimp only); walk_say "LEVEL")))
  trivial
set_option maxHeartbeats 8000000 in
theorem wr_name2 {w : World} {p : Program} {loose : List Str} {mean : ExcName → Option Value} {mg mb : Str → Option Value} {news : Led}
    (hs : (sw, instObj 767 dw) ∈ news) (hw : (dw, dictOf [⟨a0, .str (Str.ofString "selects") t0, v0⟩] n0) ∈ news) (he : (e, instObj 153 dx) ∈ news) (hd : (dx, dictOf [⟨a1, .str (Str.ofString "table") t1, .none⟩, ⟨a2, .str (Str.ofString "column") t2, .str x tt⟩, ⟨a3, .str (Str.ofString "source") t3, v3⟩, ⟨a4, .str (Str.ofString "place") t4, v4⟩, ⟨a5, .str (Str.ofString "depth") t5, v5⟩] n1) ∈ news) (hx : x ∈ bare5) :
    CallTo w p loose mean mg mb 731 [.ref sw, .ref e] news 7 (fun r news' => (∃ t, r = .str (x) t) ∧ news' = news) := by
  exact ensure_expected_type% "" (by exact ?walk9 : type_of% (let_mvar% ?walk9 := (by
    intro dp un gd cn cs ac ccd cl outer A₀ base h₀ L m s Q E B F X N T hk hdp hun hret
    have hx5 := (bare_facts x hx).1.2
    all_goals (refine wpAny_call ?_; k_dflt (refine' code_def ?k1 ?k2 ?k3 ?k4 ?k5 ?kA ?kF ?kK ?k6 ?k7 ?k8 ?k9 ?kB ?_ ?c2 ?c3 ?c4 ?c5; (case kA => exact rfl); (case kF => exact rfl); (case kK => assumption); (case k1 => k_asm); (case k2 => k_asm); (case k3 => k_asm); (case k4 => k_asm); (case k5 => k_asm); (case k6 => k_is); (case k7 => k_is); (case k8 => ktr_room); (case k9 => (refine' kp_binds ?kx ?ke; (case kx => k_in); (case ke => exact fun _ => rfl))); (case c5 => decide); (case kB => exact locs rfl); (case c2 => exact rfl); (case c3 => exact rfl); (case c4 => exact rfl); k_whole; intro g' L' h' FG' F' N' B' X' T'; (try dsimp only); (try k_lift B'); (try k_fold)))
    k_steps
    all_goals exact hret _ _ _ _ ⟨by first | exact ⟨_, rfl⟩ | exact nil_end, rfl⟩ (by k_asm) (cb_drop (by assumption) fun _ h => by first | exact h | exact .tail _ h | exact .tail _ (.tail _ h) | exact .tail _ (.tail _ (.tail _ h)))
    : _); ?walk9))
set_option maxHeartbeats 8000000 in
theorem wr_name3 {w : World} {p : Program} {loose : List Str} {mean : ExcName → Option Value} {mg mb : Str → Option Value} {news : Led}
    (hs : (sw, instObj 767 dw) ∈ news) (hw : (dw, dictOf [⟨a0, .str (Str.ofString "selects") t0, v0⟩] n0) ∈ news) (he : (e, instObj 153 dx) ∈ news) (hd : (dx, dictOf [⟨a1, .str (Str.ofString "table") t1, .str (S "t") t9⟩, ⟨a2, .str (Str.ofString "column") t2, .str x tt⟩, ⟨a3, .str (Str.ofString "source") t3, v3⟩, ⟨a4, .str (Str.ofString "place") t4, v4⟩, ⟨a5, .str (Str.ofString "depth") t5, v5⟩] n1) ∈ news) (hx : x ∈ bare5) (hk' : k ≤ 12) :
    CallTo w p loose mean mg mb 731 [.ref sw, .ref e, .int k tk] news 7 (fun r news' => (∃ t, r = .str (S "t." ++ x) t) ∧ news' = news) := by
  exact ensure_expected_type% "" (by exact ?walk9 : type_of% (let_mvar% ?walk9 := (by
    intro dp un gd cn cs ac ccd cl outer A₀ base h₀ L m s Q E B F X N T hk hdp hun hret
    have hx5 := (bare_facts x hx).1.2
    have htb : S "t" ∈ bare5 := by decide
    all_goals (refine wpAny_call ?_; k_dflt (refine' code_def ?k1 ?k2 ?k3 ?k4 ?k5 ?kA ?kF ?kK ?k6 ?k7 ?k8 ?k9 ?kB ?_ ?c2 ?c3 ?c4 ?c5; (case kA => exact rfl); (case kF => exact rfl); (case kK => assumption); (case k1 => k_asm); (case k2 => k_asm); (case k3 => k_asm); (case k4 => k_asm); (case k5 => k_asm); (case k6 => k_is); (case k7 => k_is); (case k8 => ktr_room); (case k9 => (refine' kp_binds ?kx ?ke; (case kx => k_in); (case ke => exact fun _ => rfl))); (case c5 => decide); (case kB => exact locs rfl); (case c2 => exact rfl); (case c3 => exact rfl); (case c4 => exact rfl); k_whole; intro g' L' h' FG' F' N' B' X' T'; (try dsimp only); (try k_lift B'); (try k_fold)))
    k_steps
    all_goals exact hret _ _ _ _ ⟨by first | exact ⟨_, rfl⟩ | exact nil_end, rfl⟩ (by k_asm) (cb_drop (by assumption) fun _ h => by first | exact h | exact .tail _ h | exact .tail _ (.tail _ h) | exact .tail _ (.tail _ (.tail _ h)))
    : _); ?walk9))
set_option maxHeartbeats 8000000 in
theorem wr_lit2 {w : World} {p : Program} {loose : List Str} {mean : ExcName → Option Value} {mg mb : Str → Option Value} {news : Led}
    (hs : (sw, instObj 767 dw) ∈ news) (hw : (dw, dictOf [⟨a0, .str (Str.ofString "selects") t0, v0⟩] n0) ∈ news) (he : (e, instObj 127 dx) ∈ news) (hd : (dx, dictOf [⟨a1, .str (Str.ofString "value") t1, v1⟩] n1) ∈ news) (h1 : LitOk v1) :
    CallTo w p loose mean mg mb 731 [.ref sw, .ref e] news 7 (fun r news' => (∃ t, r = .str (litText v1) t) ∧ news' = news) := by
  exact ensure_expected_type% "" (by exact ?walk9 : type_of% (let_mvar% ?walk9 := (by
    intro dp un gd cn cs ac ccd cl outer A₀ base h₀ L m s Q E B F X N T hk hdp hun hret
    have h2 := h1
    rcases h2 with rfl | ⟨i, tt', rfl, hi0, hi9⟩
    all_goals (refine wpAny_call ?_; k_dflt (refine' code_def ?k1 ?k2 ?k3 ?k4 ?k5 ?kA ?kF ?kK ?k6 ?k7 ?k8 ?k9 ?kB ?_ ?c2 ?c3 ?c4 ?c5; (case kA => exact rfl); (case kF => exact rfl); (case kK => assumption); (case k1 => k_asm); (case k2 => k_asm); (case k3 => k_asm); (case k4 => k_asm); (case k5 => k_asm); (case k6 => k_is); (case k7 => k_is); (case k8 => ktr_room); (case k9 => (refine' kp_binds ?kx ?ke; (case kx => k_in); (case ke => exact fun _ => rfl))); (case c5 => decide); (case kB => exact locs rfl); (case c2 => exact rfl); (case c3 => exact rfl); (case c4 => exact rfl); k_whole; intro g' L' h' FG' F' N' B' X' T'; (try dsimp only); (try k_lift B'); (try k_fold)))
    k_steps
    all_goals exact hret _ _ _ _ ⟨by first | exact ⟨_, rfl⟩ | exact nil_end, rfl⟩ (by k_asm) (cb_drop (by assumption) fun _ h => by first | exact h | exact .tail _ h | exact .tail _ (.tail _ h) | exact .tail _ (.tail _ (.tail _ h)))
    : _); ?walk9))
set_option maxHeartbeats 8000000 in
theorem wr_lit3 {w : World} {p : Program} {loose : List Str} {mean : ExcName → Option Value} {mg mb : Str → Option Value} {news : Led}
    (hs : (sw, instObj 767 dw) ∈ news) (hw : (dw, dictOf [⟨a0, .str (Str.ofString "selects") t0, v0⟩] n0) ∈ news) (he : (e, instObj 127 dx) ∈ news) (hd : (dx, dictOf [⟨a1, .str (Str.ofString "value") t1, (.int k tt)⟩] n1) ∈ news) (h0 : 0 ≤ k) (h9 : k < 10) (hk' : i ≤ 12) :
    CallTo w p loose mean mg mb 731 [.ref sw, .ref e, .int i tk] news 7 (fun r news' => (∃ t, r = .str (Str.ofString (toString k)) t) ∧ news' = news) := by
  exact ensure_expected_type% "" (by exact ?walk9 : type_of% (let_mvar% ?walk9 := (by
    intro dp un gd cn cs ac ccd cl outer A₀ base h₀ L m s Q E B F X N T hk hdp hun hret
    have h1 : LitOk (.int k tt) := .inr ⟨k, tt, rfl, h0, h9⟩
    all_goals (refine wpAny_call ?_; k_dflt (refine' code_def ?k1 ?k2 ?k3 ?k4 ?k5 ?kA ?kF ?kK ?k6 ?k7 ?k8 ?k9 ?kB ?_ ?c2 ?c3 ?c4 ?c5; (case kA => exact rfl); (case kF => exact rfl); (case kK => assumption); (case k1 => k_asm); (case k2 => k_asm); (case k3 => k_asm); (case k4 => k_asm); (case k5 => k_asm); (case k6 => k_is); (case k7 => k_is); (case k8 => ktr_room); (case k9 => (refine' kp_binds ?kx ?ke; (case kx => k_in); (case ke => exact fun _ => rfl))); (case c5 => decide); (case kB => exact locs rfl); (case c2 => exact rfl); (case c3 => exact rfl); (case c4 => exact rfl); k_whole; intro g' L' h' FG' F' N' B' X' T'; (try dsimp only); (try k_lift B'); (try k_fold)))
    k_steps
    all_goals exact hret _ _ _ _ ⟨by first | exact ⟨_, rfl⟩ | exact nil_end, rfl⟩ (by k_asm) (cb_drop (by assumption) fun _ h => by first | exact h | exact .tail _ h | exact .tail _ (.tail _ h) | exact .tail _ (.tail _ (.tail _ h)))
    : _); ?walk9))
end
theorem rows29 : True := by
  w_top off
  k_with_none
  (k_with "execs cons" => ((k_here; (with_reducible refine gen_toks (P := fun k => wpAny _ _ _ _ _ ⟨_, _, _, k, _⟩) (_ + _) ?_); intro tk9'; walk_say "TOKS")))
  (k_with "eval Name" => ((k_here; name_kind "globalImplicit"; k_dflt (refine' nameX_K ?F ?X ?T ?e ?_ ?a ?b; (case F => k_asm); (case X => k_asm); (case T => k_asm); (case a => kernel_rfl!); (case b => kernel_rfl!); (case e => k_is); k_whole))))
  (k_with "eval Name" => ((k_here; name_kind "local"; k_dflt (refine' nameX_L ?F ?v ?_ ?a ?b; (case F => k_asm); (case a => kernel_rfl!); (case b => kernel_rfl!); (case v => rfl); k_whole))))
  (k_with "execs nil" => ((k_here; (with_reducible refine gen_toks (P := fun k => wpAny _ _ _ _ _ ⟨_, _, _, k, _⟩) (_ + _) ?_); intro tk9'; walk_say "TOKS")))
  (k_with "eval Name" => ((k_here; name_kind "globalImplicit"; name_is_builtin; k_dflt (refine' nameX_B ?F ?X ?T ?e ?v ?n ?_ ?a ?b; (case F => k_asm); (case X => k_asm); (case T => k_asm); (case a => kernel_rfl!); (case b => kernel_rfl!); (case e => k_is); (case v => boot_fast); (case n => decide); k_whole))))
  (k_with "ite" => ((k_closed; first | with_reducible refine ite_ff ?_ | with_reducible refine ite_tt ?_ | k_dflt (first | refine ite_t rfl ?_ | refine ite_f rfl ?_))))
  (k_with "call builtin:isinstance" => ((k_here; k_dflt (refine' isi_call ?k1 ?k2 ?k3 ?k4 ?_; (case k1 => k_in); (case k2 => k_types); (case k3 => k_is); (case k4 => intro e; cases e); k_whole))))
  (k_with "ktr_room" => (k_dflt (first | exact room2 (by with_reducible assumption) (by decide) | exact room1 (by with_reducible assumption) rfl | exact room0 (by with_reducible assumption))))
  (k_with "ktr_units" => (k_dflt (first | exact units2 (by with_reducible assumption) (by decide) | exact units1 (by with_reducible assumption) rfl | exact units0 (by with_reducible assumption) rfl | exact room0 (by with_reducible assumption))))
  (k_with "k_in" => (first | with_reducible assumption | exact Frag.In.keeps (by with_reducible assumption) (Fr.keep (by with_reducible assumption))))
  (k_with "call builtin:isinstance" => ((k_here; (with_reducible show wpAny _ _ (call _ [Value.ref _, Value.ref _]) _ _ _); k_dflt (refine' kin_callC ?k1 ?k2 ?k3 ?k4 ?k5 ?k6 ?k7 ?k8 ?k9 ?_; (case k1 => k_in); (case k2 => k_inst); (case k3 => kin_no); (case k4 => k_is); (case k5 => k_is); (case k6 => k_is); (case k7 => k_is); (case k8 => k_is); (case k9 => k_is); k_whole))))
  (k_with "getAttr ref" => ((k_here; k_dflt (refine' get_own ?k1 ?k2 ?k3 ?k4 ?k5 ?k6 ?k7 ?k8 ?k9 ?_; (case k1 => k_asm); (case k2 => k_asm); (case k3 => k_inst); (case k4 => k_is); (case k5 => k_is); (case k6 => k_is); (case k7 => k_is); (case k8 => k_get); (case k9 => k_handed); k_whole))))
  (k_with "k_room" => (ktr_room))
  (k_with "k_units" => (ktr_units))
  (k_with "k_all" => (assumption))
  (k_with "k_mem" => (first | assumption | ((with_reducible show Pick _ _ _); first | exact Pick.head | exact Pick.tail (Pick.head) | exact Pick.tail (Pick.tail (Pick.head)) | exact Pick.tail (Pick.tail (Pick.tail (Pick.head))) | exact Pick.tail (Pick.tail (Pick.tail (Pick.tail (Pick.head)))) | exact Pick.tail (Pick.tail (Pick.tail (Pick.tail (Pick.tail (Pick.head))))) | exact Pick.tail (Pick.tail (Pick.tail (Pick.tail (Pick.tail (Pick.tail (Pick.head)))))) | exact Pick.tail (Pick.tail (Pick.tail (Pick.tail (Pick.tail (Pick.tail (Pick.tail (Pick.head))))))) | exact Pick.t8 (Pick.head) | exact Pick.t8 (Pick.tail (Pick.head)) | exact Pick.t8 (Pick.tail (Pick.tail (Pick.head))) | exact Pick.t8 (Pick.tail (Pick.tail (Pick.tail (Pick.head)))) | exact Pick.t8 (Pick.tail (Pick.tail (Pick.tail (Pick.tail (Pick.head))))) | exact Pick.t8 (Pick.tail (Pick.tail (Pick.tail (Pick.tail (Pick.tail (Pick.head)))))) | exact Pick.t8 (Pick.tail (Pick.tail (Pick.tail (Pick.tail (Pick.tail (Pick.tail (Pick.head))))))) | exact Pick.t8 (Pick.tail (Pick.tail (Pick.tail (Pick.tail (Pick.tail (Pick.tail (Pick.tail (Pick.head)))))))) | exact Pick.t8 (Pick.t8 (Pick.head)) | exact Pick.t8 (Pick.t8 (Pick.tail (Pick.head))) | exact Pick.t8 (Pick.t8 (Pick.tail (Pick.tail (Pick.head)))) | exact Pick.t8 (Pick.t8 (Pick.tail (Pick.tail (Pick.tail (Pick.head))))) | exact Pick.t8 (Pick.t8 (Pick.tail (Pick.tail (Pick.tail (Pick.tail (Pick.head)))))) | exact Pick.t8 (Pick.t8 (Pick.tail (Pick.tail (Pick.tail (Pick.tail (Pick.tail (Pick.head))))))) | exact Pick.t8 (Pick.t8 (Pick.tail (Pick.tail (Pick.tail (Pick.tail (Pick.tail (Pick.tail (Pick.head)))))))) | exact Pick.t8 (Pick.t8 (Pick.tail (Pick.tail (Pick.tail (Pick.tail (Pick.tail (Pick.tail (Pick.tail (Pick.head))))))))) | exact Pick.t8 (Pick.t8 (Pick.t8 (Pick.head))) | exact Pick.t8 (Pick.t8 (Pick.t8 (Pick.tail (Pick.head)))) | exact Pick.t8 (Pick.t8 (Pick.t8 (Pick.tail (Pick.tail (Pick.head))))) | exact Pick.t8 (Pick.t8 (Pick.t8 (Pick.tail (Pick.tail (Pick.tail (Pick.head)))))) | exact Pick.t8 (Pick.t8 (Pick.t8 (Pick.tail (Pick.tail (Pick.tail (Pick.tail (Pick.head))))))) | exact Pick.t8 (Pick.t8 (Pick.t8 (Pick.tail (Pick.tail (Pick.tail (Pick.tail (Pick.tail (Pick.head)))))))) | exact Pick.t8 (Pick.t8 (Pick.t8 (Pick.tail (Pick.tail (Pick.tail (Pick.tail (Pick.tail (Pick.tail (Pick.head))))))))) | exact Pick.t8 (Pick.t8 (Pick.t8 (Pick.tail (Pick.tail (Pick.tail (Pick.tail (Pick.tail (Pick.tail (Pick.tail (Pick.head)))))))))) | exact Pick.t8 (Pick.t8 (Pick.t8 (Pick.t8 (Pick.head)))) | exact Pick.t8 (Pick.t8 (Pick.t8 (Pick.t8 (Pick.tail (Pick.head))))) | exact Pick.t8 (Pick.t8 (Pick.t8 (Pick.t8 (Pick.tail (Pick.tail (Pick.head)))))) | exact Pick.t8 (Pick.t8 (Pick.t8 (Pick.t8 (Pick.tail (Pick.tail (Pick.tail (Pick.head))))))) | exact Pick.t8 (Pick.t8 (Pick.t8 (Pick.t8 (Pick.tail (Pick.tail (Pick.tail (Pick.tail (Pick.head)))))))) | exact Pick.t8 (Pick.t8 (Pick.t8 (Pick.t8 (Pick.tail (Pick.tail (Pick.tail (Pick.tail (Pick.tail (Pick.head))))))))) | exact Pick.t8 (Pick.t8 (Pick.t8 (Pick.t8 (Pick.tail (Pick.tail (Pick.tail (Pick.tail (Pick.tail (Pick.tail (Pick.head)))))))))) | exact Pick.t8 (Pick.t8 (Pick.t8 (Pick.t8 (Pick.tail (Pick.tail (Pick.tail (Pick.tail (Pick.tail (Pick.tail (Pick.tail (Pick.head))))))))))) | exact Pick.t8 (Pick.t8 (Pick.t8 (Pick.t8 (Pick.t8 (Pick.head))))) | exact Pick.t8 (Pick.t8 (Pick.t8 (Pick.t8 (Pick.t8 (Pick.tail (Pick.head)))))) | exact Pick.t8 (Pick.t8 (Pick.t8 (Pick.t8 (Pick.t8 (Pick.tail (Pick.tail (Pick.head))))))) | exact Pick.t8 (Pick.t8 (Pick.t8 (Pick.t8 (Pick.t8 (Pick.tail (Pick.tail (Pick.tail (Pick.head)))))))) | exact Pick.t8 (Pick.t8 (Pick.t8 (Pick.t8 (Pick.t8 (Pick.tail (Pick.tail (Pick.tail (Pick.tail (Pick.head))))))))) | exact Pick.t8 (Pick.t8 (Pick.t8 (Pick.t8 (Pick.t8 (Pick.tail (Pick.tail (Pick.tail (Pick.tail (Pick.tail (Pick.head)))))))))) | exact Pick.t8 (Pick.t8 (Pick.t8 (Pick.t8 (Pick.t8 (Pick.tail (Pick.tail (Pick.tail (Pick.tail (Pick.tail (Pick.tail (Pick.head))))))))))) | exact Pick.t8 (Pick.t8 (Pick.t8 (Pick.t8 (Pick.t8 (Pick.tail (Pick.tail (Pick.tail (Pick.tail (Pick.tail (Pick.tail (Pick.tail (Pick.head)))))))))))) | exact Pick.t8 (Pick.t8 (Pick.t8 (Pick.t8 (Pick.t8 (Pick.t8 (Pick.head)))))) | exact Pick.t8 (Pick.t8 (Pick.t8 (Pick.t8 (Pick.t8 (Pick.t8 (Pick.tail (Pick.head))))))) | exact Pick.t8 (Pick.t8 (Pick.t8 (Pick.t8 (Pick.t8 (Pick.t8 (Pick.tail (Pick.tail (Pick.head)))))))) | exact Pick.t8 (Pick.t8 (Pick.t8 (Pick.t8 (Pick.t8 (Pick.t8 (Pick.tail (Pick.tail (Pick.tail (Pick.head))))))))) | exact Pick.t8 (Pick.t8 (Pick.t8 (Pick.t8 (Pick.t8 (Pick.t8 (Pick.tail (Pick.tail (Pick.tail (Pick.tail (Pick.head)))))))))) | exact Pick.t8 (Pick.t8 (Pick.t8 (Pick.t8 (Pick.t8 (Pick.t8 (Pick.tail (Pick.tail (Pick.tail (Pick.tail (Pick.tail (Pick.head))))))))))) | exact Pick.t8 (Pick.t8 (Pick.t8 (Pick.t8 (Pick.t8 (Pick.t8 (Pick.tail (Pick.tail (Pick.tail (Pick.tail (Pick.tail (Pick.tail (Pick.head)))))))))))) | exact Pick.t8 (Pick.t8 (Pick.t8 (Pick.t8 (Pick.t8 (Pick.t8 (Pick.tail (Pick.tail (Pick.tail (Pick.tail (Pick.tail (Pick.tail (Pick.tail (Pick.head)))))))))))))) | exact List.Mem.tail _ (by assumption)))
  (k_with "call ref" => ((k_here; (with_reducible show wpAny _ _ (call (Value.ref 965) _) _ _ _); k_dflt (refine' take_use ?k1 ?k2 ?k3 ?k4 ?k5 ?kK ?kp ?ko ?kr ?h2 ?ht ?kd ?ku ?_; (case k2 => k_asm); (case k1 => k_asm); (case k3 => k_asm); (case k4 => k_asm); (case k5 => k_asm); (case kK => first | exact rfl | assumption); (case kp => k_mem); (case ko => assumption); (case kr => k_all); (case h2 => omega); (case ht => omega); (case kd => ktr_room); (case ku => ktr_units); k_whole); intro d' t' o' h' tk' hd0' hd1' hso' F' N'; (try k_sweep); (try k_fold); (try dsimp only); walk_say "TAKE")))
  (k_with "call ref" => ((k_here; (with_reducible show wpAny _ _ (call (Value.ref 58) _) _ _ _); k_dflt (refine' fold_use ?k1 ?k2 ?k3 ?k4 ?k5 ?kK ?kn ?kd ?ku ?_; (case k2 => k_asm); (case k1 => k_asm); (case k3 => k_asm); (case k4 => k_asm); (case k5 => k_asm); (case kK => first | exact rfl | assumption); (case kn => assumption); (case kd => ktr_room); (case ku => ktr_units); k_whole); intro t' h' tk' F' N'; (try k_sweep); (try k_fold); (try dsimp only); walk_say "FOLD")))
  (k_with "call ref" => ((k_here; (with_reducible show wpAny _ _ (call (Value.ref 986) _) _ _ _); k_dflt (refine' lordinal_use ?k1 ?k2 ?k3 ?k4 ?k5 ?kK ?h0 ?h1 ?kd ?ku ?_; (case k2 => k_asm); (case k1 => k_asm); (case k3 => k_asm); (case k4 => k_asm); (case k5 => k_asm); (case kK => first | exact rfl | assumption); (case h0 => omega); (case h1 => omega); (case kd => ktr_room); (case ku => ktr_units); k_whole); intro t' h' tk' hol' F' N'; (try k_sweep); (try k_fold); (try dsimp only); walk_say "LORDINAL")))
  (k_with "call ref" => ((k_here; (with_reducible show wpAny _ _ (call (Value.ref 852) _) _ _ _); k_dflt (refine' ordinal_use ?k1 ?k2 ?k3 ?k4 ?k5 ?kK ?h0 ?h1 ?kd ?ku ?_; (case k2 => k_asm); (case k1 => k_asm); (case k3 => k_asm); (case k4 => k_asm); (case k5 => k_asm); (case kK => first | exact rfl | assumption); (case h0 => omega); (case h1 => omega); (case kd => ktr_room); (case ku => ktr_units); k_whole); intro t' h' tk' hol' F' N'; (try k_sweep); (try k_fold); (try dsimp only); walk_say "ORDINAL")))
  (k_with "call builtin:len" => ((k_here; (with_reducible show wpAny _ _ (call (Value.builtin "len") [Value.ref _]) _ _ _); k_dflt (refine' len_short ?N ?m ?f ?_; (case N => k_asm); (case m => k_mem); (case f => omega); k_whole))))
  (k_with "call ref" => ((k_here; (with_reducible show wpAny _ _ (call (Value.ref 866) _) _ _ _); k_dflt (refine' alias_use ?k1 ?k2 ?k3 ?k4 ?k5 ?kK ?ke ?kD ?kv ?kl ?kn ?k9 ?kd ?ku ?_; (case k2 => k_asm); (case k1 => k_asm); (case k3 => k_asm); (case k4 => k_asm); (case k5 => k_asm); (case kK => first | exact rfl | assumption); (case ke => k_mem); (case kD => k_mem); (case kv => assumption); (case kl => k_mem); (case kn => assumption); (case k9 => assumption); (case kd => ktr_room); (case ku => ktr_units); k_whole); intro t' h' tk' F' N'; (try k_sweep); (try k_fold); (try dsimp only); walk_say "ALIAS")))
  (k_with "call ref" => ((k_here; (with_reducible show wpAny _ _ (call (Value.ref 51) _) _ _ _); k_dflt (refine' exc_make ?F ?X ?N ?hC ?b1 ?b2 ?b3 ?hv ?hi ?hf ?_; (case F => k_asm); (case X => k_asm); (case N => k_asm); (case hC => k_is); (case b1 => decide +kernel); (case b2 => decide +kernel); (case b3 => decide +kernel); (case hv => exact Nat.le_of_ble_eq_true rfl); (case hi => k_is); (case hf => k_is); k_whole); intro e' T' h' F' N' l1 l2 l3; (try k_lt l1); (try k_lt2 l2); (try k_sweep); k_enter; walk_say "EXC MADE")))
  (k_with "setAttr ref" => ((k_here; k_dflt (refine' exc_set ?F ?X ?N ?hx ?hc ?hm ?hd ?hs ?ht ?_; (case F => k_asm); (case X => k_asm); (case N => k_asm); (case hx => k_all); (case hc => k_is); (case hm => exact rfl); (case hd => exact rfl); (case hs => k_is); (case ht => k_is); k_whole); intro d' h' tk' a' b' F' N' l1 l2 l3; (try k_lt l1); (try k_sweep); (try dsimp only); walk_say "EXC SET")))
  (k_with "getAttr ref" => ((k_here; k_dflt (refine' exc_get ?F ?X ?N ?hx ?hdx ?hc ?hm ?hd ?hg ?hk ?ha ?hl ?hv ?_; (case F => k_asm); (case X => k_asm); (case N => k_asm); (case hx => k_mem); (case hdx => k_mem); (case hc => k_is); (case hm => exact rfl); (case hd => exact rfl); (case hg => k_is); (case hk => k_is); (case ha => k_is); (case hl => exact rfl); (case hv => exact rfl); k_whole); intro tk'; walk_say "EXC GET")))
  (k_with "exec Raise some none" => ((k_here; (with_reducible show wpAny _ _ (exec (Stmt.Raise (some (Expr.Call (Expr.Name ("SqlError" : Str) _) _ _ _)) none _) _) _ _ _); refine Raise_own rfl ?_; walk_say "RAISE")))
  (k_with "RaisableD" => ((k_dflt (refine' raisableD ?F ?X ?N ?hm ?q ?_; (case F => k_asm); (case X => k_asm); (case N => k_asm); (case hm => k_mem); (case q => kts_isx); k_whole); walk_say "RAISABLE")))
  (k_with "leaving ref" => ((k_here; k_dflt (refine' leave_raiseD ?K ?F ?N ?ne ?_; (case K => k_asm); (case F => k_asm); (case N => k_asm); (case ne => k_all); k_whole); intro h' R' U'; (try dsimp only at R' U' ⊢); walk_say "LEAVING")))
  (k_with "noteFrame ref" => ((k_here; (with_reducible rename RaisedD _ _ _ _ _ _ _ _ => rsX); k_dflt (refine' caught_D ?R ?F ?K ?U ?XB ?TB ?D ?T0 ?ex ?q ?_; (case R => assumption); (case F => assumption); (case K => assumption); (case U => assumption); (case XB => assumption); (case TB => assumption); (case D => assumption); (case T0 => first | assumption | exact KtsTurn.refl); (case ex => k_is); (case q => kts_isx); k_whole); intro h' g' vs' sl' tk' T' F' N' K' X' P' D'; (try k_lift K'); (try k_sweep); (try dsimp only); walk_say "CAUGHT")))
  (k_with "call ref" => ((k_here; (with_reducible show wpAny _ _ (call (Value.ref 993) [Value.ref _, Value.ref _, Value.int _ _, Value.str _ _]) _ _ _); k_dflt (first   | (refine' refusal_in ?k2 ?k1 ?k3 ?k4 ?k5 ?XB ?TB ?D ?T0 ?kK ?he ?hd ?hl ?h4 ?hc ?hc' ?hz ?h1 ?h2 ?kd ?ku ?_; (case k2 => k_asm); (case k1 => k_asm); (case k3 => k_asm); (case k4 => k_asm); (case k5 => k_asm); (case XB => assumption); (case TB => assumption); (case D => assumption); (case T0 => first | assumption | exact KtsTurn.refl); (case kK => first | exact rfl | assumption); (case he => k_mem); (case hd => k_mem); (case hl => k_mem); (case h4 => omega); (case hc => omega); (case hc' => omega); (case hz => assumption); (case h1 => omega); (case h2 => omega); (case kd => ktr_room); (case ku => ktr_units); k_whole)   | (refine' refusal_out ?k2 ?k1 ?k3 ?k4 ?k5 ?XB ?TB ?D ?T0 ?kK ?he ?hd ?hl ?h4 ?hc ?hc' ?hz ?h1 ?kd ?ku ?_; (case k2 => k_asm); (case k1 => k_asm); (case k3 => k_asm); (case k4 => k_asm); (case k5 => k_asm); (case XB => assumption); (case TB => assumption); (case D => assumption); (case T0 => first | assumption | exact KtsTurn.refl); (case kK => first | exact rfl | assumption); (case he => k_mem); (case hd => k_mem); (case hl => k_mem); (case h4 => omega); (case hc => omega); (case hc' => omega); (case hz => assumption); (case h1 => omega); (case kd => ktr_room); (case ku => ktr_units); k_whole)); intro D' t' h' tk' h₁' T' F' N' B' X' P' D''; (try k_lift B'); (try k_sweep); (try dsimp only); walk_say "REFUSAL")))
  (k_with "call ref" => ((k_here; (with_reducible show wpAny _ _ (call (Value.ref 993) [Value.ref _, Value.ref _, Value.int _ _, Value.str _ _]) _ _ _); k_dflt (refine' refusal_none ?k2 ?k1 ?k3 ?k4 ?k5 ?XB ?TB ?D ?T0 ?kK ?he ?hd ?hl ?kd ?ku ?_; (case k2 => k_asm); (case k1 => k_asm); (case k3 => k_asm); (case k4 => k_asm); (case k5 => k_asm); (case XB => assumption); (case TB => assumption); (case D => assumption); (case T0 => first | assumption | exact KtsTurn.refl); (case kK => first | exact rfl | assumption); (case he => k_mem); (case hd => k_mem); (case hl => k_mem); (case kd => ktr_room); (case ku => ktr_units); k_whole); intro D' h' tk' h₁' T' F' N' B' X' P' D''; (try k_lift B'); (try k_sweep); (try dsimp only); walk_say "REFUSAL0")))
  (k_with "call ref" => ((k_here; (with_reducible show wpAny _ _ (call (Value.ref 979) _) _ _ _); k_dflt (refine' letters_use ?k2 ?k1 ?k3 ?k4 ?k5 ?kK ?kp ?ko ?hx ?kr ?kd ?ku ?_; (case k2 => k_asm); (case k1 => k_asm); (case k3 => k_asm); (case k4 => k_asm); (case k5 => k_asm); (case kK => first | exact rfl | assumption); (case kp => k_mem); (case ko => assumption); (case hx => assumption); (case kr => k_all); (case kd => ktr_room); (case ku => ktr_units); k_whole); intro y' t' o' h' tk' hnm' hso' F' N'; (try k_sweep); (try k_fold); (try dsimp only); walk_say "LETTERS")))
  (k_with "call ref" => ((k_here; (with_reducible show wpAny _ _ (call (Value.ref 972) [Value.ref _, Value.ref _]) _ _ _); k_dflt (first | ((refine' one_use (IsStrOf menu5) ?k1 ?k2 ?k3 ?k4 ?k5 ?kK ?kp ?ko ?kr ?hm ?h2 ?ht ?hP ?kd ?ku ?_; (case k2 => k_asm); (case k1 => k_asm); (case k3 => k_asm); (case k4 => k_asm); (case k5 => k_asm); (case kK => first | exact rfl | assumption); (case kp => k_mem); (case ko => assumption); (case kr => k_all); (case hm => k_mem); (case h2 => exact Nat.le_of_ble_eq_true rfl); (case ht => exact Nat.le_of_ble_eq_true rfl); (case hP => (repeat (first | exact List.forall_mem_nil _ | refine List.forall_mem_cons.mpr ⟨⟨_, _, rfl, by decide +kernel⟩, ?_⟩))); (case kd => ktr_room); (case ku => ktr_units); k_whole)) | ((refine' one_use IsShort ?k1 ?k2 ?k3 ?k4 ?k5 ?kK ?kp ?ko ?kr ?hm ?h2 ?ht ?hP ?kd ?ku ?_; (case k2 => k_asm); (case k1 => k_asm); (case k3 => k_asm); (case k4 => k_asm); (case k5 => k_asm); (case kK => first | exact rfl | assumption); (case kp => k_mem); (case ko => assumption); (case kr => k_all); (case hm => k_mem); (case h2 => exact Nat.le_of_ble_eq_true rfl); (case ht => exact Nat.le_of_ble_eq_true rfl); (case hP => (repeat (first | exact List.forall_mem_nil _ | refine List.forall_mem_cons.mpr ⟨⟨_, _, rfl, by decide +kernel⟩, ?_⟩))); (case kd => ktr_room); (case ku => ktr_units); k_whole))); intro r' o' h' tk' hP' hso' F' N'; k_dflt (obtain ⟨x', t', hr', hx'⟩ := hP'); subst hr'; (try k_sweep); (try k_fold); (try dsimp only); walk_say "ONE")))
  (k_with "size_fits" => (exact Nat.le_of_ble_eq_true rfl))
  (k_with "k_mem" => (((with_reducible show _ ∈ _ :: _); first | with_reducible exact mem_hd | ((with_reducible refine mem_tl ?_); (first | with_reducible exact mem_hd | ((with_reducible refine mem_tl ?_); (first | with_reducible exact mem_hd | ((with_reducible refine mem_tl ?_); (first | with_reducible exact mem_hd | ((with_reducible refine mem_tl ?_); (first | with_reducible exact mem_hd | ((with_reducible refine mem_tl ?_); (first | with_reducible exact mem_hd | ((with_reducible refine mem_tl ?_); (first | with_reducible exact mem_hd | ((with_reducible refine mem_tl ?_); (first | with_reducible exact mem_hd | ((with_reducible refine mem_tl ?_); (first | with_reducible exact mem_hd | ((with_reducible refine mem_tl ?_); (first | with_reducible exact mem_hd | ((with_reducible refine mem_tl ?_); (first | with_reducible exact mem_hd | ((with_reducible refine mem_tl ?_); (first | with_reducible exact mem_hd | ((with_reducible refine mem_tl ?_); (first | with_reducible exact mem_hd | ((with_reducible refine mem_tl ?_); (first | with_reducible exact mem_hd | ((with_reducible refine mem_tl ?_); (first | with_reducible exact mem_hd | ((with_reducible refine mem_tl ?_); (first | with_reducible exact mem_hd | ((with_reducible refine mem_tl ?_); ((first | ktr_member | (refine AllIn.sub (by assumption) _ ?_; ktr_member)))) | (first | ktr_member | (refine AllIn.sub (by assumption) _ ?_; ktr_member)))) | (first | ktr_member | (refine AllIn.sub (by assumption) _ ?_; ktr_member)))) | (first | ktr_member | (refine AllIn.sub (by assumption) _ ?_; ktr_member)))) | (first | ktr_member | (refine AllIn.sub (by assumption) _ ?_; ktr_member)))) | (first | ktr_member | (refine AllIn.sub (by assumption) _ ?_; ktr_member)))) | (first | ktr_member | (refine AllIn.sub (by assumption) _ ?_; ktr_member)))) | (first | ktr_member | (refine AllIn.sub (by assumption) _ ?_; ktr_member)))) | (first | ktr_member | (refine AllIn.sub (by assumption) _ ?_; ktr_member)))) | (first | ktr_member | (refine AllIn.sub (by assumption) _ ?_; ktr_member)))) | (first | ktr_member | (refine AllIn.sub (by assumption) _ ?_; ktr_member)))) | (first | ktr_member | (refine AllIn.sub (by assumption) _ ?_; ktr_member)))) | (first | ktr_member | (refine AllIn.sub (by assumption) _ ?_; ktr_member)))) | (first | ktr_member | (refine AllIn.sub (by assumption) _ ?_; ktr_member)))) | (first | ktr_member | (refine AllIn.sub (by assumption) _ ?_; ktr_member)))) | (first | ktr_member | (refine AllIn.sub (by assumption) _ ?_; ktr_member)))) | (first | ktr_member | (refine AllIn.sub (by assumption) _ ?_; ktr_member)))))
  (k_with "k_all" => (((repeat' (first | with_reducible assumption | exact l9_ne (by with_reducible assumption) | with_reducible refine ne_cons ?_ ?_ | exact ne_l1 (by with_reducible assumption) (by k_mem) | exact ne_l2 (by with_reducible assumption) (by with_reducible assumption) (by k_mem) | exact ne_l3 (by with_reducible assumption) (by with_reducible assumption) (by with_reducible assumption) (by k_mem) | exact ne_l4 (by with_reducible assumption) (by with_reducible assumption) (by with_reducible assumption) (by with_reducible assumption) (by k_mem) | k_ne)); done)))
  (k_with "call ref" => ((k_here; (with_reducible show wpAny _ _ (call (Value.ref 153) _) _ _ _); k_dflt (first | (refine' mk_name_use (mk_name) ?k1 ?k2 ?k3 ?k4 ?k5 ?kK ?kd ?ku ?_; (case k2 => k_asm); (case k1 => k_asm); (case k3 => k_asm); (case k4 => k_asm); (case k5 => k_asm); (case kK => first | exact rfl | assumption); (case kd => ktr_room); (case ku => ktr_units);  k_whole)); (intro E' D' _ _ _ _ _ _ _ _ _ _ _ l1' l2' h' tk' F' N'; (try k_lt l1'); (try k_lt2 l2')); (try k_sweep); (try k_fold); (try dsimp only); walk_say "MK_NAME")))
  (k_with "call ref" => ((k_here; (with_reducible show wpAny _ _ (call (Value.ref 127) _) _ _ _); k_dflt (first | (refine' mk_lit_use (mk_lit) ?k1 ?k2 ?k3 ?k4 ?k5 ?kK ?kd ?ku ?_; (case k2 => k_asm); (case k1 => k_asm); (case k3 => k_asm); (case k4 => k_asm); (case k5 => k_asm); (case kK => first | exact rfl | assumption); (case kd => ktr_room); (case ku => ktr_units);  k_whole)); (intro E' D' _ _ l1' l2' h' tk' F' N'; (try k_lt l1'); (try k_lt2 l2')); (try k_sweep); (try k_fold); (try dsimp only); walk_say "MK_LIT")))
  trivial
open PyProof.Rows.LCg
/-- which text an item is to become: a word for the line -/
structure ToText (v : Value) (z : Str) : Prop where
  said : True
theorem one_src {prog : Program} {w : World} {A : Around} {h₀ : Heap} {L : Addr} {m : Str → Option Value} {env : Env} {elt : PySem.Expr} {x : Str} {scope : Scope} {cl : List (Str × Addr)} {news : Led} {Fin : Shared → List Value → Led → Prop} {s₁ : Shared} {nl : Addr} {v : Value} {z : Str} {k : Nat} (hh : A.handled = none) (F : Fr h₀ L s₁.heap m) (N : News h₀ L s₁.heap news) (hm : (nl, listOf #[v] k) ∈ news) (hz : ToText v z)
    (fin : ∀ g t, Fin { s₁ with heap := g } [.str z t] news)
    (step : ∀ g ys I oI C oC D m₂ h tk (E' : Value → Shared → Prop), NsObj oC m₂ → m₂ x = some v → Fr h₀ L h m → News h₀ L h ((I, oI) :: (C, oC) :: (D, lst ys) :: news) → Off3 I C D news → ((@Ne Nat I C) ∧ (@Ne Nat I D) ∧ (@Ne Nat C D)) →
      wpAny (model prog w) A (eval elt (compEnvC scope cl C env)) (ElEnd h₀ L m { ({ s₁ with heap := g } : Shared) with heap := h, toks := tk } I oI C oC D ys news fun r => ∃ t', r = .str z t') E' { ({ s₁ with heap := g } : Shared) with heap := h, toks := tk }) :
    CompSrc prog w A h₀ L m env elt x scope cl Fin (.ref nl) s₁ := by
  refine list_src (vs := [v]) (fun ys i => (i = 0 ∧ ys = []) ∨ (i = 1 ∧ ∃ t, ys = [.str z t])) (.inl ⟨rfl, rfl⟩) hh F N hm (Nat.le_of_ble_eq_true rfl) (fun g ys hR => ?_) fun g i ys v' I oI C oC D m₂ h tk E' hR hv hC hx F' N' off ne => ?_
  · rcases hR with ⟨e, _⟩ | ⟨_, t, rfl⟩
    · cases e
    · exact fin g t
  · have hi : i = 0 := by
      have := (List.getElem?_eq_some_iff.mp hv).1
      simpa using this
    subst hi
    obtain rfl : v = v' := Option.some.inj hv
    rcases hR with ⟨_, rfl⟩ | ⟨e, _⟩
    · refine wpAny_mono (step g [] I oI C oC D m₂ h tk E' hC hx F' N' off ne) (fun r s₄ h₄ => ?_) fun _ _ e => e
      obtain ⟨h', tk', rfl, F₄, N₄, t', rfl⟩ := h₄
      exact ⟨h', tk', rfl, F₄, N₄, .inr ⟨rfl, t', rfl⟩⟩
    · cases e
theorem join_one {prog : Program} {w : World} {A : Around} {E : Value → Shared → Prop} {s : Shared} {h₀ : Heap} {L D : Addr} {news : Led} {z : Str} {n : Nat} {t u : Tok} {Q : Value → Shared → Prop} (N : News h₀ L s.heap news) (hm : (D, listOf #[.str z u] n) ∈ news) (hz : z ∈ bare5)
    (h : ∀ t' k, Q (.str z t') { s with toks := k }) : wpAny (model prog w) A (call (.builtin "str.join") [.str (S ", ") t, .ref D]) Q E s := by
  have key : ∀ y ∈ bare5, Txt.join (S ", ") [S "" ++ y] = y ∧ Txt.join (S ", ") [y] = y ∧ ([y].map (·.length)).sum + [y].length * (S ", ").length ≤ 16777216 := by decide +kernel
  obtain ⟨_, k2, k3⟩ := key z hz
  refine join_list (News.isList N hm) (.cons _ _ .nil : StrsAre [.str z u] [z]) k3 ?_
  rw [k2]
  exact h
section
set_option maxHeartbeats 2000000 in
theorem mk_writer {w : World} {p : Program} {loose : List Str} {mean : ExcName → Option Value} {mg mb : Str → Option Value} {news : Led} :
    CallTo w p loose mean mg mb 827 [] news 5 (fun r news' => ∀ R : Value → Led → Prop, (∀ We Wd Wx Wy b1 u1 b2 u2, R (.ref Wx) ((We, instObj 767 Wd) :: (Wd, dictOf [⟨b1, .str (Str.ofString "selects") u1, .ref Wx⟩] 1) :: (Wx, instObj 827 Wy) :: (Wy, dictOf [⟨b2, .str (Str.ofString "expressions") u2, .ref We⟩] 1) :: news)) → R r news') := by
  exact ensure_expected_type% "" (by exact ?walk9 : type_of% (let_mvar% ?walk9 := (by
    intro dp un gd cn cs ac ccd cl outer A₀ base h₀ L m s Q E B F X N T hk hdp hun hret
    k_dflt (refine' call_cls ?k1 ?k2 ?k3 ?k4 ?k5 ?k6 ?_; (case k1 => k_asm); (case k2 => k_asm); (case k3 => k_asm); (case k4 => k_is); (case k5 => k_is); (case k6 => k_is); k_whole; intro x' d' h' F' N' l1 l2; have l1c := l1; have l2c := l2; (try k_lt l1); (try k_lt2 l2))
    k_dflt (refine' code_def ?k1 ?k2 ?k3 ?k4 ?k5 ?kA ?kF ?kK ?k6 ?k7 ?k8 ?k9 ?kB ?_ ?c2 ?c3 ?c4 ?c5; (case kA => exact rfl); (case kF => exact rfl); (case kK => assumption); (case k1 => k_asm); (case k2 => k_asm); (case k3 => k_asm); (case k4 => k_asm); (case k5 => k_asm); (case k6 => k_is); (case k7 => k_is); (case k8 => ktr_room); (case k9 => exact BindsTo.of_eq rfl); (case c5 => decide); (case kB => exact locs rfl); (case c2 => exact rfl); (case c3 => exact rfl); (case c4 => exact rfl); k_whole; intro g' L' h' FG' F' N' B' X' T'; (try dsimp only); (try k_lift B'); (try k_fold))
    k_steps
    all_goals (refine hret _ _ _ _ ?_ (by k_asm) (by k_asm); exact fun R k => k _ _ _ _ _ _ _ _)
    : _); ?walk9))
end
theorem writer_use {w : World} {p : Program} {loose : List Str} {mean : ExcName → Option Value} {mg mb : Str → Option Value} {f : Addr} {vs : List Value} {news : Led} {need : Nat} {dp un : Nat} {gd : Option (List Code)} {cn : Str} {cs : Scope} {a : Addr} {ccd : Value} {cl : List (Str × Addr)} {outer : List Env} {A₀ : Around} {base h₀ : Heap} {L : Addr} {m : Str → Option Value} {s : Shared} {Q E : Value → Shared → Prop}
    (C : CallTo w p loose mean mg mb f vs news need (fun r news' => ∀ R : Value → Led → Prop, (∀ We Wd Wx Wy b1 u1 b2 u2, R (.ref Wx) ((We, instObj 767 Wd) :: (Wd, dictOf [⟨b1, .str (Str.ofString "selects") u1, .ref Wx⟩] 1) :: (Wx, instObj 827 Wy) :: (Wy, dictOf [⟨b2, .str (Str.ofString "expressions") u2, .ref We⟩] 1) :: news)) → R r news')) (B : Below A₀ base outer h₀) (F : Fr h₀ L s.heap m) (X : (Mine.kept.heap_1 w.params).In h₀) (N : News h₀ L s.heap news) (T : Top p loose mean mg mb h₀) (hk : cs.kind = .function) (hd : dp + need < recursionLimit) (hu : un + 8 * need < cLine)
    (ret : ∀ We Wd Wx Wy b1 u1 b2 u2 h' tk', Fr h₀ L h' m → News h₀ L h' ((We, instObj 767 Wd) :: (Wd, dictOf [⟨b1, .str (Str.ofString "selects") u1, .ref Wx⟩] 1) :: (Wx, instObj 827 Wy) :: (Wy, dictOf [⟨b2, .str (Str.ofString "expressions") u2, .ref We⟩] 1) :: news) → Q (.ref Wx) { s with heap := h', toks := tk' }) : wpAny (model PG w) (ktrTop dp un gd cn cs L a ccd cl outer) (call (.ref f) vs) Q E s :=
  C _ _ _ _ _ _ _ _ _ _ _ _ _ _ _ _ _ B F X N T hk hd hu fun r n h' tk' P9 F9 N9 => P9 (fun r n => Fr h₀ L h' m → News h₀ L h' n → Q r { s with heap := h', toks := tk' }) (fun We Wd Wx Wy b1 u1 b2 u2 F9 N9 => ret We Wd Wx Wy b1 u1 b2 u2 h' tk' F9 N9) F9 N9
section
variable {e dx l dl r dr al : Addr} {x y : Str} {k : Int} {tt tk t0 : Tok} {v1 v3 v4 v5 : Value} {a1 a2 a3 a4 b1 b2 b3 b4 b5 c1 : Int} {t1 t2 t3 t4 u1 u2 u3 u4 u5 w1 : Tok} {n1 n2 n3 n4 : Nat}
theorem rows30 : True := by
  w_top off
  (k_with "call ref" => ((k_here; (with_reducible show wpAny _ _ (call (Value.ref 827) _) _ _ _); k_dflt (first | (refine' writer_use (mk_writer) ?k1 ?k2 ?k3 ?k4 ?k5 ?kK ?kd ?ku ?_; (case k2 => k_asm); (case k1 => k_asm); (case k3 => k_asm); (case k4 => k_asm); (case k5 => k_asm); (case kK => first | exact rfl | assumption); (case kd => ktr_room); (case ku => ktr_units);  k_whole)); (intro _ _ _ _ _ _ _ _ h' tk' F' N'); (try k_sweep); (try k_fold); (try dsimp only); walk_say "WRITER")))
  (k_with "call ref" => ((k_here; (with_reducible show wpAny _ _ (call (Value.ref 683) _) _ _ _); k_dflt (first | (refine' call_str (wname_call ?hx) ?k1 ?k2 ?k3 ?k4 ?k5 ?kK ?kd ?ku ?_; (case k2 => k_asm); (case k1 => k_asm); (case k3 => k_asm); (case k4 => k_asm); (case k5 => k_asm); (case kK => first | exact rfl | assumption); (case kd => ktr_room); (case ku => ktr_units); (case hx => assumption); k_whole)); (intro t' h' tk' F' N'); (try k_sweep); (try k_fold); (try dsimp only); walk_say "WNAME")))
  (k_with "call ref" => ((k_here; (with_reducible show wpAny _ _ (call (Value.ref 709) _) _ _ _); k_dflt (first | (refine' call_str (lev_name (C := 411) ?he ?hd (.inr rfl)) ?k1 ?k2 ?k3 ?k4 ?k5 ?kK ?kd ?ku ?_; (case k2 => k_asm); (case k1 => k_asm); (case k3 => k_asm); (case k4 => k_asm); (case k5 => k_asm); (case kK => first | exact rfl | assumption); (case kd => ktr_room); (case ku => ktr_units); (case he => k_mem); (case hd => k_mem); k_whole) | (refine' call_str (lev_plus ?he ?hd) ?k1 ?k2 ?k3 ?k4 ?k5 ?kK ?kd ?ku ?_; (case k2 => k_asm); (case k1 => k_asm); (case k3 => k_asm); (case k4 => k_asm); (case k5 => k_asm); (case kK => first | exact rfl | assumption); (case kd => ktr_room); (case ku => ktr_units); (case he => k_mem); (case hd => k_mem); k_whole)); (intro t' h' tk' F' N'); (try k_sweep); (try k_fold); (try dsimp only); walk_say "LEVEL")))
  (k_with "call ref" => ((k_here; (with_reducible show wpAny _ _ (call (Value.ref 731) _) _ _ _); k_dflt (first | (refine' call_str (wr_name2 ?hs ?hw ?he ?hd ?hx) ?k1 ?k2 ?k3 ?k4 ?k5 ?kK ?kd ?ku ?_; (case k2 => k_asm); (case k1 => k_asm); (case k3 => k_asm); (case k4 => k_asm); (case k5 => k_asm); (case kK => first | exact rfl | assumption); (case kd => ktr_room); (case ku => ktr_units); (case hs => k_mem); (case hw => k_mem); (case he => k_mem); (case hd => k_mem); (case hx => assumption); k_whole) | (refine' call_str (wr_name3 ?hs ?hw ?he ?hd ?hx ?hk') ?k1 ?k2 ?k3 ?k4 ?k5 ?kK ?kd ?ku ?_; (case k2 => k_asm); (case k1 => k_asm); (case k3 => k_asm); (case k4 => k_asm); (case k5 => k_asm); (case kK => first | exact rfl | assumption); (case kd => ktr_room); (case ku => ktr_units); (case hs => k_mem); (case hw => k_mem); (case he => k_mem); (case hd => k_mem); (case hx => assumption); (case hk' => omega); k_whole) | (refine' call_str (wr_lit2 ?hs ?hw ?he ?hd ?h1) ?k1 ?k2 ?k3 ?k4 ?k5 ?kK ?kd ?ku ?_; (case k2 => k_asm); (case k1 => k_asm); (case k3 => k_asm); (case k4 => k_asm); (case k5 => k_asm); (case kK => first | exact rfl | assumption); (case kd => ktr_room); (case ku => ktr_units); (case hs => k_mem); (case hw => k_mem); (case he => k_mem); (case hd => k_mem); (case h1 => assumption); k_whole) | (refine' call_str (wr_lit3 ?hs ?hw ?he ?hd ?h0 ?h9 ?hk') ?k1 ?k2 ?k3 ?k4 ?k5 ?kK ?kd ?ku ?_; (case k2 => k_asm); (case k1 => k_asm); (case k3 => k_asm); (case k4 => k_asm); (case k5 => k_asm); (case kK => first | exact rfl | assumption); (case kd => ktr_room); (case ku => ktr_units); (case hs => k_mem); (case hw => k_mem); (case he => k_mem); (case hd => k_mem); (case h0 => omega); (case h9 => omega); (case hk' => omega); k_whole)); (intro t' h' tk' F' N'); (try k_sweep); (try k_fold); (try dsimp only); walk_say "WRITE")))
  (k_with "CompSrc" => ((k_here; k_dflt (refine' one_src ?hh ?F ?N ?hm ?hz ?_ ?_; (case hh => rfl); (case F => k_asm); (case N => k_asm); (case hm => k_mem); (case hz => assumption)); intro g' u'; rotate_left; intro g' ys' I' oI' C' oC' D' m' h' tk' E' hC' hx' F' N' off' ne'; rotate_right; walk_say "LISTED")))
  (k_with "ElEnd" => ((k_here; k_dflt (refine' elEnd ?F ?N ?sub ?k; (case F => k_asm); (case N => k_asm); (case sub => exact List.forall_mem_cons.mpr ⟨by k_mem, List.forall_mem_cons.mpr ⟨by k_mem, List.forall_mem_cons.mpr ⟨by k_mem, fun q hq => by k_mem⟩⟩⟩); (case k => exact ⟨_, rfl⟩)); walk_say "EL END")))
  (k_with "call builtin:str.join" => ((k_here; k_dflt (refine' join_one ?N ?hm ?hz ?_; (case N => k_asm); (case hm => k_mem); (case hz => assumption); k_whole); intro t' k')))
  trivial
set_option maxHeartbeats 8000000 in
theorem we_name {w : World} {p : Program} {loose : List Str} {mean : ExcName → Option Value} {mg mb : Str → Option Value} {news : Led}
    (he : (e, instObj 153 dx) ∈ news) (hdx : (dx, dictOf [⟨b1, .str (Str.ofString "table") u1, .none⟩, ⟨b2, .str (Str.ofString "column") u2, .str x tt⟩, ⟨b3, .str (Str.ofString "source") u3, v3⟩, ⟨b4, .str (Str.ofString "place") u4, v4⟩, ⟨b5, .str (Str.ofString "depth") u5, v5⟩] n2) ∈ news) (hx : x ∈ bare5) :
    CallTo w p loose mean mg mb 838 [.ref e] news 12 (fun r news' => (∃ t, r = .str (x) t) ∧ news' = news) := by
  exact ensure_expected_type% "" (by exact ?walk9 : type_of% (let_mvar% ?walk9 := (by
    intro dp un gd cn cs ac ccd cl outer A₀ base h₀ L m s Q E B F X N T hk hdp hun hret
    refine wpAny_call ?_
    k_dflt cell_enter
    k_steps
    all_goals exact hret _ _ _ _ ⟨⟨_, rfl⟩, rfl⟩ (by k_asm) (cb_drop (by assumption) fun _ h => by repeat (first | exact h | refine List.Mem.tail _ ?_))
    : _); ?walk9))
set_option maxHeartbeats 8000000 in
theorem we_lit {w : World} {p : Program} {loose : List Str} {mean : ExcName → Option Value} {mg mb : Str → Option Value} {news : Led}
    (he : (e, instObj 127 dx) ∈ news) (hdx : (dx, dictOf [⟨c1, .str (Str.ofString "value") w1, v1⟩] n3) ∈ news) (h1 : LitOk v1) :
    CallTo w p loose mean mg mb 838 [.ref e] news 12 (fun r news' => (∃ t, r = .str (litText v1) t) ∧ news' = news) := by
  exact ensure_expected_type% "" (by exact ?walk9 : type_of% (let_mvar% ?walk9 := (by
    intro dp un gd cn cs ac ccd cl outer A₀ base h₀ L m s Q E B F X N T hk hdp hun hret
    refine wpAny_call ?_
    k_dflt cell_enter
    k_steps
    all_goals exact hret _ _ _ _ ⟨⟨_, rfl⟩, rfl⟩ (by k_asm) (cb_drop (by assumption) fun _ h => by repeat (first | exact h | refine List.Mem.tail _ ?_))
    : _); ?walk9))
set_option maxHeartbeats 8000000 in
theorem we_plus {w : World} {p : Program} {loose : List Str} {mean : ExcName → Option Value} {mg mb : Str → Option Value} {news : Led}
    (he : (e, instObj 231 dx) ∈ news) (hd : (dx, dictOf [⟨a1, .str (Str.ofString "op") t1, .str (Str.ofString "+") t0⟩, ⟨a2, .str (Str.ofString "left") t2, .ref l⟩, ⟨a3, .str (Str.ofString "right") t3, .ref r⟩] n1) ∈ news) (hl : (l, instObj 153 dl) ∈ news) (hdl : (dl, dictOf [⟨b1, .str (Str.ofString "table") u1, .str (S "t") tk⟩, ⟨b2, .str (Str.ofString "column") u2, .str x tt⟩, ⟨b3, .str (Str.ofString "source") u3, v3⟩, ⟨b4, .str (Str.ofString "place") u4, v4⟩, ⟨b5, .str (Str.ofString "depth") u5, v5⟩] n2) ∈ news) (hx : x ∈ bare5) (hr : (r, instObj 127 dr) ∈ news) (hdr : (dr, dictOf [⟨c1, .str (Str.ofString "value") w1, .int k t4⟩] n3) ∈ news) (h0 : 0 ≤ k) (h9 : k < 10) :
    CallTo w p loose mean mg mb 838 [.ref e] news 12 (fun r news' => (∃ t, r = .str (S "t." ++ x ++ S " " ++ S "+" ++ S " " ++ Str.ofString (toString k)) t) ∧ news' = news) := by
  exact ensure_expected_type% "" (by exact ?walk9 : type_of% (let_mvar% ?walk9 := (by
    intro dp un gd cn cs ac ccd cl outer A₀ base h₀ L m s Q E B F X N T hk hdp hun hret
    have hx5 := (bare_facts x hx).1.2
    refine wpAny_call ?_
    k_dflt cell_enter
    k_steps
    all_goals exact hret _ _ _ _ ⟨⟨_, rfl⟩, rfl⟩ (by k_asm) (cb_drop (by assumption) fun _ h => by repeat (first | exact h | refine List.Mem.tail _ ?_))
    : _); ?walk9))
set_option maxHeartbeats 8000000 in
theorem we_call {w : World} {p : Program} {loose : List Str} {mean : ExcName → Option Value} {mg mb : Str → Option Value} {news : Led}
    (he : (e, instObj 411 dx) ∈ news) (hd : (dx, dictOf [⟨a1, .str (Str.ofString "name") t1, .str y t0⟩, ⟨a2, .str (Str.ofString "arguments") t2, .ref al⟩, ⟨a3, .str (Str.ofString "distinct") t3, .bool false⟩, ⟨a4, .str (Str.ofString "star") t4, .bool false⟩] n1) ∈ news) (hal : (al, listOf #[.ref l] n4) ∈ news) (hy : y ∈ bare5) (hl : (l, instObj 153 dl) ∈ news) (hdl : (dl, dictOf [⟨b1, .str (Str.ofString "table") u1, .none⟩, ⟨b2, .str (Str.ofString "column") u2, .str x tt⟩, ⟨b3, .str (Str.ofString "source") u3, v3⟩, ⟨b4, .str (Str.ofString "place") u4, v4⟩, ⟨b5, .str (Str.ofString "depth") u5, v5⟩] n2) ∈ news) (hx : x ∈ bare5) :
    CallTo w p loose mean mg mb 838 [.ref e] news 12 (fun r news' => (∃ t, r = .str (y ++ S "(" ++ S "" ++ x ++ S ")") t) ∧ news' = news) := by
  exact ensure_expected_type% "" (by exact ?walk9 : type_of% (let_mvar% ?walk9 := (by
    intro dp un gd cn cs ac ccd cl outer A₀ base h₀ L m s Q E B F X N T hk hdp hun hret
    have hx5 := (bare_facts x hx).1.2
    have hy5 := (bare_facts y hy).1.2
    have hto : ToText (.ref l) x := ⟨trivial⟩
    refine wpAny_call ?_
    k_dflt cell_enter
    k_steps
    all_goals exact hret _ _ _ _ ⟨⟨_, rfl⟩, rfl⟩ (by k_asm) (cb_drop (by assumption) fun _ h => by repeat (first | exact h | refine List.Mem.tail _ ?_))
    : _); ?walk9))
set_option maxHeartbeats 8000000 in
theorem we_star {w : World} {p : Program} {loose : List Str} {mean : ExcName → Option Value} {mg mb : Str → Option Value} {news : Led}
    (he : (e, instObj 411 dx) ∈ news) (hd : (dx, dictOf [⟨a1, .str (Str.ofString "name") t1, .str y t0⟩, ⟨a2, .str (Str.ofString "arguments") t2, .ref al⟩, ⟨a3, .str (Str.ofString "distinct") t3, .bool false⟩, ⟨a4, .str (Str.ofString "star") t4, .bool true⟩] n1) ∈ news) (hal : (al, listOf #[] n4) ∈ news) (hy : y ∈ bare5) :
    CallTo w p loose mean mg mb 838 [.ref e] news 12 (fun r news' => (∃ t, r = .str (y ++ S "(" ++ S "" ++ S "*" ++ S ")") t) ∧ news' = news) := by
  exact ensure_expected_type% "" (by exact ?walk9 : type_of% (let_mvar% ?walk9 := (by
    intro dp un gd cn cs ac ccd cl outer A₀ base h₀ L m s Q E B F X N T hk hdp hun hret
    have hy5 := (bare_facts y hy).1.2
    refine wpAny_call ?_
    k_dflt cell_enter
    k_steps
    all_goals exact hret _ _ _ _ ⟨⟨_, rfl⟩, rfl⟩ (by k_asm) (cb_drop (by assumption) fun _ h => by repeat (first | exact h | refine List.Mem.tail _ ?_))
    : _); ?walk9))
end
theorem rows31 : True := by
  w_top off
  k_with_none
  (k_with "execs cons" => ((k_here; (with_reducible refine gen_toks (P := fun k => wpAny _ _ _ _ _ ⟨_, _, _, k, _⟩) (_ + _) ?_); intro tk9'; walk_say "TOKS")))
  (k_with "eval Name" => ((k_here; name_kind "globalImplicit"; k_dflt (refine' nameX_K ?F ?X ?T ?e ?_ ?a ?b; (case F => k_asm); (case X => k_asm); (case T => k_asm); (case a => kernel_rfl!); (case b => kernel_rfl!); (case e => k_is); k_whole))))
  (k_with "eval Name" => ((k_here; name_kind "local"; k_dflt (refine' nameX_L ?F ?v ?_ ?a ?b; (case F => k_asm); (case a => kernel_rfl!); (case b => kernel_rfl!); (case v => rfl); k_whole))))
  (k_with "execs nil" => ((k_here; (with_reducible refine gen_toks (P := fun k => wpAny _ _ _ _ _ ⟨_, _, _, k, _⟩) (_ + _) ?_); intro tk9'; walk_say "TOKS")))
  (k_with "eval Name" => ((k_here; name_kind "globalImplicit"; name_is_builtin; k_dflt (refine' nameX_B ?F ?X ?T ?e ?v ?n ?_ ?a ?b; (case F => k_asm); (case X => k_asm); (case T => k_asm); (case a => kernel_rfl!); (case b => kernel_rfl!); (case e => k_is); (case v => boot_fast); (case n => decide); k_whole))))
  (k_with "ite" => ((k_closed; first | with_reducible refine ite_ff ?_ | with_reducible refine ite_tt ?_ | k_dflt (first | refine ite_t rfl ?_ | refine ite_f rfl ?_))))
  (k_with "call builtin:isinstance" => ((k_here; k_dflt (refine' isi_call ?k1 ?k2 ?k3 ?k4 ?_; (case k1 => k_in); (case k2 => k_types); (case k3 => k_is); (case k4 => intro e; cases e); k_whole))))
  (k_with "ktr_room" => (k_dflt (first | exact room2 (by with_reducible assumption) (by decide) | exact room1 (by with_reducible assumption) rfl | exact room0 (by with_reducible assumption))))
  (k_with "ktr_units" => (k_dflt (first | exact units2 (by with_reducible assumption) (by decide) | exact units1 (by with_reducible assumption) rfl | exact units0 (by with_reducible assumption) rfl | exact room0 (by with_reducible assumption))))
  (k_with "k_in" => (first | with_reducible assumption | exact Frag.In.keeps (by with_reducible assumption) (Fr.keep (by with_reducible assumption))))
  (k_with "call builtin:isinstance" => ((k_here; (with_reducible show wpAny _ _ (call _ [Value.ref _, Value.ref _]) _ _ _); k_dflt (refine' kin_callC ?k1 ?k2 ?k3 ?k4 ?k5 ?k6 ?k7 ?k8 ?k9 ?_; (case k1 => k_in); (case k2 => k_inst); (case k3 => kin_no); (case k4 => k_is); (case k5 => k_is); (case k6 => k_is); (case k7 => k_is); (case k8 => k_is); (case k9 => k_is); k_whole))))
  (k_with "getAttr ref" => ((k_here; k_dflt (refine' get_own ?k1 ?k2 ?k3 ?k4 ?k5 ?k6 ?k7 ?k8 ?k9 ?_; (case k1 => k_asm); (case k2 => k_asm); (case k3 => k_inst); (case k4 => k_is); (case k5 => k_is); (case k6 => k_is); (case k7 => k_is); (case k8 => k_get); (case k9 => k_handed); k_whole))))
  (k_with "k_room" => (ktr_room))
  (k_with "k_units" => (ktr_units))
  (k_with "k_all" => (assumption))
  (k_with "k_mem" => (first | assumption | ((with_reducible show Pick _ _ _); first | exact Pick.head | exact Pick.tail (Pick.head) | exact Pick.tail (Pick.tail (Pick.head)) | exact Pick.tail (Pick.tail (Pick.tail (Pick.head))) | exact Pick.tail (Pick.tail (Pick.tail (Pick.tail (Pick.head)))) | exact Pick.tail (Pick.tail (Pick.tail (Pick.tail (Pick.tail (Pick.head))))) | exact Pick.tail (Pick.tail (Pick.tail (Pick.tail (Pick.tail (Pick.tail (Pick.head)))))) | exact Pick.tail (Pick.tail (Pick.tail (Pick.tail (Pick.tail (Pick.tail (Pick.tail (Pick.head))))))) | exact Pick.t8 (Pick.head) | exact Pick.t8 (Pick.tail (Pick.head)) | exact Pick.t8 (Pick.tail (Pick.tail (Pick.head))) | exact Pick.t8 (Pick.tail (Pick.tail (Pick.tail (Pick.head)))) | exact Pick.t8 (Pick.tail (Pick.tail (Pick.tail (Pick.tail (Pick.head))))) | exact Pick.t8 (Pick.tail (Pick.tail (Pick.tail (Pick.tail (Pick.tail (Pick.head)))))) | exact Pick.t8 (Pick.tail (Pick.tail (Pick.tail (Pick.tail (Pick.tail (Pick.tail (Pick.head))))))) | exact Pick.t8 (Pick.tail (Pick.tail (Pick.tail (Pick.tail (Pick.tail (Pick.tail (Pick.tail (Pick.head)))))))) | exact Pick.t8 (Pick.t8 (Pick.head)) | exact Pick.t8 (Pick.t8 (Pick.tail (Pick.head))) | exact Pick.t8 (Pick.t8 (Pick.tail (Pick.tail (Pick.head)))) | exact Pick.t8 (Pick.t8 (Pick.tail (Pick.tail (Pick.tail (Pick.head))))) | exact Pick.t8 (Pick.t8 (Pick.tail (Pick.tail (Pick.tail (Pick.tail (Pick.head)))))) | exact Pick.t8 (Pick.t8 (Pick.tail (Pick.tail (Pick.tail (Pick.tail (Pick.tail (Pick.head))))))) | exact Pick.t8 (Pick.t8 (Pick.tail (Pick.tail (Pick.tail (Pick.tail (Pick.tail (Pick.tail (Pick.head)))))))) | exact Pick.t8 (Pick.t8 (Pick.tail (Pick.tail (Pick.tail (Pick.tail (Pick.tail (Pick.tail (Pick.tail (Pick.head))))))))) | exact Pick.t8 (Pick.t8 (Pick.t8 (Pick.head))) | exact Pick.t8 (Pick.t8 (Pick.t8 (Pick.tail (Pick.head)))) | exact Pick.t8 (Pick.t8 (Pick.t8 (Pick.tail (Pick.tail (Pick.head))))) | exact Pick.t8 (Pick.t8 (Pick.t8 (Pick.tail (Pick.tail (Pick.tail (Pick.head)))))) | exact Pick.t8 (Pick.t8 (Pick.t8 (Pick.tail (Pick.tail (Pick.tail (Pick.tail (Pick.head))))))) | exact Pick.t8 (Pick.t8 (Pick.t8 (Pick.tail (Pick.tail (Pick.tail (Pick.tail (Pick.tail (Pick.head)))))))) | exact Pick.t8 (Pick.t8 (Pick.t8 (Pick.tail (Pick.tail (Pick.tail (Pick.tail (Pick.tail (Pick.tail (Pick.head))))))))) | exact Pick.t8 (Pick.t8 (Pick.t8 (Pick.tail (Pick.tail (Pick.tail (Pick.tail (Pick.tail (Pick.tail (Pick.tail (Pick.head)))))))))) | exact Pick.t8 (Pick.t8 (Pick.t8 (Pick.t8 (Pick.head)))) | exact Pick.t8 (Pick.t8 (Pick.t8 (Pick.t8 (Pick.tail (Pick.head))))) | exact Pick.t8 (Pick.t8 (Pick.t8 (Pick.t8 (Pick.tail (Pick.tail (Pick.head)))))) | exact Pick.t8 (Pick.t8 (Pick.t8 (Pick.t8 (Pick.tail (Pick.tail (Pick.tail (Pick.head))))))) | exact Pick.t8 (Pick.t8 (Pick.t8 (Pick.t8 (Pick.tail (Pick.tail (Pick.tail (Pick.tail (Pick.head)))))))) | exact Pick.t8 (Pick.t8 (Pick.t8 (Pick.t8 (Pick.tail (Pick.tail (Pick.tail (Pick.tail (Pick.tail (Pick.head))))))))) | exact Pick.t8 (Pick.t8 (Pick.t8 (Pick.t8 (Pick.tail (Pick.tail (Pick.tail (Pick.tail (Pick.tail (Pick.tail (Pick.head)))))))))) | exact Pick.t8 (Pick.t8 (Pick.t8 (Pick.t8 (Pick.tail (Pick.tail (Pick.tail (Pick.tail (Pick.tail (Pick.tail (Pick.tail (Pick.head))))))))))) | exact Pick.t8 (Pick.t8 (Pick.t8 (Pick.t8 (Pick.t8 (Pick.head))))) | exact Pick.t8 (Pick.t8 (Pick.t8 (Pick.t8 (Pick.t8 (Pick.tail (Pick.head)))))) | exact Pick.t8 (Pick.t8 (Pick.t8 (Pick.t8 (Pick.t8 (Pick.tail (Pick.tail (Pick.head))))))) | exact Pick.t8 (Pick.t8 (Pick.t8 (Pick.t8 (Pick.t8 (Pick.tail (Pick.tail (Pick.tail (Pick.head)))))))) | exact Pick.t8 (Pick.t8 (Pick.t8 (Pick.t8 (Pick.t8 (Pick.tail (Pick.tail (Pick.tail (Pick.tail (Pick.head))))))))) | exact Pick.t8 (Pick.t8 (Pick.t8 (Pick.t8 (Pick.t8 (Pick.tail (Pick.tail (Pick.tail (Pick.tail (Pick.tail (Pick.head)))))))))) | exact Pick.t8 (Pick.t8 (Pick.t8 (Pick.t8 (Pick.t8 (Pick.tail (Pick.tail (Pick.tail (Pick.tail (Pick.tail (Pick.tail (Pick.head))))))))))) | exact Pick.t8 (Pick.t8 (Pick.t8 (Pick.t8 (Pick.t8 (Pick.tail (Pick.tail (Pick.tail (Pick.tail (Pick.tail (Pick.tail (Pick.tail (Pick.head)))))))))))) | exact Pick.t8 (Pick.t8 (Pick.t8 (Pick.t8 (Pick.t8 (Pick.t8 (Pick.head)))))) | exact Pick.t8 (Pick.t8 (Pick.t8 (Pick.t8 (Pick.t8 (Pick.t8 (Pick.tail (Pick.head))))))) | exact Pick.t8 (Pick.t8 (Pick.t8 (Pick.t8 (Pick.t8 (Pick.t8 (Pick.tail (Pick.tail (Pick.head)))))))) | exact Pick.t8 (Pick.t8 (Pick.t8 (Pick.t8 (Pick.t8 (Pick.t8 (Pick.tail (Pick.tail (Pick.tail (Pick.head))))))))) | exact Pick.t8 (Pick.t8 (Pick.t8 (Pick.t8 (Pick.t8 (Pick.t8 (Pick.tail (Pick.tail (Pick.tail (Pick.tail (Pick.head)))))))))) | exact Pick.t8 (Pick.t8 (Pick.t8 (Pick.t8 (Pick.t8 (Pick.t8 (Pick.tail (Pick.tail (Pick.tail (Pick.tail (Pick.tail (Pick.head))))))))))) | exact Pick.t8 (Pick.t8 (Pick.t8 (Pick.t8 (Pick.t8 (Pick.t8 (Pick.tail (Pick.tail (Pick.tail (Pick.tail (Pick.tail (Pick.tail (Pick.head)))))))))))) | exact Pick.t8 (Pick.t8 (Pick.t8 (Pick.t8 (Pick.t8 (Pick.t8 (Pick.tail (Pick.tail (Pick.tail (Pick.tail (Pick.tail (Pick.tail (Pick.tail (Pick.head)))))))))))))) | exact List.Mem.tail _ (by assumption)))
  (k_with "call ref" => ((k_here; (with_reducible show wpAny _ _ (call (Value.ref 965) _) _ _ _); k_dflt (refine' take_use ?k1 ?k2 ?k3 ?k4 ?k5 ?kK ?kp ?ko ?kr ?h2 ?ht ?kd ?ku ?_; (case k2 => k_asm); (case k1 => k_asm); (case k3 => k_asm); (case k4 => k_asm); (case k5 => k_asm); (case kK => first | exact rfl | assumption); (case kp => k_mem); (case ko => assumption); (case kr => k_all); (case h2 => omega); (case ht => omega); (case kd => ktr_room); (case ku => ktr_units); k_whole); intro d' t' o' h' tk' hd0' hd1' hso' F' N'; (try k_sweep); (try k_fold); (try dsimp only); walk_say "TAKE")))
  (k_with "call ref" => ((k_here; (with_reducible show wpAny _ _ (call (Value.ref 58) _) _ _ _); k_dflt (refine' fold_use ?k1 ?k2 ?k3 ?k4 ?k5 ?kK ?kn ?kd ?ku ?_; (case k2 => k_asm); (case k1 => k_asm); (case k3 => k_asm); (case k4 => k_asm); (case k5 => k_asm); (case kK => first | exact rfl | assumption); (case kn => assumption); (case kd => ktr_room); (case ku => ktr_units); k_whole); intro t' h' tk' F' N'; (try k_sweep); (try k_fold); (try dsimp only); walk_say "FOLD")))
  (k_with "call ref" => ((k_here; (with_reducible show wpAny _ _ (call (Value.ref 986) _) _ _ _); k_dflt (refine' lordinal_use ?k1 ?k2 ?k3 ?k4 ?k5 ?kK ?h0 ?h1 ?kd ?ku ?_; (case k2 => k_asm); (case k1 => k_asm); (case k3 => k_asm); (case k4 => k_asm); (case k5 => k_asm); (case kK => first | exact rfl | assumption); (case h0 => omega); (case h1 => omega); (case kd => ktr_room); (case ku => ktr_units); k_whole); intro t' h' tk' hol' F' N'; (try k_sweep); (try k_fold); (try dsimp only); walk_say "LORDINAL")))
  (k_with "call ref" => ((k_here; (with_reducible show wpAny _ _ (call (Value.ref 852) _) _ _ _); k_dflt (refine' ordinal_use ?k1 ?k2 ?k3 ?k4 ?k5 ?kK ?h0 ?h1 ?kd ?ku ?_; (case k2 => k_asm); (case k1 => k_asm); (case k3 => k_asm); (case k4 => k_asm); (case k5 => k_asm); (case kK => first | exact rfl | assumption); (case h0 => omega); (case h1 => omega); (case kd => ktr_room); (case ku => ktr_units); k_whole); intro t' h' tk' hol' F' N'; (try k_sweep); (try k_fold); (try dsimp only); walk_say "ORDINAL")))
  (k_with "call builtin:len" => ((k_here; (with_reducible show wpAny _ _ (call (Value.builtin "len") [Value.ref _]) _ _ _); k_dflt (refine' len_short ?N ?m ?f ?_; (case N => k_asm); (case m => k_mem); (case f => omega); k_whole))))
  (k_with "call ref" => ((k_here; (with_reducible show wpAny _ _ (call (Value.ref 866) _) _ _ _); k_dflt (refine' alias_use ?k1 ?k2 ?k3 ?k4 ?k5 ?kK ?ke ?kD ?kv ?kl ?kn ?k9 ?kd ?ku ?_; (case k2 => k_asm); (case k1 => k_asm); (case k3 => k_asm); (case k4 => k_asm); (case k5 => k_asm); (case kK => first | exact rfl | assumption); (case ke => k_mem); (case kD => k_mem); (case kv => assumption); (case kl => k_mem); (case kn => assumption); (case k9 => assumption); (case kd => ktr_room); (case ku => ktr_units); k_whole); intro t' h' tk' F' N'; (try k_sweep); (try k_fold); (try dsimp only); walk_say "ALIAS")))
  (k_with "call ref" => ((k_here; (with_reducible show wpAny _ _ (call (Value.ref 51) _) _ _ _); k_dflt (refine' exc_make ?F ?X ?N ?hC ?b1 ?b2 ?b3 ?hv ?hi ?hf ?_; (case F => k_asm); (case X => k_asm); (case N => k_asm); (case hC => k_is); (case b1 => decide +kernel); (case b2 => decide +kernel); (case b3 => decide +kernel); (case hv => exact Nat.le_of_ble_eq_true rfl); (case hi => k_is); (case hf => k_is); k_whole); intro e' T' h' F' N' l1 l2 l3; (try k_lt l1); (try k_lt2 l2); (try k_sweep); k_enter; walk_say "EXC MADE")))
  (k_with "setAttr ref" => ((k_here; k_dflt (refine' exc_set ?F ?X ?N ?hx ?hc ?hm ?hd ?hs ?ht ?_; (case F => k_asm); (case X => k_asm); (case N => k_asm); (case hx => k_all); (case hc => k_is); (case hm => exact rfl); (case hd => exact rfl); (case hs => k_is); (case ht => k_is); k_whole); intro d' h' tk' a' b' F' N' l1 l2 l3; (try k_lt l1); (try k_sweep); (try dsimp only); walk_say "EXC SET")))
  (k_with "getAttr ref" => ((k_here; k_dflt (refine' exc_get ?F ?X ?N ?hx ?hdx ?hc ?hm ?hd ?hg ?hk ?ha ?hl ?hv ?_; (case F => k_asm); (case X => k_asm); (case N => k_asm); (case hx => k_mem); (case hdx => k_mem); (case hc => k_is); (case hm => exact rfl); (case hd => exact rfl); (case hg => k_is); (case hk => k_is); (case ha => k_is); (case hl => exact rfl); (case hv => exact rfl); k_whole); intro tk'; walk_say "EXC GET")))
  (k_with "exec Raise some none" => ((k_here; (with_reducible show wpAny _ _ (exec (Stmt.Raise (some (Expr.Call (Expr.Name ("SqlError" : Str) _) _ _ _)) none _) _) _ _ _); refine Raise_own rfl ?_; walk_say "RAISE")))
  (k_with "RaisableD" => ((k_dflt (refine' raisableD ?F ?X ?N ?hm ?q ?_; (case F => k_asm); (case X => k_asm); (case N => k_asm); (case hm => k_mem); (case q => kts_isx); k_whole); walk_say "RAISABLE")))
  (k_with "leaving ref" => ((k_here; k_dflt (refine' leave_raiseD ?K ?F ?N ?ne ?_; (case K => k_asm); (case F => k_asm); (case N => k_asm); (case ne => k_all); k_whole); intro h' R' U'; (try dsimp only at R' U' ⊢); walk_say "LEAVING")))
  (k_with "noteFrame ref" => ((k_here; (with_reducible rename RaisedD _ _ _ _ _ _ _ _ => rsX); k_dflt (refine' caught_D ?R ?F ?K ?U ?XB ?TB ?D ?T0 ?ex ?q ?_; (case R => assumption); (case F => assumption); (case K => assumption); (case U => assumption); (case XB => assumption); (case TB => assumption); (case D => assumption); (case T0 => first | assumption | exact KtsTurn.refl); (case ex => k_is); (case q => kts_isx); k_whole); intro h' g' vs' sl' tk' T' F' N' K' X' P' D'; (try k_lift K'); (try k_sweep); (try dsimp only); walk_say "CAUGHT")))
  (k_with "call ref" => ((k_here; (with_reducible show wpAny _ _ (call (Value.ref 993) [Value.ref _, Value.ref _, Value.int _ _, Value.str _ _]) _ _ _); k_dflt (first   | (refine' refusal_in ?k2 ?k1 ?k3 ?k4 ?k5 ?XB ?TB ?D ?T0 ?kK ?he ?hd ?hl ?h4 ?hc ?hc' ?hz ?h1 ?h2 ?kd ?ku ?_; (case k2 => k_asm); (case k1 => k_asm); (case k3 => k_asm); (case k4 => k_asm); (case k5 => k_asm); (case XB => assumption); (case TB => assumption); (case D => assumption); (case T0 => first | assumption | exact KtsTurn.refl); (case kK => first | exact rfl | assumption); (case he => k_mem); (case hd => k_mem); (case hl => k_mem); (case h4 => omega); (case hc => omega); (case hc' => omega); (case hz => assumption); (case h1 => omega); (case h2 => omega); (case kd => ktr_room); (case ku => ktr_units); k_whole)   | (refine' refusal_out ?k2 ?k1 ?k3 ?k4 ?k5 ?XB ?TB ?D ?T0 ?kK ?he ?hd ?hl ?h4 ?hc ?hc' ?hz ?h1 ?kd ?ku ?_; (case k2 => k_asm); (case k1 => k_asm); (case k3 => k_asm); (case k4 => k_asm); (case k5 => k_asm); (case XB => assumption); (case TB => assumption); (case D => assumption); (case T0 => first | assumption | exact KtsTurn.refl); (case kK => first | exact rfl | assumption); (case he => k_mem); (case hd => k_mem); (case hl => k_mem); (case h4 => omega); (case hc => omega); (case hc' => omega); (case hz => assumption); (case h1 => omega); (case kd => ktr_room); (case ku => ktr_units); k_whole)); intro D' t' h' tk' h₁' T' F' N' B' X' P' D''; (try k_lift B'); (try k_sweep); (try dsimp only); walk_say "REFUSAL")))
  (k_with "call ref" => ((k_here; (with_reducible show wpAny _ _ (call (Value.ref 993) [Value.ref _, Value.ref _, Value.int _ _, Value.str _ _]) _ _ _); k_dflt (refine' refusal_none ?k2 ?k1 ?k3 ?k4 ?k5 ?XB ?TB ?D ?T0 ?kK ?he ?hd ?hl ?kd ?ku ?_; (case k2 => k_asm); (case k1 => k_asm); (case k3 => k_asm); (case k4 => k_asm); (case k5 => k_asm); (case XB => assumption); (case TB => assumption); (case D => assumption); (case T0 => first | assumption | exact KtsTurn.refl); (case kK => first | exact rfl | assumption); (case he => k_mem); (case hd => k_mem); (case hl => k_mem); (case kd => ktr_room); (case ku => ktr_units); k_whole); intro D' h' tk' h₁' T' F' N' B' X' P' D''; (try k_lift B'); (try k_sweep); (try dsimp only); walk_say "REFUSAL0")))
  (k_with "call ref" => ((k_here; (with_reducible show wpAny _ _ (call (Value.ref 979) _) _ _ _); k_dflt (refine' letters_use ?k2 ?k1 ?k3 ?k4 ?k5 ?kK ?kp ?ko ?hx ?kr ?kd ?ku ?_; (case k2 => k_asm); (case k1 => k_asm); (case k3 => k_asm); (case k4 => k_asm); (case k5 => k_asm); (case kK => first | exact rfl | assumption); (case kp => k_mem); (case ko => assumption); (case hx => assumption); (case kr => k_all); (case kd => ktr_room); (case ku => ktr_units); k_whole); intro y' t' o' h' tk' hnm' hso' F' N'; (try k_sweep); (try k_fold); (try dsimp only); walk_say "LETTERS")))
  (k_with "call ref" => ((k_here; (with_reducible show wpAny _ _ (call (Value.ref 972) [Value.ref _, Value.ref _]) _ _ _); k_dflt (first | ((refine' one_use (IsStrOf menu5) ?k1 ?k2 ?k3 ?k4 ?k5 ?kK ?kp ?ko ?kr ?hm ?h2 ?ht ?hP ?kd ?ku ?_; (case k2 => k_asm); (case k1 => k_asm); (case k3 => k_asm); (case k4 => k_asm); (case k5 => k_asm); (case kK => first | exact rfl | assumption); (case kp => k_mem); (case ko => assumption); (case kr => k_all); (case hm => k_mem); (case h2 => exact Nat.le_of_ble_eq_true rfl); (case ht => exact Nat.le_of_ble_eq_true rfl); (case hP => (repeat (first | exact List.forall_mem_nil _ | refine List.forall_mem_cons.mpr ⟨⟨_, _, rfl, by decide +kernel⟩, ?_⟩))); (case kd => ktr_room); (case ku => ktr_units); k_whole)) | ((refine' one_use IsShort ?k1 ?k2 ?k3 ?k4 ?k5 ?kK ?kp ?ko ?kr ?hm ?h2 ?ht ?hP ?kd ?ku ?_; (case k2 => k_asm); (case k1 => k_asm); (case k3 => k_asm); (case k4 => k_asm); (case k5 => k_asm); (case kK => first | exact rfl | assumption); (case kp => k_mem); (case ko => assumption); (case kr => k_all); (case hm => k_mem); (case h2 => exact Nat.le_of_ble_eq_true rfl); (case ht => exact Nat.le_of_ble_eq_true rfl); (case hP => (repeat (first | exact List.forall_mem_nil _ | refine List.forall_mem_cons.mpr ⟨⟨_, _, rfl, by decide +kernel⟩, ?_⟩))); (case kd => ktr_room); (case ku => ktr_units); k_whole))); intro r' o' h' tk' hP' hso' F' N'; k_dflt (obtain ⟨x', t', hr', hx'⟩ := hP'); subst hr'; (try k_sweep); (try k_fold); (try dsimp only); walk_say "ONE")))
  (k_with "size_fits" => (exact Nat.le_of_ble_eq_true rfl))
  (k_with "k_mem" => (((with_reducible show _ ∈ _ :: _); first | with_reducible exact mem_hd | ((with_reducible refine mem_tl ?_); (first | with_reducible exact mem_hd | ((with_reducible refine mem_tl ?_); (first | with_reducible exact mem_hd | ((with_reducible refine mem_tl ?_); (first | with_reducible exact mem_hd | ((with_reducible refine mem_tl ?_); (first | with_reducible exact mem_hd | ((with_reducible refine mem_tl ?_); (first | with_reducible exact mem_hd | ((with_reducible refine mem_tl ?_); (first | with_reducible exact mem_hd | ((with_reducible refine mem_tl ?_); (first | with_reducible exact mem_hd | ((with_reducible refine mem_tl ?_); (first | with_reducible exact mem_hd | ((with_reducible refine mem_tl ?_); (first | with_reducible exact mem_hd | ((with_reducible refine mem_tl ?_); (first | with_reducible exact mem_hd | ((with_reducible refine mem_tl ?_); (first | with_reducible exact mem_hd | ((with_reducible refine mem_tl ?_); (first | with_reducible exact mem_hd | ((with_reducible refine mem_tl ?_); (first | with_reducible exact mem_hd | ((with_reducible refine mem_tl ?_); (first | with_reducible exact mem_hd | ((with_reducible refine mem_tl ?_); (first | with_reducible exact mem_hd | ((with_reducible refine mem_tl ?_); ((first | ktr_member | (refine AllIn.sub (by assumption) _ ?_; ktr_member)))) | (first | ktr_member | (refine AllIn.sub (by assumption) _ ?_; ktr_member)))) | (first | ktr_member | (refine AllIn.sub (by assumption) _ ?_; ktr_member)))) | (first | ktr_member | (refine AllIn.sub (by assumption) _ ?_; ktr_member)))) | (first | ktr_member | (refine AllIn.sub (by assumption) _ ?_; ktr_member)))) | (first | ktr_member | (refine AllIn.sub (by assumption) _ ?_; ktr_member)))) | (first | ktr_member | (refine AllIn.sub (by assumption) _ ?_; ktr_member)))) | (first | ktr_member | (refine AllIn.sub (by assumption) _ ?_; ktr_member)))) | (first | ktr_member | (refine AllIn.sub (by assumption) _ ?_; ktr_member)))) | (first | ktr_member | (refine AllIn.sub (by assumption) _ ?_; ktr_member)))) | (first | ktr_member | (refine AllIn.sub (by assumption) _ ?_; ktr_member)))) | (first | ktr_member | (refine AllIn.sub (by assumption) _ ?_; ktr_member)))) | (first | ktr_member | (refine AllIn.sub (by assumption) _ ?_; ktr_member)))) | (first | ktr_member | (refine AllIn.sub (by assumption) _ ?_; ktr_member)))) | (first | ktr_member | (refine AllIn.sub (by assumption) _ ?_; ktr_member)))) | (first | ktr_member | (refine AllIn.sub (by assumption) _ ?_; ktr_member)))) | (first | ktr_member | (refine AllIn.sub (by assumption) _ ?_; ktr_member)))))
  (k_with "k_all" => (((repeat' (first | with_reducible assumption | exact l9_ne (by with_reducible assumption) | with_reducible refine ne_cons ?_ ?_ | exact ne_l1 (by with_reducible assumption) (by k_mem) | exact ne_l2 (by with_reducible assumption) (by with_reducible assumption) (by k_mem) | exact ne_l3 (by with_reducible assumption) (by with_reducible assumption) (by with_reducible assumption) (by k_mem) | exact ne_l4 (by with_reducible assumption) (by with_reducible assumption) (by with_reducible assumption) (by with_reducible assumption) (by k_mem) | k_ne)); done)))
  (k_with "call ref" => ((k_here; (with_reducible show wpAny _ _ (call (Value.ref 153) _) _ _ _); k_dflt (first | (refine' mk_name_use (mk_name) ?k1 ?k2 ?k3 ?k4 ?k5 ?kK ?kd ?ku ?_; (case k2 => k_asm); (case k1 => k_asm); (case k3 => k_asm); (case k4 => k_asm); (case k5 => k_asm); (case kK => first | exact rfl | assumption); (case kd => ktr_room); (case ku => ktr_units);  k_whole)); (intro E' D' _ _ _ _ _ _ _ _ _ _ _ l1' l2' h' tk' F' N'; (try k_lt l1'); (try k_lt2 l2')); (try k_sweep); (try k_fold); (try dsimp only); walk_say "MK_NAME")))
  (k_with "call ref" => ((k_here; (with_reducible show wpAny _ _ (call (Value.ref 127) _) _ _ _); k_dflt (first | (refine' mk_lit_use (mk_lit) ?k1 ?k2 ?k3 ?k4 ?k5 ?kK ?kd ?ku ?_; (case k2 => k_asm); (case k1 => k_asm); (case k3 => k_asm); (case k4 => k_asm); (case k5 => k_asm); (case kK => first | exact rfl | assumption); (case kd => ktr_room); (case ku => ktr_units);  k_whole)); (intro E' D' _ _ l1' l2' h' tk' F' N'; (try k_lt l1'); (try k_lt2 l2')); (try k_sweep); (try k_fold); (try dsimp only); walk_say "MK_LIT")))
  trivial
theorem item_a {prog : Program} {w : World} {A : Around} {E Q : Value → Shared → Prop} {s : Shared} {value slice : PySem.Expr} {h₀ : Heap} {L co : Addr} {news : Led} {a b : Value} {cr : List Value} {n : Nat} {u : Tok} (N : News h₀ L s.heap news) (hm : (co, listOf (a :: b :: cr).toArray n) ∈ news) (h : Q a s)
    (hsl : subscripted slice false (.ref co) (.int 0 u) = operate [.ref co, .int 0 u] (getItem (.ref co) (.int 0 u)) := by with_unfolding_all rfl) (hg : ∀ r, letTemporaryGo value (.ref co) r = pure () := by intro _; with_unfolding_all rfl) :
    wpAny (model prog w) A (subscriptTail value slice (.ref co) (.int 0 u)) Q E s :=
  item_list (News.isList N hm) (by decide) (by decide) (x := a) rfl h hsl hg
theorem item_b {prog : Program} {w : World} {A : Around} {E Q : Value → Shared → Prop} {s : Shared} {value slice : PySem.Expr} {h₀ : Heap} {L co : Addr} {news : Led} {a b : Value} {cr : List Value} {n : Nat} {u : Tok} (N : News h₀ L s.heap news) (hm : (co, listOf (a :: b :: cr).toArray n) ∈ news) (h : Q b s)
    (hsl : subscripted slice false (.ref co) (.int 1 u) = operate [.ref co, .int 1 u] (getItem (.ref co) (.int 1 u)) := by with_unfolding_all rfl) (hg : ∀ r, letTemporaryGo value (.ref co) r = pure () := by intro _; with_unfolding_all rfl) :
    wpAny (model prog w) A (subscriptTail value slice (.ref co) (.int 1 u)) Q E s :=
  item_list (News.isList N hm) (by decide) (by decide) (x := b) rfl h hsl hg
section
variable {a0 a1 a2 a3 a4 a5 a6 a7 a8 a9 a10 a11 a12 a13 a14 a15 a16 a17 a18 a19 a20 a21 a22 a23 a24 a25 a26 a27 a28 a29 a30 a31 a32 a33 a34 a35 a36 a37 a38 a39 a40 a41 a42 a43 a44 a45 a46 a47 a48 a49 a50 a51 a52 a53 a54 a55 a56 a57 a58 a59 : Int} {t0 t1 t2 t3 t4 t5 t6 t7 t8 t9 t10 t11 t12 t13 t14 t15 t16 t17 t18 t19 t20 t21 t22 t23 t24 t25 t26 t27 t28 t29 t30 t31 t32 t33 t34 t35 t36 t37 t38 t39 t40 t41 t42 t43 t44 t45 t46 t47 t48 t49 t50 t51 t52 t53 t54 t55 t56 t57 t58 t59 : Tok} {e dx so ds co r1 r2 : Addr} {p q k : Int} {tp tq tk : Tok} {v1 v2 s3 s4 s5 z1 z2 z3 z4 z5 z6 z7 y1 y2 y3 w1 w2 w3 : Value} {cr : List Value} {n1 n2 n3 : Nat}
theorem rows32 : True := by
  w_top off
  (k_with "eval IfExp" => ((k_here; (fail_if_success (with_reducible rename Cut => z9)); (with_reducible show wpAny _ _ _ _ _ _); refine stop_at ?_; walk_say "JOIN")))
  (k_with "k_handed" => (assumption))
  (k_with "subscriptTail" => ((k_here; k_dflt (first | ((with_reducible show wpAny _ _ (subscriptTail _ _ (Value.ref _) (Value.int 0 _)) _ _ _); refine' item_a ?N ?hm ?_; (case N => k_asm); (case hm => k_mem); k_whole) | ((with_reducible show wpAny _ _ (subscriptTail _ _ (Value.ref _) (Value.int 1 _)) _ _ _); refine' item_b ?N ?hm ?_; (case N => k_asm); (case hm => k_mem); k_whole)))))
  trivial
set_option maxHeartbeats 2000000 in
theorem bound_call {w : World} {pr : Program} {loose : List Str} {mean : ExcName → Option Value} {mg mb : Str → Option Value} {news : Led}
    (he : (e, instObj 153 dx) ∈ news) (hd : (dx, dictOf [⟨a0, .str (Str.ofString "table") t0, v1⟩, ⟨a1, .str (Str.ofString "column") t1, v2⟩, ⟨a2, .str (Str.ofString "source") t2, s3⟩, ⟨a3, .str (Str.ofString "place") t3, s4⟩, ⟨a4, .str (Str.ofString "depth") t4, s5⟩] n1) ∈ news) (hs : (so, instObj 897 ds) ∈ news) (hds : (ds, dictOf [⟨a5, .str (Str.ofString "number") t5, .int k tk⟩, ⟨a6, .str (Str.ofString "alias") t6, z1⟩, ⟨a7, .str (Str.ofString "table") t7, z2⟩, ⟨a8, .str (Str.ofString "columns") t8, .ref co⟩, ⟨a9, .str (Str.ofString "select") t9, z3⟩, ⟨a10, .str (Str.ofString "kind") t10, z4⟩, ⟨a11, .str (Str.ofString "hint") t11, z5⟩, ⟨a12, .str (Str.ofString "on") t12, z6⟩, ⟨a13, .str (Str.ofString "using") t13, z7⟩] n2) ∈ news)
    (hc : (co, listOf (.ref r1 :: .ref r2 :: cr).toArray n3) ∈ news) (hr1 : (r1, ({ cls := .type "tuple", data := .seq #[y1, y2, y3] } : Obj)) ∈ news) (hr2 : (r2, ({ cls := .type "tuple", data := .seq #[w1, w2, w3] } : Obj)) ∈ news) (hp : p = -1 ∨ p = 0 ∨ p = 1) (hv1 : handedIn v1 = true) (hv2 : handedIn v2 = true) :
    CallTo w pr loose mean mg mb 951 [.ref e, .ref so, .int p tp, .int q tq] news 4 (fun r news' => ∀ R : Value → Led → Prop, (∀ E D b1 b2 b3 b4 b5 b6 b7 u1 u2 u3 u4 u5 u6 u7 n x1 x2 x3, (∀ p ∈ news, p.1 < D) → D < E → R (.ref E) ((E, instObj 153 D) :: (D, dictOf [⟨b1, .str (Str.ofString "table") u1, v1⟩, ⟨b2, .str (Str.ofString "column") u2, v2⟩, ⟨b3, .str (Str.ofString "source") u3, .int k tk⟩, ⟨b4, .str (Str.ofString "place") u4, .int p tp⟩, ⟨b5, .str (Str.ofString "depth") u5, x1⟩, ⟨b6, .str (Str.ofString "affinity") u6, x2⟩, ⟨b7, .str (Str.ofString "collation") u7, x3⟩] n) :: news)) → R r news') := by
  exact ensure_expected_type% "" (by exact ?walk9 : type_of% (let_mvar% ?walk9 := (by
    intro dp un gd cn cs ac ccd cl outer A₀ base h₀ L m s Q E B F X N T hk hdp hun hret
    refine wpAny_call ?_
    k_dflt cell_enter
    k_steps
    all_goals (unfold Stop; have hcut9 : Cut := trivial; rcases hp with rfl | rfl | rfl)
    all_goals k_steps
    all_goals (refine hret _ _ _ _ ?_ (by k_asm) (by k_asm); exact fun R k => k _ _ _ _ _ _ _ _ _ _ _ _ _ _ _ _ _ _ _ _ (by assumption) (by first | assumption | omega))
    : _); ?walk9))
end
theorem rows33 : True := by
  w_top off
  k_with_none
  (k_with "execs cons" => ((k_here; (with_reducible refine gen_toks (P := fun k => wpAny _ _ _ _ _ ⟨_, _, _, k, _⟩) (_ + _) ?_); intro tk9'; walk_say "TOKS")))
  (k_with "eval Name" => ((k_here; name_kind "globalImplicit"; k_dflt (refine' nameX_K ?F ?X ?T ?e ?_ ?a ?b; (case F => k_asm); (case X => k_asm); (case T => k_asm); (case a => kernel_rfl!); (case b => kernel_rfl!); (case e => k_is); k_whole))))
  (k_with "eval Name" => ((k_here; name_kind "local"; k_dflt (refine' nameX_L ?F ?v ?_ ?a ?b; (case F => k_asm); (case a => kernel_rfl!); (case b => kernel_rfl!); (case v => rfl); k_whole))))
  (k_with "execs nil" => ((k_here; (with_reducible refine gen_toks (P := fun k => wpAny _ _ _ _ _ ⟨_, _, _, k, _⟩) (_ + _) ?_); intro tk9'; walk_say "TOKS")))
  (k_with "eval Name" => ((k_here; name_kind "globalImplicit"; name_is_builtin; k_dflt (refine' nameX_B ?F ?X ?T ?e ?v ?n ?_ ?a ?b; (case F => k_asm); (case X => k_asm); (case T => k_asm); (case a => kernel_rfl!); (case b => kernel_rfl!); (case e => k_is); (case v => boot_fast); (case n => decide); k_whole))))
  (k_with "ite" => ((k_closed; first | with_reducible refine ite_ff ?_ | with_reducible refine ite_tt ?_ | k_dflt (first | refine ite_t rfl ?_ | refine ite_f rfl ?_))))
  (k_with "call builtin:isinstance" => ((k_here; k_dflt (refine' isi_call ?k1 ?k2 ?k3 ?k4 ?_; (case k1 => k_in); (case k2 => k_types); (case k3 => k_is); (case k4 => intro e; cases e); k_whole))))
  (k_with "ktr_room" => (k_dflt (first | exact room2 (by with_reducible assumption) (by decide) | exact room1 (by with_reducible assumption) rfl | exact room0 (by with_reducible assumption))))
  (k_with "ktr_units" => (k_dflt (first | exact units2 (by with_reducible assumption) (by decide) | exact units1 (by with_reducible assumption) rfl | exact units0 (by with_reducible assumption) rfl | exact room0 (by with_reducible assumption))))
  (k_with "k_in" => (first | with_reducible assumption | exact Frag.In.keeps (by with_reducible assumption) (Fr.keep (by with_reducible assumption))))
  (k_with "call builtin:isinstance" => ((k_here; (with_reducible show wpAny _ _ (call _ [Value.ref _, Value.ref _]) _ _ _); k_dflt (refine' kin_callC ?k1 ?k2 ?k3 ?k4 ?k5 ?k6 ?k7 ?k8 ?k9 ?_; (case k1 => k_in); (case k2 => k_inst); (case k3 => kin_no); (case k4 => k_is); (case k5 => k_is); (case k6 => k_is); (case k7 => k_is); (case k8 => k_is); (case k9 => k_is); k_whole))))
  (k_with "getAttr ref" => ((k_here; k_dflt (refine' get_own ?k1 ?k2 ?k3 ?k4 ?k5 ?k6 ?k7 ?k8 ?k9 ?_; (case k1 => k_asm); (case k2 => k_asm); (case k3 => k_inst); (case k4 => k_is); (case k5 => k_is); (case k6 => k_is); (case k7 => k_is); (case k8 => k_get); (case k9 => k_handed); k_whole))))
  (k_with "k_room" => (ktr_room))
  (k_with "k_units" => (ktr_units))
  (k_with "k_all" => (assumption))
  (k_with "k_mem" => (first | assumption | ((with_reducible show Pick _ _ _); first | exact Pick.head | exact Pick.tail (Pick.head) | exact Pick.tail (Pick.tail (Pick.head)) | exact Pick.tail (Pick.tail (Pick.tail (Pick.head))) | exact Pick.tail (Pick.tail (Pick.tail (Pick.tail (Pick.head)))) | exact Pick.tail (Pick.tail (Pick.tail (Pick.tail (Pick.tail (Pick.head))))) | exact Pick.tail (Pick.tail (Pick.tail (Pick.tail (Pick.tail (Pick.tail (Pick.head)))))) | exact Pick.tail (Pick.tail (Pick.tail (Pick.tail (Pick.tail (Pick.tail (Pick.tail (Pick.head))))))) | exact Pick.t8 (Pick.head) | exact Pick.t8 (Pick.tail (Pick.head)) | exact Pick.t8 (Pick.tail (Pick.tail (Pick.head))) | exact Pick.t8 (Pick.tail (Pick.tail (Pick.tail (Pick.head)))) | exact Pick.t8 (Pick.tail (Pick.tail (Pick.tail (Pick.tail (Pick.head))))) | exact Pick.t8 (Pick.tail (Pick.tail (Pick.tail (Pick.tail (Pick.tail (Pick.head)))))) | exact Pick.t8 (Pick.tail (Pick.tail (Pick.tail (Pick.tail (Pick.tail (Pick.tail (Pick.head))))))) | exact Pick.t8 (Pick.tail (Pick.tail (Pick.tail (Pick.tail (Pick.tail (Pick.tail (Pick.tail (Pick.head)))))))) | exact Pick.t8 (Pick.t8 (Pick.head)) | exact Pick.t8 (Pick.t8 (Pick.tail (Pick.head))) | exact Pick.t8 (Pick.t8 (Pick.tail (Pick.tail (Pick.head)))) | exact Pick.t8 (Pick.t8 (Pick.tail (Pick.tail (Pick.tail (Pick.head))))) | exact Pick.t8 (Pick.t8 (Pick.tail (Pick.tail (Pick.tail (Pick.tail (Pick.head)))))) | exact Pick.t8 (Pick.t8 (Pick.tail (Pick.tail (Pick.tail (Pick.tail (Pick.tail (Pick.head))))))) | exact Pick.t8 (Pick.t8 (Pick.tail (Pick.tail (Pick.tail (Pick.tail (Pick.tail (Pick.tail (Pick.head)))))))) | exact Pick.t8 (Pick.t8 (Pick.tail (Pick.tail (Pick.tail (Pick.tail (Pick.tail (Pick.tail (Pick.tail (Pick.head))))))))) | exact Pick.t8 (Pick.t8 (Pick.t8 (Pick.head))) | exact Pick.t8 (Pick.t8 (Pick.t8 (Pick.tail (Pick.head)))) | exact Pick.t8 (Pick.t8 (Pick.t8 (Pick.tail (Pick.tail (Pick.head))))) | exact Pick.t8 (Pick.t8 (Pick.t8 (Pick.tail (Pick.tail (Pick.tail (Pick.head)))))) | exact Pick.t8 (Pick.t8 (Pick.t8 (Pick.tail (Pick.tail (Pick.tail (Pick.tail (Pick.head))))))) | exact Pick.t8 (Pick.t8 (Pick.t8 (Pick.tail (Pick.tail (Pick.tail (Pick.tail (Pick.tail (Pick.head)))))))) | exact Pick.t8 (Pick.t8 (Pick.t8 (Pick.tail (Pick.tail (Pick.tail (Pick.tail (Pick.tail (Pick.tail (Pick.head))))))))) | exact Pick.t8 (Pick.t8 (Pick.t8 (Pick.tail (Pick.tail (Pick.tail (Pick.tail (Pick.tail (Pick.tail (Pick.tail (Pick.head)))))))))) | exact Pick.t8 (Pick.t8 (Pick.t8 (Pick.t8 (Pick.head)))) | exact Pick.t8 (Pick.t8 (Pick.t8 (Pick.t8 (Pick.tail (Pick.head))))) | exact Pick.t8 (Pick.t8 (Pick.t8 (Pick.t8 (Pick.tail (Pick.tail (Pick.head)))))) | exact Pick.t8 (Pick.t8 (Pick.t8 (Pick.t8 (Pick.tail (Pick.tail (Pick.tail (Pick.head))))))) | exact Pick.t8 (Pick.t8 (Pick.t8 (Pick.t8 (Pick.tail (Pick.tail (Pick.tail (Pick.tail (Pick.head)))))))) | exact Pick.t8 (Pick.t8 (Pick.t8 (Pick.t8 (Pick.tail (Pick.tail (Pick.tail (Pick.tail (Pick.tail (Pick.head))))))))) | exact Pick.t8 (Pick.t8 (Pick.t8 (Pick.t8 (Pick.tail (Pick.tail (Pick.tail (Pick.tail (Pick.tail (Pick.tail (Pick.head)))))))))) | exact Pick.t8 (Pick.t8 (Pick.t8 (Pick.t8 (Pick.tail (Pick.tail (Pick.tail (Pick.tail (Pick.tail (Pick.tail (Pick.tail (Pick.head))))))))))) | exact Pick.t8 (Pick.t8 (Pick.t8 (Pick.t8 (Pick.t8 (Pick.head))))) | exact Pick.t8 (Pick.t8 (Pick.t8 (Pick.t8 (Pick.t8 (Pick.tail (Pick.head)))))) | exact Pick.t8 (Pick.t8 (Pick.t8 (Pick.t8 (Pick.t8 (Pick.tail (Pick.tail (Pick.head))))))) | exact Pick.t8 (Pick.t8 (Pick.t8 (Pick.t8 (Pick.t8 (Pick.tail (Pick.tail (Pick.tail (Pick.head)))))))) | exact Pick.t8 (Pick.t8 (Pick.t8 (Pick.t8 (Pick.t8 (Pick.tail (Pick.tail (Pick.tail (Pick.tail (Pick.head))))))))) | exact Pick.t8 (Pick.t8 (Pick.t8 (Pick.t8 (Pick.t8 (Pick.tail (Pick.tail (Pick.tail (Pick.tail (Pick.tail (Pick.head)))))))))) | exact Pick.t8 (Pick.t8 (Pick.t8 (Pick.t8 (Pick.t8 (Pick.tail (Pick.tail (Pick.tail (Pick.tail (Pick.tail (Pick.tail (Pick.head))))))))))) | exact Pick.t8 (Pick.t8 (Pick.t8 (Pick.t8 (Pick.t8 (Pick.tail (Pick.tail (Pick.tail (Pick.tail (Pick.tail (Pick.tail (Pick.tail (Pick.head)))))))))))) | exact Pick.t8 (Pick.t8 (Pick.t8 (Pick.t8 (Pick.t8 (Pick.t8 (Pick.head)))))) | exact Pick.t8 (Pick.t8 (Pick.t8 (Pick.t8 (Pick.t8 (Pick.t8 (Pick.tail (Pick.head))))))) | exact Pick.t8 (Pick.t8 (Pick.t8 (Pick.t8 (Pick.t8 (Pick.t8 (Pick.tail (Pick.tail (Pick.head)))))))) | exact Pick.t8 (Pick.t8 (Pick.t8 (Pick.t8 (Pick.t8 (Pick.t8 (Pick.tail (Pick.tail (Pick.tail (Pick.head))))))))) | exact Pick.t8 (Pick.t8 (Pick.t8 (Pick.t8 (Pick.t8 (Pick.t8 (Pick.tail (Pick.tail (Pick.tail (Pick.tail (Pick.head)))))))))) | exact Pick.t8 (Pick.t8 (Pick.t8 (Pick.t8 (Pick.t8 (Pick.t8 (Pick.tail (Pick.tail (Pick.tail (Pick.tail (Pick.tail (Pick.head))))))))))) | exact Pick.t8 (Pick.t8 (Pick.t8 (Pick.t8 (Pick.t8 (Pick.t8 (Pick.tail (Pick.tail (Pick.tail (Pick.tail (Pick.tail (Pick.tail (Pick.head)))))))))))) | exact Pick.t8 (Pick.t8 (Pick.t8 (Pick.t8 (Pick.t8 (Pick.t8 (Pick.tail (Pick.tail (Pick.tail (Pick.tail (Pick.tail (Pick.tail (Pick.tail (Pick.head)))))))))))))) | exact List.Mem.tail _ (by assumption)))
  (k_with "call ref" => ((k_here; (with_reducible show wpAny _ _ (call (Value.ref 965) _) _ _ _); k_dflt (refine' take_use ?k1 ?k2 ?k3 ?k4 ?k5 ?kK ?kp ?ko ?kr ?h2 ?ht ?kd ?ku ?_; (case k2 => k_asm); (case k1 => k_asm); (case k3 => k_asm); (case k4 => k_asm); (case k5 => k_asm); (case kK => first | exact rfl | assumption); (case kp => k_mem); (case ko => assumption); (case kr => k_all); (case h2 => omega); (case ht => omega); (case kd => ktr_room); (case ku => ktr_units); k_whole); intro d' t' o' h' tk' hd0' hd1' hso' F' N'; (try k_sweep); (try k_fold); (try dsimp only); walk_say "TAKE")))
  (k_with "call ref" => ((k_here; (with_reducible show wpAny _ _ (call (Value.ref 58) _) _ _ _); k_dflt (refine' fold_use ?k1 ?k2 ?k3 ?k4 ?k5 ?kK ?kn ?kd ?ku ?_; (case k2 => k_asm); (case k1 => k_asm); (case k3 => k_asm); (case k4 => k_asm); (case k5 => k_asm); (case kK => first | exact rfl | assumption); (case kn => assumption); (case kd => ktr_room); (case ku => ktr_units); k_whole); intro t' h' tk' F' N'; (try k_sweep); (try k_fold); (try dsimp only); walk_say "FOLD")))
  (k_with "call ref" => ((k_here; (with_reducible show wpAny _ _ (call (Value.ref 986) _) _ _ _); k_dflt (refine' lordinal_use ?k1 ?k2 ?k3 ?k4 ?k5 ?kK ?h0 ?h1 ?kd ?ku ?_; (case k2 => k_asm); (case k1 => k_asm); (case k3 => k_asm); (case k4 => k_asm); (case k5 => k_asm); (case kK => first | exact rfl | assumption); (case h0 => omega); (case h1 => omega); (case kd => ktr_room); (case ku => ktr_units); k_whole); intro t' h' tk' hol' F' N'; (try k_sweep); (try k_fold); (try dsimp only); walk_say "LORDINAL")))
  (k_with "call ref" => ((k_here; (with_reducible show wpAny _ _ (call (Value.ref 852) _) _ _ _); k_dflt (refine' ordinal_use ?k1 ?k2 ?k3 ?k4 ?k5 ?kK ?h0 ?h1 ?kd ?ku ?_; (case k2 => k_asm); (case k1 => k_asm); (case k3 => k_asm); (case k4 => k_asm); (case k5 => k_asm); (case kK => first | exact rfl | assumption); (case h0 => omega); (case h1 => omega); (case kd => ktr_room); (case ku => ktr_units); k_whole); intro t' h' tk' hol' F' N'; (try k_sweep); (try k_fold); (try dsimp only); walk_say "ORDINAL")))
  (k_with "call builtin:len" => ((k_here; (with_reducible show wpAny _ _ (call (Value.builtin "len") [Value.ref _]) _ _ _); k_dflt (refine' len_short ?N ?m ?f ?_; (case N => k_asm); (case m => k_mem); (case f => omega); k_whole))))
  (k_with "call ref" => ((k_here; (with_reducible show wpAny _ _ (call (Value.ref 866) _) _ _ _); k_dflt (refine' alias_use ?k1 ?k2 ?k3 ?k4 ?k5 ?kK ?ke ?kD ?kv ?kl ?kn ?k9 ?kd ?ku ?_; (case k2 => k_asm); (case k1 => k_asm); (case k3 => k_asm); (case k4 => k_asm); (case k5 => k_asm); (case kK => first | exact rfl | assumption); (case ke => k_mem); (case kD => k_mem); (case kv => assumption); (case kl => k_mem); (case kn => assumption); (case k9 => assumption); (case kd => ktr_room); (case ku => ktr_units); k_whole); intro t' h' tk' F' N'; (try k_sweep); (try k_fold); (try dsimp only); walk_say "ALIAS")))
  (k_with "call ref" => ((k_here; (with_reducible show wpAny _ _ (call (Value.ref 51) _) _ _ _); k_dflt (refine' exc_make ?F ?X ?N ?hC ?b1 ?b2 ?b3 ?hv ?hi ?hf ?_; (case F => k_asm); (case X => k_asm); (case N => k_asm); (case hC => k_is); (case b1 => decide +kernel); (case b2 => decide +kernel); (case b3 => decide +kernel); (case hv => exact Nat.le_of_ble_eq_true rfl); (case hi => k_is); (case hf => k_is); k_whole); intro e' T' h' F' N' l1 l2 l3; (try k_lt l1); (try k_lt2 l2); (try k_sweep); k_enter; walk_say "EXC MADE")))
  (k_with "setAttr ref" => ((k_here; k_dflt (refine' exc_set ?F ?X ?N ?hx ?hc ?hm ?hd ?hs ?ht ?_; (case F => k_asm); (case X => k_asm); (case N => k_asm); (case hx => k_all); (case hc => k_is); (case hm => exact rfl); (case hd => exact rfl); (case hs => k_is); (case ht => k_is); k_whole); intro d' h' tk' a' b' F' N' l1 l2 l3; (try k_lt l1); (try k_sweep); (try dsimp only); walk_say "EXC SET")))
  (k_with "getAttr ref" => ((k_here; k_dflt (refine' exc_get ?F ?X ?N ?hx ?hdx ?hc ?hm ?hd ?hg ?hk ?ha ?hl ?hv ?_; (case F => k_asm); (case X => k_asm); (case N => k_asm); (case hx => k_mem); (case hdx => k_mem); (case hc => k_is); (case hm => exact rfl); (case hd => exact rfl); (case hg => k_is); (case hk => k_is); (case ha => k_is); (case hl => exact rfl); (case hv => exact rfl); k_whole); intro tk'; walk_say "EXC GET")))
  (k_with "exec Raise some none" => ((k_here; (with_reducible show wpAny _ _ (exec (Stmt.Raise (some (Expr.Call (Expr.Name ("SqlError" : Str) _) _ _ _)) none _) _) _ _ _); refine Raise_own rfl ?_; walk_say "RAISE")))
  (k_with "RaisableD" => ((k_dflt (refine' raisableD ?F ?X ?N ?hm ?q ?_; (case F => k_asm); (case X => k_asm); (case N => k_asm); (case hm => k_mem); (case q => kts_isx); k_whole); walk_say "RAISABLE")))
  (k_with "leaving ref" => ((k_here; k_dflt (refine' leave_raiseD ?K ?F ?N ?ne ?_; (case K => k_asm); (case F => k_asm); (case N => k_asm); (case ne => k_all); k_whole); intro h' R' U'; (try dsimp only at R' U' ⊢); walk_say "LEAVING")))
  (k_with "noteFrame ref" => ((k_here; (with_reducible rename RaisedD _ _ _ _ _ _ _ _ => rsX); k_dflt (refine' caught_D ?R ?F ?K ?U ?XB ?TB ?D ?T0 ?ex ?q ?_; (case R => assumption); (case F => assumption); (case K => assumption); (case U => assumption); (case XB => assumption); (case TB => assumption); (case D => assumption); (case T0 => first | assumption | exact KtsTurn.refl); (case ex => k_is); (case q => kts_isx); k_whole); intro h' g' vs' sl' tk' T' F' N' K' X' P' D'; (try k_lift K'); (try k_sweep); (try dsimp only); walk_say "CAUGHT")))
  (k_with "call ref" => ((k_here; (with_reducible show wpAny _ _ (call (Value.ref 993) [Value.ref _, Value.ref _, Value.int _ _, Value.str _ _]) _ _ _); k_dflt (first   | (refine' refusal_in ?k2 ?k1 ?k3 ?k4 ?k5 ?XB ?TB ?D ?T0 ?kK ?he ?hd ?hl ?h4 ?hc ?hc' ?hz ?h1 ?h2 ?kd ?ku ?_; (case k2 => k_asm); (case k1 => k_asm); (case k3 => k_asm); (case k4 => k_asm); (case k5 => k_asm); (case XB => assumption); (case TB => assumption); (case D => assumption); (case T0 => first | assumption | exact KtsTurn.refl); (case kK => first | exact rfl | assumption); (case he => k_mem); (case hd => k_mem); (case hl => k_mem); (case h4 => omega); (case hc => omega); (case hc' => omega); (case hz => assumption); (case h1 => omega); (case h2 => omega); (case kd => ktr_room); (case ku => ktr_units); k_whole)   | (refine' refusal_out ?k2 ?k1 ?k3 ?k4 ?k5 ?XB ?TB ?D ?T0 ?kK ?he ?hd ?hl ?h4 ?hc ?hc' ?hz ?h1 ?kd ?ku ?_; (case k2 => k_asm); (case k1 => k_asm); (case k3 => k_asm); (case k4 => k_asm); (case k5 => k_asm); (case XB => assumption); (case TB => assumption); (case D => assumption); (case T0 => first | assumption | exact KtsTurn.refl); (case kK => first | exact rfl | assumption); (case he => k_mem); (case hd => k_mem); (case hl => k_mem); (case h4 => omega); (case hc => omega); (case hc' => omega); (case hz => assumption); (case h1 => omega); (case kd => ktr_room); (case ku => ktr_units); k_whole)); intro D' t' h' tk' h₁' T' F' N' B' X' P' D''; (try k_lift B'); (try k_sweep); (try dsimp only); walk_say "REFUSAL")))
  (k_with "call ref" => ((k_here; (with_reducible show wpAny _ _ (call (Value.ref 993) [Value.ref _, Value.ref _, Value.int _ _, Value.str _ _]) _ _ _); k_dflt (refine' refusal_none ?k2 ?k1 ?k3 ?k4 ?k5 ?XB ?TB ?D ?T0 ?kK ?he ?hd ?hl ?kd ?ku ?_; (case k2 => k_asm); (case k1 => k_asm); (case k3 => k_asm); (case k4 => k_asm); (case k5 => k_asm); (case XB => assumption); (case TB => assumption); (case D => assumption); (case T0 => first | assumption | exact KtsTurn.refl); (case kK => first | exact rfl | assumption); (case he => k_mem); (case hd => k_mem); (case hl => k_mem); (case kd => ktr_room); (case ku => ktr_units); k_whole); intro D' h' tk' h₁' T' F' N' B' X' P' D''; (try k_lift B'); (try k_sweep); (try dsimp only); walk_say "REFUSAL0")))
  (k_with "call ref" => ((k_here; (with_reducible show wpAny _ _ (call (Value.ref 979) _) _ _ _); k_dflt (refine' letters_use ?k2 ?k1 ?k3 ?k4 ?k5 ?kK ?kp ?ko ?hx ?kr ?kd ?ku ?_; (case k2 => k_asm); (case k1 => k_asm); (case k3 => k_asm); (case k4 => k_asm); (case k5 => k_asm); (case kK => first | exact rfl | assumption); (case kp => k_mem); (case ko => assumption); (case hx => assumption); (case kr => k_all); (case kd => ktr_room); (case ku => ktr_units); k_whole); intro y' t' o' h' tk' hnm' hso' F' N'; (try k_sweep); (try k_fold); (try dsimp only); walk_say "LETTERS")))
  (k_with "call ref" => ((k_here; (with_reducible show wpAny _ _ (call (Value.ref 972) [Value.ref _, Value.ref _]) _ _ _); k_dflt (first | ((refine' one_use (IsStrOf menu5) ?k1 ?k2 ?k3 ?k4 ?k5 ?kK ?kp ?ko ?kr ?hm ?h2 ?ht ?hP ?kd ?ku ?_; (case k2 => k_asm); (case k1 => k_asm); (case k3 => k_asm); (case k4 => k_asm); (case k5 => k_asm); (case kK => first | exact rfl | assumption); (case kp => k_mem); (case ko => assumption); (case kr => k_all); (case hm => k_mem); (case h2 => exact Nat.le_of_ble_eq_true rfl); (case ht => exact Nat.le_of_ble_eq_true rfl); (case hP => (repeat (first | exact List.forall_mem_nil _ | refine List.forall_mem_cons.mpr ⟨⟨_, _, rfl, by decide +kernel⟩, ?_⟩))); (case kd => ktr_room); (case ku => ktr_units); k_whole)) | ((refine' one_use IsShort ?k1 ?k2 ?k3 ?k4 ?k5 ?kK ?kp ?ko ?kr ?hm ?h2 ?ht ?hP ?kd ?ku ?_; (case k2 => k_asm); (case k1 => k_asm); (case k3 => k_asm); (case k4 => k_asm); (case k5 => k_asm); (case kK => first | exact rfl | assumption); (case kp => k_mem); (case ko => assumption); (case kr => k_all); (case hm => k_mem); (case h2 => exact Nat.le_of_ble_eq_true rfl); (case ht => exact Nat.le_of_ble_eq_true rfl); (case hP => (repeat (first | exact List.forall_mem_nil _ | refine List.forall_mem_cons.mpr ⟨⟨_, _, rfl, by decide +kernel⟩, ?_⟩))); (case kd => ktr_room); (case ku => ktr_units); k_whole))); intro r' o' h' tk' hP' hso' F' N'; k_dflt (obtain ⟨x', t', hr', hx'⟩ := hP'); subst hr'; (try k_sweep); (try k_fold); (try dsimp only); walk_say "ONE")))
  (k_with "size_fits" => (exact Nat.le_of_ble_eq_true rfl))
  (k_with "k_mem" => (((with_reducible show _ ∈ _ :: _); first | with_reducible exact mem_hd | ((with_reducible refine mem_tl ?_); (first | with_reducible exact mem_hd | ((with_reducible refine mem_tl ?_); (first | with_reducible exact mem_hd | ((with_reducible refine mem_tl ?_); (first | with_reducible exact mem_hd | ((with_reducible refine mem_tl ?_); (first | with_reducible exact mem_hd | ((with_reducible refine mem_tl ?_); (first | with_reducible exact mem_hd | ((with_reducible refine mem_tl ?_); (first | with_reducible exact mem_hd | ((with_reducible refine mem_tl ?_); (first | with_reducible exact mem_hd | ((with_reducible refine mem_tl ?_); (first | with_reducible exact mem_hd | ((with_reducible refine mem_tl ?_); (first | with_reducible exact mem_hd | ((with_reducible refine mem_tl ?_); (first | with_reducible exact mem_hd | ((with_reducible refine mem_tl ?_); (first | with_reducible exact mem_hd | ((with_reducible refine mem_tl ?_); (first | with_reducible exact mem_hd | ((with_reducible refine mem_tl ?_); (first | with_reducible exact mem_hd | ((with_reducible refine mem_tl ?_); (first | with_reducible exact mem_hd | ((with_reducible refine mem_tl ?_); (first | with_reducible exact mem_hd | ((with_reducible refine mem_tl ?_); ((first | ktr_member | (refine AllIn.sub (by assumption) _ ?_; ktr_member)))) | (first | ktr_member | (refine AllIn.sub (by assumption) _ ?_; ktr_member)))) | (first | ktr_member | (refine AllIn.sub (by assumption) _ ?_; ktr_member)))) | (first | ktr_member | (refine AllIn.sub (by assumption) _ ?_; ktr_member)))) | (first | ktr_member | (refine AllIn.sub (by assumption) _ ?_; ktr_member)))) | (first | ktr_member | (refine AllIn.sub (by assumption) _ ?_; ktr_member)))) | (first | ktr_member | (refine AllIn.sub (by assumption) _ ?_; ktr_member)))) | (first | ktr_member | (refine AllIn.sub (by assumption) _ ?_; ktr_member)))) | (first | ktr_member | (refine AllIn.sub (by assumption) _ ?_; ktr_member)))) | (first | ktr_member | (refine AllIn.sub (by assumption) _ ?_; ktr_member)))) | (first | ktr_member | (refine AllIn.sub (by assumption) _ ?_; ktr_member)))) | (first | ktr_member | (refine AllIn.sub (by assumption) _ ?_; ktr_member)))) | (first | ktr_member | (refine AllIn.sub (by assumption) _ ?_; ktr_member)))) | (first | ktr_member | (refine AllIn.sub (by assumption) _ ?_; ktr_member)))) | (first | ktr_member | (refine AllIn.sub (by assumption) _ ?_; ktr_member)))) | (first | ktr_member | (refine AllIn.sub (by assumption) _ ?_; ktr_member)))) | (first | ktr_member | (refine AllIn.sub (by assumption) _ ?_; ktr_member)))))
  (k_with "k_all" => (((repeat' (first | with_reducible assumption | exact l9_ne (by with_reducible assumption) | with_reducible refine ne_cons ?_ ?_ | exact ne_l1 (by with_reducible assumption) (by k_mem) | exact ne_l2 (by with_reducible assumption) (by with_reducible assumption) (by k_mem) | exact ne_l3 (by with_reducible assumption) (by with_reducible assumption) (by with_reducible assumption) (by k_mem) | exact ne_l4 (by with_reducible assumption) (by with_reducible assumption) (by with_reducible assumption) (by with_reducible assumption) (by k_mem) | k_ne)); done)))
  (k_with "call ref" => ((k_here; (with_reducible show wpAny _ _ (call (Value.ref 153) _) _ _ _); k_dflt (first | (refine' mk_name_use (mk_name) ?k1 ?k2 ?k3 ?k4 ?k5 ?kK ?kd ?ku ?_; (case k2 => k_asm); (case k1 => k_asm); (case k3 => k_asm); (case k4 => k_asm); (case k5 => k_asm); (case kK => first | exact rfl | assumption); (case kd => ktr_room); (case ku => ktr_units);  k_whole)); (intro E' D' _ _ _ _ _ _ _ _ _ _ _ l1' l2' h' tk' F' N'; (try k_lt l1'); (try k_lt2 l2')); (try k_sweep); (try k_fold); (try dsimp only); walk_say "MK_NAME")))
  (k_with "call ref" => ((k_here; (with_reducible show wpAny _ _ (call (Value.ref 127) _) _ _ _); k_dflt (first | (refine' mk_lit_use (mk_lit) ?k1 ?k2 ?k3 ?k4 ?k5 ?kK ?kd ?ku ?_; (case k2 => k_asm); (case k1 => k_asm); (case k3 => k_asm); (case k4 => k_asm); (case k5 => k_asm); (case kK => first | exact rfl | assumption); (case kd => ktr_room); (case ku => ktr_units);  k_whole)); (intro E' D' _ _ l1' l2' h' tk' F' N'; (try k_lt l1'); (try k_lt2 l2')); (try k_sweep); (try k_fold); (try dsimp only); walk_say "MK_LIT")))
  trivial
theorem bound_use {w : World} {p : Program} {loose : List Str} {mean : ExcName → Option Value} {mg mb : Str → Option Value} {f : Addr} {vs : List Value} {news : Led} {need : Nat} {dp un : Nat} {gd : Option (List Code)} {cn : Str} {cs : Scope} {a : Addr} {ccd : Value} {cl : List (Str × Addr)} {outer : List Env} {A₀ : Around} {base h₀ : Heap} {L : Addr} {m : Str → Option Value} {s : Shared} {Q E : Value → Shared → Prop} {v1 v2 : Value} {k p0 : Int} {tk tp : Tok}
    (C : CallTo w p loose mean mg mb f vs news need (fun r news' => ∀ R : Value → Led → Prop, (∀ E D b1 b2 b3 b4 b5 b6 b7 u1 u2 u3 u4 u5 u6 u7 n x1 x2 x3, (∀ p ∈ news, p.1 < D) → D < E → R (.ref E) ((E, instObj 153 D) :: (D, dictOf [⟨b1, .str (Str.ofString "table") u1, v1⟩, ⟨b2, .str (Str.ofString "column") u2, v2⟩, ⟨b3, .str (Str.ofString "source") u3, .int k tk⟩, ⟨b4, .str (Str.ofString "place") u4, .int p0 tp⟩, ⟨b5, .str (Str.ofString "depth") u5, x1⟩, ⟨b6, .str (Str.ofString "affinity") u6, x2⟩, ⟨b7, .str (Str.ofString "collation") u7, x3⟩] n) :: news)) → R r news')) (B : Below A₀ base outer h₀) (F : Fr h₀ L s.heap m) (X : (Mine.kept.heap_1 w.params).In h₀) (N : News h₀ L s.heap news) (T : Top p loose mean mg mb h₀) (hk : cs.kind = .function) (hd : dp + need < recursionLimit) (hu : un + 8 * need < cLine)
    (ret : ∀ E D b1 b2 b3 b4 b5 b6 b7 u1 u2 u3 u4 u5 u6 u7 n x1 x2 x3, (∀ p ∈ news, p.1 < D) → D < E → ∀ h' tk', Fr h₀ L h' m → News h₀ L h' ((E, instObj 153 D) :: (D, dictOf [⟨b1, .str (Str.ofString "table") u1, v1⟩, ⟨b2, .str (Str.ofString "column") u2, v2⟩, ⟨b3, .str (Str.ofString "source") u3, .int k tk⟩, ⟨b4, .str (Str.ofString "place") u4, .int p0 tp⟩, ⟨b5, .str (Str.ofString "depth") u5, x1⟩, ⟨b6, .str (Str.ofString "affinity") u6, x2⟩, ⟨b7, .str (Str.ofString "collation") u7, x3⟩] n) :: news) → Q (.ref E) { s with heap := h', toks := tk' }) : wpAny (model PG w) (ktrTop dp un gd cn cs L a ccd cl outer) (call (.ref f) vs) Q E s :=
  C _ _ _ _ _ _ _ _ _ _ _ _ _ _ _ _ _ B F X N T hk hd hu fun r n h' tk' P9 F9 N9 => P9 (fun r n => Fr h₀ L h' m → News h₀ L h' n → Q r { s with heap := h', toks := tk' }) (fun E D b1 b2 b3 b4 b5 b6 b7 u1 u2 u3 u4 u5 u6 u7 n x1 x2 x3 l1 l2 F9 N9 => ret E D b1 b2 b3 b4 b5 b6 b7 u1 u2 u3 u4 u5 u6 u7 n x1 x2 x3 l1 l2 h' tk' F9 N9) F9 N9
theorem unr_back {h₀ : Heap} {L I ax : Addr} {it lo : Obj} {rest' : (Str → Option Value) → List (Addr × Obj) → Prop} {s₁ : Shared} {h' : Heap} {tk : Nat} {m' : Str → Option Value} {all news : List (Addr × Obj)} (F : Fr h₀ L h' m') (N : News h₀ L h' all)
    (l1 : ∀ p ∈ news, p.1 < I) (hI : (I, it) ∈ all) (sub : ∀ p ∈ news, p ∈ all) (hm : (ax, lo) ∈ news) (r : rest' m' news) : UnrEnd h₀ L s₁ I it (fun m' n' => (ax, lo) ∈ n' ∧ rest' m' n') { s₁ with heap := h', toks := tk } :=
  UnrEnd.intro F N news (List.forall_mem_cons.mpr ⟨hI, sub⟩) (fun p hp => Nat.ne_of_lt (l1 p hp)) ⟨hm, r⟩
section
variable {a0 a1 a2 a3 a4 a5 a6 a7 a8 a9 a10 a11 a12 a13 a14 a15 a16 a17 a18 a19 a20 a21 a22 a23 a24 a25 a26 a27 a28 a29 a30 a31 a32 a33 a34 a35 a36 a37 a38 a39 a40 a41 a42 a43 a44 a45 a46 a47 a48 a49 a50 a51 a52 a53 a54 a55 a56 a57 a58 a59 : Int} {t0 t1 t2 t3 t4 t5 t6 t7 t8 t9 t10 t11 t12 t13 t14 t15 t16 t17 t18 t19 t20 t21 t22 t23 t24 t25 t26 t27 t28 t29 t30 t31 t32 t33 t34 t35 t36 t37 t38 t39 t40 t41 t42 t43 t44 t45 t46 t47 t48 t49 t50 t51 t52 t53 t54 t55 t56 t57 t58 t59 : Tok} {c dc e dx e2 d2 sc dsc sl so1 ds1 so2 ds2 c1 c2 r1 r2 : Addr} {p k : Int} {tp tk tz tn1 tn2 : Tok} {z : Str} {v1 v2 col due q1 s3 s4 s5 m1 m2 m3 m4 m5 z1 z2 z3 z4 z5 z6 z7 x1 x2 x3 x4 x5 x6 x7 g1 g2 g3 g4 g5 y1 y2 y3 w1 w2 w3 : Value} {cr1 cr2 : List Value} {es es2 : List DictEntry} {C C2 : Nat} {n0 n1 n2 n3 n4 n5 n6 n7 n8 : Nat}
theorem rows34 : True := by
  w_top off
  (k_with "subscriptTail" => ((k_here; k_dflt (first | ((with_reducible show wpAny _ _ (subscriptTail _ _ (Value.ref _) (Value.int 0 _)) _ _ _); refine' item_a ?N ?hm ?_; (case N => k_asm); (case hm => k_mem); k_whole) | ((with_reducible show wpAny _ _ (subscriptTail _ _ (Value.ref _) (Value.int 1 _)) _ _ _); refine' item_b ?N ?hm ?_; (case N => k_asm); (case hm => k_mem); k_whole)))))
  (k_with "pyIter ref" => ((k_here; (rename Fr _ _ _ _ => lF'); (with_unfolding_all refine iter_listUnr (lo := listOf #[_, _] _) (vs := [_, _]) (by rfl) lF' (by k_asm) (by assumption) (by rfl) (by rfl) ?_); clear lF'; intro i' l1; walk_say "TWO")))
  (k_with "UnrEnd" => ((k_dflt (refine' unr_back ?F ?N ?l1 ?hI ?sub ?hm ?_; (case F => k_asm); (case N => k_asm); (case l1 => assumption); (case hI => k_mem); (case hm => assumption); (case sub => exact fun p hp => by first | exact hp | exact List.Mem.tail _ hp | exact List.mem_append.mpr (.inl hp) | exact List.mem_append.mpr (.inr hp) | exact List.Mem.tail _ (List.Mem.tail _ hp)); k_whole); walk_say "TURN")))
  (k_with "k_handed" => (assumption))
  trivial
set_option maxHeartbeats 2000000 in
theorem out_alias {w : World} {pr : Program} {loose : List Str} {mean : ExcName → Option Value} {mg mb : Str → Option Value} {news : Led}
    (hc : (c, instObj 541 dc) ∈ news) (hdc : (dc, dictOf [⟨a0, .str (Str.ofString "value") t0, .ref e⟩, ⟨a1, .str (Str.ofString "alias") t1, .str z tz⟩, ⟨a2, .str (Str.ofString "star_table") t2, q1⟩] n0) ∈ news) :
    CallTo w pr loose mean mg mb 845 [.ref c, v2, .ref sc] news 2 (fun r news' => (∃ t, r = .str z t) ∧ news' = news) := by
  exact ensure_expected_type% "" (by exact ?walk9 : type_of% (let_mvar% ?walk9 := (by
    intro dp un gd cn cs ac ccd cl outer A₀ base h₀ L m s Q E B F X N T hk hdp hun hret
    all_goals (refine wpAny_call ?_; k_dflt cell_enter)
    k_steps
    all_goals exact hret _ _ _ _ ⟨⟨_, rfl⟩, rfl⟩ (by k_asm) (cb_drop (by assumption) fun _ h => by repeat (first | exact h | refine List.Mem.tail _ ?_))
    : _); ?walk9))
theorem rows35 : True := by
  w_top off
  (k_with "exec For Name Attribute cons nil" => ((k_here; (fail_if_success (with_reducible rename Cut => z9)); (with_reducible show wpAny _ _ _ _ _ _); refine stop_at ?_; walk_say "JOIN")))
  trivial
set_option maxHeartbeats 2000000 in
theorem out_found {w : World} {pr : Program} {loose : List Str} {mean : ExcName → Option Value} {mg mb : Str → Option Value} {news : Led}
    (hc : (c, instObj 541 dc) ∈ news) (hdc : (dc, dictOf [⟨a0, .str (Str.ofString "value") t0, .ref e⟩, ⟨a1, .str (Str.ofString "alias") t1, .none⟩, ⟨a2, .str (Str.ofString "star_table") t2, q1⟩] n0) ∈ news) (he : (e, instObj 153 dx) ∈ news) (hd : (dx, dictOf [⟨a3, .str (Str.ofString "table") t3, v1⟩, ⟨a4, .str (Str.ofString "column") t4, col⟩, ⟨a5, .str (Str.ofString "source") t5, s3⟩, ⟨a6, .str (Str.ofString "place") t6, s4⟩, ⟨a7, .str (Str.ofString "depth") t7, s5⟩] n1) ∈ news) (he2 : (e2, instObj 153 d2) ∈ news) (hd2 : (d2, dictOf [⟨a8, .str (Str.ofString "table") t8, m1⟩, ⟨a9, .str (Str.ofString "column") t9, m2⟩, ⟨a10, .str (Str.ofString "source") t10, .int k tk⟩, ⟨a11, .str (Str.ofString "place") t11, .int p tp⟩, ⟨a12, .str (Str.ofString "depth") t12, m3⟩, ⟨a13, .str (Str.ofString "affinity") t13, m4⟩, ⟨a14, .str (Str.ofString "collation") t14, m5⟩] n2) ∈ news)
    (hsc : (sc, instObj 940 dsc) ∈ news) (hds : (dsc, dictOf [⟨a15, .str (Str.ofString "sources") t15, .ref sl⟩, ⟨a16, .str (Str.ofString "parent") t16, g1⟩, ⟨a17, .str (Str.ofString "aliases") t17, g2⟩, ⟨a18, .str (Str.ofString "catalog") t18, g3⟩, ⟨a19, .str (Str.ofString "counter") t19, g4⟩, ⟨a20, .str (Str.ofString "outer") t20, g5⟩] n3) ∈ news) (hsl : (sl, listOf #[.ref so1, .ref so2] n4) ∈ news)
    (hs1 : (so1, instObj 897 ds1) ∈ news) (hd1 : (ds1, dictOf [⟨a21, .str (Str.ofString "number") t21, .int 4 tn1⟩, ⟨a22, .str (Str.ofString "alias") t22, z1⟩, ⟨a23, .str (Str.ofString "table") t23, z2⟩, ⟨a24, .str (Str.ofString "columns") t24, .ref c1⟩, ⟨a25, .str (Str.ofString "select") t25, z3⟩, ⟨a26, .str (Str.ofString "kind") t26, z4⟩, ⟨a27, .str (Str.ofString "hint") t27, z5⟩, ⟨a28, .str (Str.ofString "on") t28, z6⟩, ⟨a29, .str (Str.ofString "using") t29, z7⟩] n5) ∈ news) (hs2 : (so2, instObj 897 ds2) ∈ news) (hds2 : (ds2, dictOf [⟨a30, .str (Str.ofString "number") t30, .int 7 tn2⟩, ⟨a31, .str (Str.ofString "alias") t31, x1⟩, ⟨a32, .str (Str.ofString "table") t32, x2⟩, ⟨a33, .str (Str.ofString "columns") t33, .ref c2⟩, ⟨a34, .str (Str.ofString "select") t34, x3⟩, ⟨a35, .str (Str.ofString "kind") t35, x4⟩, ⟨a36, .str (Str.ofString "hint") t36, x5⟩, ⟨a37, .str (Str.ofString "on") t37, x6⟩, ⟨a38, .str (Str.ofString "using") t38, x7⟩] n6) ∈ news)
    (hc1 : (c1, listOf (.ref r1 :: .ref r2 :: cr1).toArray n7) ∈ news) (hc2 : (c2, listOf (.ref r1 :: .ref r2 :: cr2).toArray n8) ∈ news)
    (hr1 : (r1, ({ cls := .type "tuple", data := .seq #[y1, y2, y3] } : Obj)) ∈ news) (hr2 : (r2, ({ cls := .type "tuple", data := .seq #[w1, w2, w3] } : Obj)) ∈ news) (hcol : handedIn col = true)
    (hk' : (k = 4 ∧ p = 0 ∧ due = y1) ∨ (k = 4 ∧ p = 1 ∧ due = w1) ∨ (k = 7 ∧ p = 0 ∧ due = y1) ∨ (k = 7 ∧ p = 1 ∧ due = w1) ∨ (k = 4 ∧ p = -1 ∧ due = col) ∨ (k = 7 ∧ p = -1 ∧ due = col) ∨ (k = 1 ∧ due = col)) :
    CallTo w pr loose mean mg mb 845 [.ref c, .ref e2, .ref sc] news 4 (fun r news' => r = due ∧ news' = news) := by
  exact ensure_expected_type% "" (by exact ?walk9 : type_of% (let_mvar% ?walk9 := (by
    intro dp un gd cn cs ac ccd cl outer A₀ base h₀ L m s Q E B F X N T hk hdp hun hret
    all_goals (refine wpAny_call ?_; k_dflt cell_enter)
    k_steps
    all_goals (unfold Stop; have hcut9 : Cut := trivial; rcases hk' with ⟨rfl, rfl, rfl⟩ | ⟨rfl, rfl, rfl⟩ | ⟨rfl, rfl, rfl⟩ | ⟨rfl, rfl, rfl⟩ | ⟨rfl, rfl, rfl⟩ | ⟨rfl, rfl, rfl⟩ | ⟨rfl, rfl⟩)
    all_goals k_steps
    all_goals exact hret _ _ _ _ ⟨rfl, rfl⟩ (by k_asm) (cb_drop (by assumption) fun _ h => by repeat (first | exact h | refine List.Mem.tail _ ?_))
    : _); ?walk9))
end
theorem rows36 : True := by
  w_top off
  k_with_none
  (k_with "execs cons" => ((k_here; (with_reducible refine gen_toks (P := fun k => wpAny _ _ _ _ _ ⟨_, _, _, k, _⟩) (_ + _) ?_); intro tk9'; walk_say "TOKS")))
  (k_with "eval Name" => ((k_here; name_kind "globalImplicit"; k_dflt (refine' nameX_K ?F ?X ?T ?e ?_ ?a ?b; (case F => k_asm); (case X => k_asm); (case T => k_asm); (case a => kernel_rfl!); (case b => kernel_rfl!); (case e => k_is); k_whole))))
  (k_with "eval Name" => ((k_here; name_kind "local"; k_dflt (refine' nameX_L ?F ?v ?_ ?a ?b; (case F => k_asm); (case a => kernel_rfl!); (case b => kernel_rfl!); (case v => rfl); k_whole))))
  (k_with "execs nil" => ((k_here; (with_reducible refine gen_toks (P := fun k => wpAny _ _ _ _ _ ⟨_, _, _, k, _⟩) (_ + _) ?_); intro tk9'; walk_say "TOKS")))
  (k_with "eval Name" => ((k_here; name_kind "globalImplicit"; name_is_builtin; k_dflt (refine' nameX_B ?F ?X ?T ?e ?v ?n ?_ ?a ?b; (case F => k_asm); (case X => k_asm); (case T => k_asm); (case a => kernel_rfl!); (case b => kernel_rfl!); (case e => k_is); (case v => boot_fast); (case n => decide); k_whole))))
  (k_with "ite" => ((k_closed; first | with_reducible refine ite_ff ?_ | with_reducible refine ite_tt ?_ | k_dflt (first | refine ite_t rfl ?_ | refine ite_f rfl ?_))))
  (k_with "call builtin:isinstance" => ((k_here; k_dflt (refine' isi_call ?k1 ?k2 ?k3 ?k4 ?_; (case k1 => k_in); (case k2 => k_types); (case k3 => k_is); (case k4 => intro e; cases e); k_whole))))
  (k_with "ktr_room" => (k_dflt (first | exact room2 (by with_reducible assumption) (by decide) | exact room1 (by with_reducible assumption) rfl | exact room0 (by with_reducible assumption))))
  (k_with "ktr_units" => (k_dflt (first | exact units2 (by with_reducible assumption) (by decide) | exact units1 (by with_reducible assumption) rfl | exact units0 (by with_reducible assumption) rfl | exact room0 (by with_reducible assumption))))
  (k_with "k_in" => (first | with_reducible assumption | exact Frag.In.keeps (by with_reducible assumption) (Fr.keep (by with_reducible assumption))))
  (k_with "call builtin:isinstance" => ((k_here; (with_reducible show wpAny _ _ (call _ [Value.ref _, Value.ref _]) _ _ _); k_dflt (refine' kin_callC ?k1 ?k2 ?k3 ?k4 ?k5 ?k6 ?k7 ?k8 ?k9 ?_; (case k1 => k_in); (case k2 => k_inst); (case k3 => kin_no); (case k4 => k_is); (case k5 => k_is); (case k6 => k_is); (case k7 => k_is); (case k8 => k_is); (case k9 => k_is); k_whole))))
  (k_with "getAttr ref" => ((k_here; k_dflt (refine' get_own ?k1 ?k2 ?k3 ?k4 ?k5 ?k6 ?k7 ?k8 ?k9 ?_; (case k1 => k_asm); (case k2 => k_asm); (case k3 => k_inst); (case k4 => k_is); (case k5 => k_is); (case k6 => k_is); (case k7 => k_is); (case k8 => k_get); (case k9 => k_handed); k_whole))))
  (k_with "k_room" => (ktr_room))
  (k_with "k_units" => (ktr_units))
  (k_with "k_all" => (assumption))
  (k_with "k_mem" => (first | assumption | ((with_reducible show Pick _ _ _); first | exact Pick.head | exact Pick.tail (Pick.head) | exact Pick.tail (Pick.tail (Pick.head)) | exact Pick.tail (Pick.tail (Pick.tail (Pick.head))) | exact Pick.tail (Pick.tail (Pick.tail (Pick.tail (Pick.head)))) | exact Pick.tail (Pick.tail (Pick.tail (Pick.tail (Pick.tail (Pick.head))))) | exact Pick.tail (Pick.tail (Pick.tail (Pick.tail (Pick.tail (Pick.tail (Pick.head)))))) | exact Pick.tail (Pick.tail (Pick.tail (Pick.tail (Pick.tail (Pick.tail (Pick.tail (Pick.head))))))) | exact Pick.t8 (Pick.head) | exact Pick.t8 (Pick.tail (Pick.head)) | exact Pick.t8 (Pick.tail (Pick.tail (Pick.head))) | exact Pick.t8 (Pick.tail (Pick.tail (Pick.tail (Pick.head)))) | exact Pick.t8 (Pick.tail (Pick.tail (Pick.tail (Pick.tail (Pick.head))))) | exact Pick.t8 (Pick.tail (Pick.tail (Pick.tail (Pick.tail (Pick.tail (Pick.head)))))) | exact Pick.t8 (Pick.tail (Pick.tail (Pick.tail (Pick.tail (Pick.tail (Pick.tail (Pick.head))))))) | exact Pick.t8 (Pick.tail (Pick.tail (Pick.tail (Pick.tail (Pick.tail (Pick.tail (Pick.tail (Pick.head)))))))) | exact Pick.t8 (Pick.t8 (Pick.head)) | exact Pick.t8 (Pick.t8 (Pick.tail (Pick.head))) | exact Pick.t8 (Pick.t8 (Pick.tail (Pick.tail (Pick.head)))) | exact Pick.t8 (Pick.t8 (Pick.tail (Pick.tail (Pick.tail (Pick.head))))) | exact Pick.t8 (Pick.t8 (Pick.tail (Pick.tail (Pick.tail (Pick.tail (Pick.head)))))) | exact Pick.t8 (Pick.t8 (Pick.tail (Pick.tail (Pick.tail (Pick.tail (Pick.tail (Pick.head))))))) | exact Pick.t8 (Pick.t8 (Pick.tail (Pick.tail (Pick.tail (Pick.tail (Pick.tail (Pick.tail (Pick.head)))))))) | exact Pick.t8 (Pick.t8 (Pick.tail (Pick.tail (Pick.tail (Pick.tail (Pick.tail (Pick.tail (Pick.tail (Pick.head))))))))) | exact Pick.t8 (Pick.t8 (Pick.t8 (Pick.head))) | exact Pick.t8 (Pick.t8 (Pick.t8 (Pick.tail (Pick.head)))) | exact Pick.t8 (Pick.t8 (Pick.t8 (Pick.tail (Pick.tail (Pick.head))))) | exact Pick.t8 (Pick.t8 (Pick.t8 (Pick.tail (Pick.tail (Pick.tail (Pick.head)))))) | exact Pick.t8 (Pick.t8 (Pick.t8 (Pick.tail (Pick.tail (Pick.tail (Pick.tail (Pick.head))))))) | exact Pick.t8 (Pick.t8 (Pick.t8 (Pick.tail (Pick.tail (Pick.tail (Pick.tail (Pick.tail (Pick.head)))))))) | exact Pick.t8 (Pick.t8 (Pick.t8 (Pick.tail (Pick.tail (Pick.tail (Pick.tail (Pick.tail (Pick.tail (Pick.head))))))))) | exact Pick.t8 (Pick.t8 (Pick.t8 (Pick.tail (Pick.tail (Pick.tail (Pick.tail (Pick.tail (Pick.tail (Pick.tail (Pick.head)))))))))) | exact Pick.t8 (Pick.t8 (Pick.t8 (Pick.t8 (Pick.head)))) | exact Pick.t8 (Pick.t8 (Pick.t8 (Pick.t8 (Pick.tail (Pick.head))))) | exact Pick.t8 (Pick.t8 (Pick.t8 (Pick.t8 (Pick.tail (Pick.tail (Pick.head)))))) | exact Pick.t8 (Pick.t8 (Pick.t8 (Pick.t8 (Pick.tail (Pick.tail (Pick.tail (Pick.head))))))) | exact Pick.t8 (Pick.t8 (Pick.t8 (Pick.t8 (Pick.tail (Pick.tail (Pick.tail (Pick.tail (Pick.head)))))))) | exact Pick.t8 (Pick.t8 (Pick.t8 (Pick.t8 (Pick.tail (Pick.tail (Pick.tail (Pick.tail (Pick.tail (Pick.head))))))))) | exact Pick.t8 (Pick.t8 (Pick.t8 (Pick.t8 (Pick.tail (Pick.tail (Pick.tail (Pick.tail (Pick.tail (Pick.tail (Pick.head)))))))))) | exact Pick.t8 (Pick.t8 (Pick.t8 (Pick.t8 (Pick.tail (Pick.tail (Pick.tail (Pick.tail (Pick.tail (Pick.tail (Pick.tail (Pick.head))))))))))) | exact Pick.t8 (Pick.t8 (Pick.t8 (Pick.t8 (Pick.t8 (Pick.head))))) | exact Pick.t8 (Pick.t8 (Pick.t8 (Pick.t8 (Pick.t8 (Pick.tail (Pick.head)))))) | exact Pick.t8 (Pick.t8 (Pick.t8 (Pick.t8 (Pick.t8 (Pick.tail (Pick.tail (Pick.head))))))) | exact Pick.t8 (Pick.t8 (Pick.t8 (Pick.t8 (Pick.t8 (Pick.tail (Pick.tail (Pick.tail (Pick.head)))))))) | exact Pick.t8 (Pick.t8 (Pick.t8 (Pick.t8 (Pick.t8 (Pick.tail (Pick.tail (Pick.tail (Pick.tail (Pick.head))))))))) | exact Pick.t8 (Pick.t8 (Pick.t8 (Pick.t8 (Pick.t8 (Pick.tail (Pick.tail (Pick.tail (Pick.tail (Pick.tail (Pick.head)))))))))) | exact Pick.t8 (Pick.t8 (Pick.t8 (Pick.t8 (Pick.t8 (Pick.tail (Pick.tail (Pick.tail (Pick.tail (Pick.tail (Pick.tail (Pick.head))))))))))) | exact Pick.t8 (Pick.t8 (Pick.t8 (Pick.t8 (Pick.t8 (Pick.tail (Pick.tail (Pick.tail (Pick.tail (Pick.tail (Pick.tail (Pick.tail (Pick.head)))))))))))) | exact Pick.t8 (Pick.t8 (Pick.t8 (Pick.t8 (Pick.t8 (Pick.t8 (Pick.head)))))) | exact Pick.t8 (Pick.t8 (Pick.t8 (Pick.t8 (Pick.t8 (Pick.t8 (Pick.tail (Pick.head))))))) | exact Pick.t8 (Pick.t8 (Pick.t8 (Pick.t8 (Pick.t8 (Pick.t8 (Pick.tail (Pick.tail (Pick.head)))))))) | exact Pick.t8 (Pick.t8 (Pick.t8 (Pick.t8 (Pick.t8 (Pick.t8 (Pick.tail (Pick.tail (Pick.tail (Pick.head))))))))) | exact Pick.t8 (Pick.t8 (Pick.t8 (Pick.t8 (Pick.t8 (Pick.t8 (Pick.tail (Pick.tail (Pick.tail (Pick.tail (Pick.head)))))))))) | exact Pick.t8 (Pick.t8 (Pick.t8 (Pick.t8 (Pick.t8 (Pick.t8 (Pick.tail (Pick.tail (Pick.tail (Pick.tail (Pick.tail (Pick.head))))))))))) | exact Pick.t8 (Pick.t8 (Pick.t8 (Pick.t8 (Pick.t8 (Pick.t8 (Pick.tail (Pick.tail (Pick.tail (Pick.tail (Pick.tail (Pick.tail (Pick.head)))))))))))) | exact Pick.t8 (Pick.t8 (Pick.t8 (Pick.t8 (Pick.t8 (Pick.t8 (Pick.tail (Pick.tail (Pick.tail (Pick.tail (Pick.tail (Pick.tail (Pick.tail (Pick.head)))))))))))))) | exact List.Mem.tail _ (by assumption)))
  (k_with "call ref" => ((k_here; (with_reducible show wpAny _ _ (call (Value.ref 965) _) _ _ _); k_dflt (refine' take_use ?k1 ?k2 ?k3 ?k4 ?k5 ?kK ?kp ?ko ?kr ?h2 ?ht ?kd ?ku ?_; (case k2 => k_asm); (case k1 => k_asm); (case k3 => k_asm); (case k4 => k_asm); (case k5 => k_asm); (case kK => first | exact rfl | assumption); (case kp => k_mem); (case ko => assumption); (case kr => k_all); (case h2 => omega); (case ht => omega); (case kd => ktr_room); (case ku => ktr_units); k_whole); intro d' t' o' h' tk' hd0' hd1' hso' F' N'; (try k_sweep); (try k_fold); (try dsimp only); walk_say "TAKE")))
  (k_with "call ref" => ((k_here; (with_reducible show wpAny _ _ (call (Value.ref 58) _) _ _ _); k_dflt (refine' fold_use ?k1 ?k2 ?k3 ?k4 ?k5 ?kK ?kn ?kd ?ku ?_; (case k2 => k_asm); (case k1 => k_asm); (case k3 => k_asm); (case k4 => k_asm); (case k5 => k_asm); (case kK => first | exact rfl | assumption); (case kn => assumption); (case kd => ktr_room); (case ku => ktr_units); k_whole); intro t' h' tk' F' N'; (try k_sweep); (try k_fold); (try dsimp only); walk_say "FOLD")))
  (k_with "call ref" => ((k_here; (with_reducible show wpAny _ _ (call (Value.ref 986) _) _ _ _); k_dflt (refine' lordinal_use ?k1 ?k2 ?k3 ?k4 ?k5 ?kK ?h0 ?h1 ?kd ?ku ?_; (case k2 => k_asm); (case k1 => k_asm); (case k3 => k_asm); (case k4 => k_asm); (case k5 => k_asm); (case kK => first | exact rfl | assumption); (case h0 => omega); (case h1 => omega); (case kd => ktr_room); (case ku => ktr_units); k_whole); intro t' h' tk' hol' F' N'; (try k_sweep); (try k_fold); (try dsimp only); walk_say "LORDINAL")))
  (k_with "call ref" => ((k_here; (with_reducible show wpAny _ _ (call (Value.ref 852) _) _ _ _); k_dflt (refine' ordinal_use ?k1 ?k2 ?k3 ?k4 ?k5 ?kK ?h0 ?h1 ?kd ?ku ?_; (case k2 => k_asm); (case k1 => k_asm); (case k3 => k_asm); (case k4 => k_asm); (case k5 => k_asm); (case kK => first | exact rfl | assumption); (case h0 => omega); (case h1 => omega); (case kd => ktr_room); (case ku => ktr_units); k_whole); intro t' h' tk' hol' F' N'; (try k_sweep); (try k_fold); (try dsimp only); walk_say "ORDINAL")))
  (k_with "call builtin:len" => ((k_here; (with_reducible show wpAny _ _ (call (Value.builtin "len") [Value.ref _]) _ _ _); k_dflt (refine' len_short ?N ?m ?f ?_; (case N => k_asm); (case m => k_mem); (case f => omega); k_whole))))
  (k_with "call ref" => ((k_here; (with_reducible show wpAny _ _ (call (Value.ref 866) _) _ _ _); k_dflt (refine' alias_use ?k1 ?k2 ?k3 ?k4 ?k5 ?kK ?ke ?kD ?kv ?kl ?kn ?k9 ?kd ?ku ?_; (case k2 => k_asm); (case k1 => k_asm); (case k3 => k_asm); (case k4 => k_asm); (case k5 => k_asm); (case kK => first | exact rfl | assumption); (case ke => k_mem); (case kD => k_mem); (case kv => assumption); (case kl => k_mem); (case kn => assumption); (case k9 => assumption); (case kd => ktr_room); (case ku => ktr_units); k_whole); intro t' h' tk' F' N'; (try k_sweep); (try k_fold); (try dsimp only); walk_say "ALIAS")))
  (k_with "call ref" => ((k_here; (with_reducible show wpAny _ _ (call (Value.ref 51) _) _ _ _); k_dflt (refine' exc_make ?F ?X ?N ?hC ?b1 ?b2 ?b3 ?hv ?hi ?hf ?_; (case F => k_asm); (case X => k_asm); (case N => k_asm); (case hC => k_is); (case b1 => decide +kernel); (case b2 => decide +kernel); (case b3 => decide +kernel); (case hv => exact Nat.le_of_ble_eq_true rfl); (case hi => k_is); (case hf => k_is); k_whole); intro e' T' h' F' N' l1 l2 l3; (try k_lt l1); (try k_lt2 l2); (try k_sweep); k_enter; walk_say "EXC MADE")))
  (k_with "setAttr ref" => ((k_here; k_dflt (refine' exc_set ?F ?X ?N ?hx ?hc ?hm ?hd ?hs ?ht ?_; (case F => k_asm); (case X => k_asm); (case N => k_asm); (case hx => k_all); (case hc => k_is); (case hm => exact rfl); (case hd => exact rfl); (case hs => k_is); (case ht => k_is); k_whole); intro d' h' tk' a' b' F' N' l1 l2 l3; (try k_lt l1); (try k_sweep); (try dsimp only); walk_say "EXC SET")))
  (k_with "getAttr ref" => ((k_here; k_dflt (refine' exc_get ?F ?X ?N ?hx ?hdx ?hc ?hm ?hd ?hg ?hk ?ha ?hl ?hv ?_; (case F => k_asm); (case X => k_asm); (case N => k_asm); (case hx => k_mem); (case hdx => k_mem); (case hc => k_is); (case hm => exact rfl); (case hd => exact rfl); (case hg => k_is); (case hk => k_is); (case ha => k_is); (case hl => exact rfl); (case hv => exact rfl); k_whole); intro tk'; walk_say "EXC GET")))
  (k_with "exec Raise some none" => ((k_here; (with_reducible show wpAny _ _ (exec (Stmt.Raise (some (Expr.Call (Expr.Name ("SqlError" : Str) _) _ _ _)) none _) _) _ _ _); refine Raise_own rfl ?_; walk_say "RAISE")))
  (k_with "RaisableD" => ((k_dflt (refine' raisableD ?F ?X ?N ?hm ?q ?_; (case F => k_asm); (case X => k_asm); (case N => k_asm); (case hm => k_mem); (case q => kts_isx); k_whole); walk_say "RAISABLE")))
  (k_with "leaving ref" => ((k_here; k_dflt (refine' leave_raiseD ?K ?F ?N ?ne ?_; (case K => k_asm); (case F => k_asm); (case N => k_asm); (case ne => k_all); k_whole); intro h' R' U'; (try dsimp only at R' U' ⊢); walk_say "LEAVING")))
  (k_with "noteFrame ref" => ((k_here; (with_reducible rename RaisedD _ _ _ _ _ _ _ _ => rsX); k_dflt (refine' caught_D ?R ?F ?K ?U ?XB ?TB ?D ?T0 ?ex ?q ?_; (case R => assumption); (case F => assumption); (case K => assumption); (case U => assumption); (case XB => assumption); (case TB => assumption); (case D => assumption); (case T0 => first | assumption | exact KtsTurn.refl); (case ex => k_is); (case q => kts_isx); k_whole); intro h' g' vs' sl' tk' T' F' N' K' X' P' D'; (try k_lift K'); (try k_sweep); (try dsimp only); walk_say "CAUGHT")))
  (k_with "call ref" => ((k_here; (with_reducible show wpAny _ _ (call (Value.ref 993) [Value.ref _, Value.ref _, Value.int _ _, Value.str _ _]) _ _ _); k_dflt (first   | (refine' refusal_in ?k2 ?k1 ?k3 ?k4 ?k5 ?XB ?TB ?D ?T0 ?kK ?he ?hd ?hl ?h4 ?hc ?hc' ?hz ?h1 ?h2 ?kd ?ku ?_; (case k2 => k_asm); (case k1 => k_asm); (case k3 => k_asm); (case k4 => k_asm); (case k5 => k_asm); (case XB => assumption); (case TB => assumption); (case D => assumption); (case T0 => first | assumption | exact KtsTurn.refl); (case kK => first | exact rfl | assumption); (case he => k_mem); (case hd => k_mem); (case hl => k_mem); (case h4 => omega); (case hc => omega); (case hc' => omega); (case hz => assumption); (case h1 => omega); (case h2 => omega); (case kd => ktr_room); (case ku => ktr_units); k_whole)   | (refine' refusal_out ?k2 ?k1 ?k3 ?k4 ?k5 ?XB ?TB ?D ?T0 ?kK ?he ?hd ?hl ?h4 ?hc ?hc' ?hz ?h1 ?kd ?ku ?_; (case k2 => k_asm); (case k1 => k_asm); (case k3 => k_asm); (case k4 => k_asm); (case k5 => k_asm); (case XB => assumption); (case TB => assumption); (case D => assumption); (case T0 => first | assumption | exact KtsTurn.refl); (case kK => first | exact rfl | assumption); (case he => k_mem); (case hd => k_mem); (case hl => k_mem); (case h4 => omega); (case hc => omega); (case hc' => omega); (case hz => assumption); (case h1 => omega); (case kd => ktr_room); (case ku => ktr_units); k_whole)); intro D' t' h' tk' h₁' T' F' N' B' X' P' D''; (try k_lift B'); (try k_sweep); (try dsimp only); walk_say "REFUSAL")))
  (k_with "call ref" => ((k_here; (with_reducible show wpAny _ _ (call (Value.ref 993) [Value.ref _, Value.ref _, Value.int _ _, Value.str _ _]) _ _ _); k_dflt (refine' refusal_none ?k2 ?k1 ?k3 ?k4 ?k5 ?XB ?TB ?D ?T0 ?kK ?he ?hd ?hl ?kd ?ku ?_; (case k2 => k_asm); (case k1 => k_asm); (case k3 => k_asm); (case k4 => k_asm); (case k5 => k_asm); (case XB => assumption); (case TB => assumption); (case D => assumption); (case T0 => first | assumption | exact KtsTurn.refl); (case kK => first | exact rfl | assumption); (case he => k_mem); (case hd => k_mem); (case hl => k_mem); (case kd => ktr_room); (case ku => ktr_units); k_whole); intro D' h' tk' h₁' T' F' N' B' X' P' D''; (try k_lift B'); (try k_sweep); (try dsimp only); walk_say "REFUSAL0")))
  (k_with "call ref" => ((k_here; (with_reducible show wpAny _ _ (call (Value.ref 979) _) _ _ _); k_dflt (refine' letters_use ?k2 ?k1 ?k3 ?k4 ?k5 ?kK ?kp ?ko ?hx ?kr ?kd ?ku ?_; (case k2 => k_asm); (case k1 => k_asm); (case k3 => k_asm); (case k4 => k_asm); (case k5 => k_asm); (case kK => first | exact rfl | assumption); (case kp => k_mem); (case ko => assumption); (case hx => assumption); (case kr => k_all); (case kd => ktr_room); (case ku => ktr_units); k_whole); intro y' t' o' h' tk' hnm' hso' F' N'; (try k_sweep); (try k_fold); (try dsimp only); walk_say "LETTERS")))
  (k_with "call ref" => ((k_here; (with_reducible show wpAny _ _ (call (Value.ref 972) [Value.ref _, Value.ref _]) _ _ _); k_dflt (first | ((refine' one_use (IsStrOf menu5) ?k1 ?k2 ?k3 ?k4 ?k5 ?kK ?kp ?ko ?kr ?hm ?h2 ?ht ?hP ?kd ?ku ?_; (case k2 => k_asm); (case k1 => k_asm); (case k3 => k_asm); (case k4 => k_asm); (case k5 => k_asm); (case kK => first | exact rfl | assumption); (case kp => k_mem); (case ko => assumption); (case kr => k_all); (case hm => k_mem); (case h2 => exact Nat.le_of_ble_eq_true rfl); (case ht => exact Nat.le_of_ble_eq_true rfl); (case hP => (repeat (first | exact List.forall_mem_nil _ | refine List.forall_mem_cons.mpr ⟨⟨_, _, rfl, by decide +kernel⟩, ?_⟩))); (case kd => ktr_room); (case ku => ktr_units); k_whole)) | ((refine' one_use IsShort ?k1 ?k2 ?k3 ?k4 ?k5 ?kK ?kp ?ko ?kr ?hm ?h2 ?ht ?hP ?kd ?ku ?_; (case k2 => k_asm); (case k1 => k_asm); (case k3 => k_asm); (case k4 => k_asm); (case k5 => k_asm); (case kK => first | exact rfl | assumption); (case kp => k_mem); (case ko => assumption); (case kr => k_all); (case hm => k_mem); (case h2 => exact Nat.le_of_ble_eq_true rfl); (case ht => exact Nat.le_of_ble_eq_true rfl); (case hP => (repeat (first | exact List.forall_mem_nil _ | refine List.forall_mem_cons.mpr ⟨⟨_, _, rfl, by decide +kernel⟩, ?_⟩))); (case kd => ktr_room); (case ku => ktr_units); k_whole))); intro r' o' h' tk' hP' hso' F' N'; k_dflt (obtain ⟨x', t', hr', hx'⟩ := hP'); subst hr'; (try k_sweep); (try k_fold); (try dsimp only); walk_say "ONE")))
  (k_with "size_fits" => (exact Nat.le_of_ble_eq_true rfl))
  (k_with "k_mem" => (((with_reducible show _ ∈ _ :: _); first | with_reducible exact mem_hd | ((with_reducible refine mem_tl ?_); (first | with_reducible exact mem_hd | ((with_reducible refine mem_tl ?_); (first | with_reducible exact mem_hd | ((with_reducible refine mem_tl ?_); (first | with_reducible exact mem_hd | ((with_reducible refine mem_tl ?_); (first | with_reducible exact mem_hd | ((with_reducible refine mem_tl ?_); (first | with_reducible exact mem_hd | ((with_reducible refine mem_tl ?_); (first | with_reducible exact mem_hd | ((with_reducible refine mem_tl ?_); (first | with_reducible exact mem_hd | ((with_reducible refine mem_tl ?_); (first | with_reducible exact mem_hd | ((with_reducible refine mem_tl ?_); (first | with_reducible exact mem_hd | ((with_reducible refine mem_tl ?_); (first | with_reducible exact mem_hd | ((with_reducible refine mem_tl ?_); (first | with_reducible exact mem_hd | ((with_reducible refine mem_tl ?_); (first | with_reducible exact mem_hd | ((with_reducible refine mem_tl ?_); (first | with_reducible exact mem_hd | ((with_reducible refine mem_tl ?_); (first | with_reducible exact mem_hd | ((with_reducible refine mem_tl ?_); (first | with_reducible exact mem_hd | ((with_reducible refine mem_tl ?_); ((first | ktr_member | (refine AllIn.sub (by assumption) _ ?_; ktr_member)))) | (first | ktr_member | (refine AllIn.sub (by assumption) _ ?_; ktr_member)))) | (first | ktr_member | (refine AllIn.sub (by assumption) _ ?_; ktr_member)))) | (first | ktr_member | (refine AllIn.sub (by assumption) _ ?_; ktr_member)))) | (first | ktr_member | (refine AllIn.sub (by assumption) _ ?_; ktr_member)))) | (first | ktr_member | (refine AllIn.sub (by assumption) _ ?_; ktr_member)))) | (first | ktr_member | (refine AllIn.sub (by assumption) _ ?_; ktr_member)))) | (first | ktr_member | (refine AllIn.sub (by assumption) _ ?_; ktr_member)))) | (first | ktr_member | (refine AllIn.sub (by assumption) _ ?_; ktr_member)))) | (first | ktr_member | (refine AllIn.sub (by assumption) _ ?_; ktr_member)))) | (first | ktr_member | (refine AllIn.sub (by assumption) _ ?_; ktr_member)))) | (first | ktr_member | (refine AllIn.sub (by assumption) _ ?_; ktr_member)))) | (first | ktr_member | (refine AllIn.sub (by assumption) _ ?_; ktr_member)))) | (first | ktr_member | (refine AllIn.sub (by assumption) _ ?_; ktr_member)))) | (first | ktr_member | (refine AllIn.sub (by assumption) _ ?_; ktr_member)))) | (first | ktr_member | (refine AllIn.sub (by assumption) _ ?_; ktr_member)))) | (first | ktr_member | (refine AllIn.sub (by assumption) _ ?_; ktr_member)))))
  (k_with "k_all" => (((repeat' (first | with_reducible assumption | exact l9_ne (by with_reducible assumption) | with_reducible refine ne_cons ?_ ?_ | exact ne_l1 (by with_reducible assumption) (by k_mem) | exact ne_l2 (by with_reducible assumption) (by with_reducible assumption) (by k_mem) | exact ne_l3 (by with_reducible assumption) (by with_reducible assumption) (by with_reducible assumption) (by k_mem) | exact ne_l4 (by with_reducible assumption) (by with_reducible assumption) (by with_reducible assumption) (by with_reducible assumption) (by k_mem) | k_ne)); done)))
  (k_with "call ref" => ((k_here; (with_reducible show wpAny _ _ (call (Value.ref 153) _) _ _ _); k_dflt (first | (refine' mk_name_use (mk_name) ?k1 ?k2 ?k3 ?k4 ?k5 ?kK ?kd ?ku ?_; (case k2 => k_asm); (case k1 => k_asm); (case k3 => k_asm); (case k4 => k_asm); (case k5 => k_asm); (case kK => first | exact rfl | assumption); (case kd => ktr_room); (case ku => ktr_units);  k_whole)); (intro E' D' _ _ _ _ _ _ _ _ _ _ _ l1' l2' h' tk' F' N'; (try k_lt l1'); (try k_lt2 l2')); (try k_sweep); (try k_fold); (try dsimp only); walk_say "MK_NAME")))
  (k_with "call ref" => ((k_here; (with_reducible show wpAny _ _ (call (Value.ref 127) _) _ _ _); k_dflt (first | (refine' mk_lit_use (mk_lit) ?k1 ?k2 ?k3 ?k4 ?k5 ?kK ?kd ?ku ?_; (case k2 => k_asm); (case k1 => k_asm); (case k3 => k_asm); (case k4 => k_asm); (case k5 => k_asm); (case kK => first | exact rfl | assumption); (case kd => ktr_room); (case ku => ktr_units);  k_whole)); (intro E' D' _ _ l1' l2' h' tk' F' N'; (try k_lt l1'); (try k_lt2 l2')); (try k_sweep); (try k_fold); (try dsimp only); walk_say "MK_LIT")))
  trivial
section
variable {a0 a1 a2 a3 a4 a5 a6 a7 a8 a9 a10 a11 a12 a13 a14 a15 a16 a17 a18 a19 a20 a21 a22 a23 a24 a25 a26 a27 a28 a29 a30 a31 a32 a33 a34 a35 a36 a37 a38 a39 a40 a41 a42 a43 a44 a45 a46 a47 a48 a49 a50 a51 a52 a53 a54 a55 a56 a57 a58 a59 : Int} {t0 t1 t2 t3 t4 t5 t6 t7 t8 t9 t10 t11 t12 t13 t14 t15 t16 t17 t18 t19 t20 t21 t22 t23 t24 t25 t26 t27 t28 t29 t30 t31 t32 t33 t34 t35 t36 t37 t38 t39 t40 t41 t42 t43 t44 t45 t46 t47 t48 t49 t50 t51 t52 t53 t54 t55 t56 t57 t58 t59 : Tok} {c dc e dx e2 d2 sc dsc sl so1 ds1 so2 ds2 c1 c2 r1 r2 : Addr} {p k : Int} {tp tk tz tn1 tn2 : Tok} {z : Str} {v1 v2 col due q1 s3 s4 s5 m1 m2 m3 m4 m5 z1 z2 z3 z4 z5 z6 z7 x1 x2 x3 x4 x5 x6 x7 g1 g2 g3 g4 g5 y1 y2 y3 w1 w2 w3 : Value} {cr1 cr2 : List Value} {es es2 : List DictEntry} {C C2 : Nat} {n0 n1 n2 n3 n4 n5 n6 n7 n8 : Nat}
theorem rows37 : True := by
  w_top off
  (k_with "call ref" => ((k_here; (with_reducible show wpAny _ _ (call (Value.ref 838) _) _ _ _); k_dflt (first | (refine' call_str (by assumption) ?k1 ?k2 ?k3 ?k4 ?k5 ?kK ?kd ?ku ?_; (case k2 => k_asm); (case k1 => k_asm); (case k3 => k_asm); (case k4 => k_asm); (case k5 => k_asm); (case kK => first | exact rfl | assumption); (case kd => ktr_room); (case ku => ktr_units);  k_whole)); (intro t' h' tk' F' N'); (try k_sweep); (try k_fold); (try dsimp only); walk_say "WEXPR")))
  trivial
set_option maxHeartbeats 2000000 in
theorem out_expr {w : World} {pr : Program} {loose : List Str} {mean : ExcName → Option Value} {mg mb : Str → Option Value} {news : Led}
    (hc : (c, instObj 541 dc) ∈ news) (hdc : (dc, dictOf [⟨a0, .str (Str.ofString "value") t0, .ref e⟩, ⟨a1, .str (Str.ofString "alias") t1, .none⟩, ⟨a2, .str (Str.ofString "star_table") t2, q1⟩] n0) ∈ news) (he : (e, instObj C dx) ∈ news) (hd : (dx, dictOf es n1) ∈ news) (he2 : (e2, instObj C2 d2) ∈ news) (hd2 : (d2, dictOf es2 n2) ∈ news) (hw : CallTo w pr loose mean mg mb 838 [.ref e] news 12 (fun r news' => (∃ t, r = .str z t) ∧ news' = news)) (hC : (C = 153 ∧ C2 = 127) ∨ C = 127 ∨ C = 231 ∨ C = 411) :
    CallTo w pr loose mean mg mb 845 [.ref c, .ref e2, .ref sc] news 13 (fun r news' => (∃ t, r = .str z t) ∧ news' = news) := by
  exact ensure_expected_type% "" (by exact ?walk9 : type_of% (let_mvar% ?walk9 := (by
    intro dp un gd cn cs ac ccd cl outer A₀ base h₀ L m s Q E B F X N T hk hdp hun hret
    rcases hC with ⟨rfl, rfl⟩ | rfl | rfl | rfl
    all_goals (refine wpAny_call ?_; k_dflt cell_enter)
    k_steps
    all_goals exact hret _ _ _ _ ⟨⟨_, rfl⟩, rfl⟩ (by k_asm) (cb_drop (by assumption) fun _ h => by repeat (first | exact h | refine List.Mem.tail _ ?_))
    : _); ?walk9))
end
def NoneT (v : Value) : Prop := v = .none ∨ ∃ t, v = .str (S "T") t
theorem rows38 : True := by
  w_top off
  k_with_none
  (k_with "execs cons" => ((k_here; (with_reducible refine gen_toks (P := fun k => wpAny _ _ _ _ _ ⟨_, _, _, k, _⟩) (_ + _) ?_); intro tk9'; walk_say "TOKS")))
  (k_with "eval Name" => ((k_here; name_kind "globalImplicit"; k_dflt (refine' nameX_K ?F ?X ?T ?e ?_ ?a ?b; (case F => k_asm); (case X => k_asm); (case T => k_asm); (case a => kernel_rfl!); (case b => kernel_rfl!); (case e => k_is); k_whole))))
  (k_with "eval Name" => ((k_here; name_kind "local"; k_dflt (refine' nameX_L ?F ?v ?_ ?a ?b; (case F => k_asm); (case a => kernel_rfl!); (case b => kernel_rfl!); (case v => rfl); k_whole))))
  (k_with "execs nil" => ((k_here; (with_reducible refine gen_toks (P := fun k => wpAny _ _ _ _ _ ⟨_, _, _, k, _⟩) (_ + _) ?_); intro tk9'; walk_say "TOKS")))
  (k_with "eval Name" => ((k_here; name_kind "globalImplicit"; name_is_builtin; k_dflt (refine' nameX_B ?F ?X ?T ?e ?v ?n ?_ ?a ?b; (case F => k_asm); (case X => k_asm); (case T => k_asm); (case a => kernel_rfl!); (case b => kernel_rfl!); (case e => k_is); (case v => boot_fast); (case n => decide); k_whole))))
  (k_with "ite" => ((k_closed; first | with_reducible refine ite_ff ?_ | with_reducible refine ite_tt ?_ | k_dflt (first | refine ite_t rfl ?_ | refine ite_f rfl ?_))))
  (k_with "call builtin:isinstance" => ((k_here; k_dflt (refine' isi_call ?k1 ?k2 ?k3 ?k4 ?_; (case k1 => k_in); (case k2 => k_types); (case k3 => k_is); (case k4 => intro e; cases e); k_whole))))
  (k_with "ktr_room" => (k_dflt (first | exact room2 (by with_reducible assumption) (by decide) | exact room1 (by with_reducible assumption) rfl | exact room0 (by with_reducible assumption))))
  (k_with "ktr_units" => (k_dflt (first | exact units2 (by with_reducible assumption) (by decide) | exact units1 (by with_reducible assumption) rfl | exact units0 (by with_reducible assumption) rfl | exact room0 (by with_reducible assumption))))
  (k_with "k_in" => (first | with_reducible assumption | exact Frag.In.keeps (by with_reducible assumption) (Fr.keep (by with_reducible assumption))))
  (k_with "call builtin:isinstance" => ((k_here; (with_reducible show wpAny _ _ (call _ [Value.ref _, Value.ref _]) _ _ _); k_dflt (refine' kin_callC ?k1 ?k2 ?k3 ?k4 ?k5 ?k6 ?k7 ?k8 ?k9 ?_; (case k1 => k_in); (case k2 => k_inst); (case k3 => kin_no); (case k4 => k_is); (case k5 => k_is); (case k6 => k_is); (case k7 => k_is); (case k8 => k_is); (case k9 => k_is); k_whole))))
  (k_with "getAttr ref" => ((k_here; k_dflt (refine' get_own ?k1 ?k2 ?k3 ?k4 ?k5 ?k6 ?k7 ?k8 ?k9 ?_; (case k1 => k_asm); (case k2 => k_asm); (case k3 => k_inst); (case k4 => k_is); (case k5 => k_is); (case k6 => k_is); (case k7 => k_is); (case k8 => k_get); (case k9 => k_handed); k_whole))))
  (k_with "k_room" => (ktr_room))
  (k_with "k_units" => (ktr_units))
  (k_with "k_all" => (assumption))
  (k_with "k_mem" => (first | assumption | ((with_reducible show Pick _ _ _); first | exact Pick.head | exact Pick.tail (Pick.head) | exact Pick.tail (Pick.tail (Pick.head)) | exact Pick.tail (Pick.tail (Pick.tail (Pick.head))) | exact Pick.tail (Pick.tail (Pick.tail (Pick.tail (Pick.head)))) | exact Pick.tail (Pick.tail (Pick.tail (Pick.tail (Pick.tail (Pick.head))))) | exact Pick.tail (Pick.tail (Pick.tail (Pick.tail (Pick.tail (Pick.tail (Pick.head)))))) | exact Pick.tail (Pick.tail (Pick.tail (Pick.tail (Pick.tail (Pick.tail (Pick.tail (Pick.head))))))) | exact Pick.t8 (Pick.head) | exact Pick.t8 (Pick.tail (Pick.head)) | exact Pick.t8 (Pick.tail (Pick.tail (Pick.head))) | exact Pick.t8 (Pick.tail (Pick.tail (Pick.tail (Pick.head)))) | exact Pick.t8 (Pick.tail (Pick.tail (Pick.tail (Pick.tail (Pick.head))))) | exact Pick.t8 (Pick.tail (Pick.tail (Pick.tail (Pick.tail (Pick.tail (Pick.head)))))) | exact Pick.t8 (Pick.tail (Pick.tail (Pick.tail (Pick.tail (Pick.tail (Pick.tail (Pick.head))))))) | exact Pick.t8 (Pick.tail (Pick.tail (Pick.tail (Pick.tail (Pick.tail (Pick.tail (Pick.tail (Pick.head)))))))) | exact Pick.t8 (Pick.t8 (Pick.head)) | exact Pick.t8 (Pick.t8 (Pick.tail (Pick.head))) | exact Pick.t8 (Pick.t8 (Pick.tail (Pick.tail (Pick.head)))) | exact Pick.t8 (Pick.t8 (Pick.tail (Pick.tail (Pick.tail (Pick.head))))) | exact Pick.t8 (Pick.t8 (Pick.tail (Pick.tail (Pick.tail (Pick.tail (Pick.head)))))) | exact Pick.t8 (Pick.t8 (Pick.tail (Pick.tail (Pick.tail (Pick.tail (Pick.tail (Pick.head))))))) | exact Pick.t8 (Pick.t8 (Pick.tail (Pick.tail (Pick.tail (Pick.tail (Pick.tail (Pick.tail (Pick.head)))))))) | exact Pick.t8 (Pick.t8 (Pick.tail (Pick.tail (Pick.tail (Pick.tail (Pick.tail (Pick.tail (Pick.tail (Pick.head))))))))) | exact Pick.t8 (Pick.t8 (Pick.t8 (Pick.head))) | exact Pick.t8 (Pick.t8 (Pick.t8 (Pick.tail (Pick.head)))) | exact Pick.t8 (Pick.t8 (Pick.t8 (Pick.tail (Pick.tail (Pick.head))))) | exact Pick.t8 (Pick.t8 (Pick.t8 (Pick.tail (Pick.tail (Pick.tail (Pick.head)))))) | exact Pick.t8 (Pick.t8 (Pick.t8 (Pick.tail (Pick.tail (Pick.tail (Pick.tail (Pick.head))))))) | exact Pick.t8 (Pick.t8 (Pick.t8 (Pick.tail (Pick.tail (Pick.tail (Pick.tail (Pick.tail (Pick.head)))))))) | exact Pick.t8 (Pick.t8 (Pick.t8 (Pick.tail (Pick.tail (Pick.tail (Pick.tail (Pick.tail (Pick.tail (Pick.head))))))))) | exact Pick.t8 (Pick.t8 (Pick.t8 (Pick.tail (Pick.tail (Pick.tail (Pick.tail (Pick.tail (Pick.tail (Pick.tail (Pick.head)))))))))) | exact Pick.t8 (Pick.t8 (Pick.t8 (Pick.t8 (Pick.head)))) | exact Pick.t8 (Pick.t8 (Pick.t8 (Pick.t8 (Pick.tail (Pick.head))))) | exact Pick.t8 (Pick.t8 (Pick.t8 (Pick.t8 (Pick.tail (Pick.tail (Pick.head)))))) | exact Pick.t8 (Pick.t8 (Pick.t8 (Pick.t8 (Pick.tail (Pick.tail (Pick.tail (Pick.head))))))) | exact Pick.t8 (Pick.t8 (Pick.t8 (Pick.t8 (Pick.tail (Pick.tail (Pick.tail (Pick.tail (Pick.head)))))))) | exact Pick.t8 (Pick.t8 (Pick.t8 (Pick.t8 (Pick.tail (Pick.tail (Pick.tail (Pick.tail (Pick.tail (Pick.head))))))))) | exact Pick.t8 (Pick.t8 (Pick.t8 (Pick.t8 (Pick.tail (Pick.tail (Pick.tail (Pick.tail (Pick.tail (Pick.tail (Pick.head)))))))))) | exact Pick.t8 (Pick.t8 (Pick.t8 (Pick.t8 (Pick.tail (Pick.tail (Pick.tail (Pick.tail (Pick.tail (Pick.tail (Pick.tail (Pick.head))))))))))) | exact Pick.t8 (Pick.t8 (Pick.t8 (Pick.t8 (Pick.t8 (Pick.head))))) | exact Pick.t8 (Pick.t8 (Pick.t8 (Pick.t8 (Pick.t8 (Pick.tail (Pick.head)))))) | exact Pick.t8 (Pick.t8 (Pick.t8 (Pick.t8 (Pick.t8 (Pick.tail (Pick.tail (Pick.head))))))) | exact Pick.t8 (Pick.t8 (Pick.t8 (Pick.t8 (Pick.t8 (Pick.tail (Pick.tail (Pick.tail (Pick.head)))))))) | exact Pick.t8 (Pick.t8 (Pick.t8 (Pick.t8 (Pick.t8 (Pick.tail (Pick.tail (Pick.tail (Pick.tail (Pick.head))))))))) | exact Pick.t8 (Pick.t8 (Pick.t8 (Pick.t8 (Pick.t8 (Pick.tail (Pick.tail (Pick.tail (Pick.tail (Pick.tail (Pick.head)))))))))) | exact Pick.t8 (Pick.t8 (Pick.t8 (Pick.t8 (Pick.t8 (Pick.tail (Pick.tail (Pick.tail (Pick.tail (Pick.tail (Pick.tail (Pick.head))))))))))) | exact Pick.t8 (Pick.t8 (Pick.t8 (Pick.t8 (Pick.t8 (Pick.tail (Pick.tail (Pick.tail (Pick.tail (Pick.tail (Pick.tail (Pick.tail (Pick.head)))))))))))) | exact Pick.t8 (Pick.t8 (Pick.t8 (Pick.t8 (Pick.t8 (Pick.t8 (Pick.head)))))) | exact Pick.t8 (Pick.t8 (Pick.t8 (Pick.t8 (Pick.t8 (Pick.t8 (Pick.tail (Pick.head))))))) | exact Pick.t8 (Pick.t8 (Pick.t8 (Pick.t8 (Pick.t8 (Pick.t8 (Pick.tail (Pick.tail (Pick.head)))))))) | exact Pick.t8 (Pick.t8 (Pick.t8 (Pick.t8 (Pick.t8 (Pick.t8 (Pick.tail (Pick.tail (Pick.tail (Pick.head))))))))) | exact Pick.t8 (Pick.t8 (Pick.t8 (Pick.t8 (Pick.t8 (Pick.t8 (Pick.tail (Pick.tail (Pick.tail (Pick.tail (Pick.head)))))))))) | exact Pick.t8 (Pick.t8 (Pick.t8 (Pick.t8 (Pick.t8 (Pick.t8 (Pick.tail (Pick.tail (Pick.tail (Pick.tail (Pick.tail (Pick.head))))))))))) | exact Pick.t8 (Pick.t8 (Pick.t8 (Pick.t8 (Pick.t8 (Pick.t8 (Pick.tail (Pick.tail (Pick.tail (Pick.tail (Pick.tail (Pick.tail (Pick.head)))))))))))) | exact Pick.t8 (Pick.t8 (Pick.t8 (Pick.t8 (Pick.t8 (Pick.t8 (Pick.tail (Pick.tail (Pick.tail (Pick.tail (Pick.tail (Pick.tail (Pick.tail (Pick.head)))))))))))))) | exact List.Mem.tail _ (by assumption)))
  (k_with "call ref" => ((k_here; (with_reducible show wpAny _ _ (call (Value.ref 965) _) _ _ _); k_dflt (refine' take_use ?k1 ?k2 ?k3 ?k4 ?k5 ?kK ?kp ?ko ?kr ?h2 ?ht ?kd ?ku ?_; (case k2 => k_asm); (case k1 => k_asm); (case k3 => k_asm); (case k4 => k_asm); (case k5 => k_asm); (case kK => first | exact rfl | assumption); (case kp => k_mem); (case ko => assumption); (case kr => k_all); (case h2 => omega); (case ht => omega); (case kd => ktr_room); (case ku => ktr_units); k_whole); intro d' t' o' h' tk' hd0' hd1' hso' F' N'; (try k_sweep); (try k_fold); (try dsimp only); walk_say "TAKE")))
  (k_with "call ref" => ((k_here; (with_reducible show wpAny _ _ (call (Value.ref 58) _) _ _ _); k_dflt (refine' fold_use ?k1 ?k2 ?k3 ?k4 ?k5 ?kK ?kn ?kd ?ku ?_; (case k2 => k_asm); (case k1 => k_asm); (case k3 => k_asm); (case k4 => k_asm); (case k5 => k_asm); (case kK => first | exact rfl | assumption); (case kn => assumption); (case kd => ktr_room); (case ku => ktr_units); k_whole); intro t' h' tk' F' N'; (try k_sweep); (try k_fold); (try dsimp only); walk_say "FOLD")))
  (k_with "call ref" => ((k_here; (with_reducible show wpAny _ _ (call (Value.ref 986) _) _ _ _); k_dflt (refine' lordinal_use ?k1 ?k2 ?k3 ?k4 ?k5 ?kK ?h0 ?h1 ?kd ?ku ?_; (case k2 => k_asm); (case k1 => k_asm); (case k3 => k_asm); (case k4 => k_asm); (case k5 => k_asm); (case kK => first | exact rfl | assumption); (case h0 => omega); (case h1 => omega); (case kd => ktr_room); (case ku => ktr_units); k_whole); intro t' h' tk' hol' F' N'; (try k_sweep); (try k_fold); (try dsimp only); walk_say "LORDINAL")))
  (k_with "call ref" => ((k_here; (with_reducible show wpAny _ _ (call (Value.ref 852) _) _ _ _); k_dflt (refine' ordinal_use ?k1 ?k2 ?k3 ?k4 ?k5 ?kK ?h0 ?h1 ?kd ?ku ?_; (case k2 => k_asm); (case k1 => k_asm); (case k3 => k_asm); (case k4 => k_asm); (case k5 => k_asm); (case kK => first | exact rfl | assumption); (case h0 => omega); (case h1 => omega); (case kd => ktr_room); (case ku => ktr_units); k_whole); intro t' h' tk' hol' F' N'; (try k_sweep); (try k_fold); (try dsimp only); walk_say "ORDINAL")))
  (k_with "call builtin:len" => ((k_here; (with_reducible show wpAny _ _ (call (Value.builtin "len") [Value.ref _]) _ _ _); k_dflt (refine' len_short ?N ?m ?f ?_; (case N => k_asm); (case m => k_mem); (case f => omega); k_whole))))
  (k_with "call ref" => ((k_here; (with_reducible show wpAny _ _ (call (Value.ref 866) _) _ _ _); k_dflt (refine' alias_use ?k1 ?k2 ?k3 ?k4 ?k5 ?kK ?ke ?kD ?kv ?kl ?kn ?k9 ?kd ?ku ?_; (case k2 => k_asm); (case k1 => k_asm); (case k3 => k_asm); (case k4 => k_asm); (case k5 => k_asm); (case kK => first | exact rfl | assumption); (case ke => k_mem); (case kD => k_mem); (case kv => assumption); (case kl => k_mem); (case kn => assumption); (case k9 => assumption); (case kd => ktr_room); (case ku => ktr_units); k_whole); intro t' h' tk' F' N'; (try k_sweep); (try k_fold); (try dsimp only); walk_say "ALIAS")))
  (k_with "call ref" => ((k_here; (with_reducible show wpAny _ _ (call (Value.ref 51) _) _ _ _); k_dflt (refine' exc_make ?F ?X ?N ?hC ?b1 ?b2 ?b3 ?hv ?hi ?hf ?_; (case F => k_asm); (case X => k_asm); (case N => k_asm); (case hC => k_is); (case b1 => decide +kernel); (case b2 => decide +kernel); (case b3 => decide +kernel); (case hv => exact Nat.le_of_ble_eq_true rfl); (case hi => k_is); (case hf => k_is); k_whole); intro e' T' h' F' N' l1 l2 l3; (try k_lt l1); (try k_lt2 l2); (try k_sweep); k_enter; walk_say "EXC MADE")))
  (k_with "setAttr ref" => ((k_here; k_dflt (refine' exc_set ?F ?X ?N ?hx ?hc ?hm ?hd ?hs ?ht ?_; (case F => k_asm); (case X => k_asm); (case N => k_asm); (case hx => k_all); (case hc => k_is); (case hm => exact rfl); (case hd => exact rfl); (case hs => k_is); (case ht => k_is); k_whole); intro d' h' tk' a' b' F' N' l1 l2 l3; (try k_lt l1); (try k_sweep); (try dsimp only); walk_say "EXC SET")))
  (k_with "getAttr ref" => ((k_here; k_dflt (refine' exc_get ?F ?X ?N ?hx ?hdx ?hc ?hm ?hd ?hg ?hk ?ha ?hl ?hv ?_; (case F => k_asm); (case X => k_asm); (case N => k_asm); (case hx => k_mem); (case hdx => k_mem); (case hc => k_is); (case hm => exact rfl); (case hd => exact rfl); (case hg => k_is); (case hk => k_is); (case ha => k_is); (case hl => exact rfl); (case hv => exact rfl); k_whole); intro tk'; walk_say "EXC GET")))
  (k_with "exec Raise some none" => ((k_here; (with_reducible show wpAny _ _ (exec (Stmt.Raise (some (Expr.Call (Expr.Name ("SqlError" : Str) _) _ _ _)) none _) _) _ _ _); refine Raise_own rfl ?_; walk_say "RAISE")))
  (k_with "RaisableD" => ((k_dflt (refine' raisableD ?F ?X ?N ?hm ?q ?_; (case F => k_asm); (case X => k_asm); (case N => k_asm); (case hm => k_mem); (case q => kts_isx); k_whole); walk_say "RAISABLE")))
  (k_with "leaving ref" => ((k_here; k_dflt (refine' leave_raiseD ?K ?F ?N ?ne ?_; (case K => k_asm); (case F => k_asm); (case N => k_asm); (case ne => k_all); k_whole); intro h' R' U'; (try dsimp only at R' U' ⊢); walk_say "LEAVING")))
  (k_with "noteFrame ref" => ((k_here; (with_reducible rename RaisedD _ _ _ _ _ _ _ _ => rsX); k_dflt (refine' caught_D ?R ?F ?K ?U ?XB ?TB ?D ?T0 ?ex ?q ?_; (case R => assumption); (case F => assumption); (case K => assumption); (case U => assumption); (case XB => assumption); (case TB => assumption); (case D => assumption); (case T0 => first | assumption | exact KtsTurn.refl); (case ex => k_is); (case q => kts_isx); k_whole); intro h' g' vs' sl' tk' T' F' N' K' X' P' D'; (try k_lift K'); (try k_sweep); (try dsimp only); walk_say "CAUGHT")))
  (k_with "call ref" => ((k_here; (with_reducible show wpAny _ _ (call (Value.ref 993) [Value.ref _, Value.ref _, Value.int _ _, Value.str _ _]) _ _ _); k_dflt (first   | (refine' refusal_in ?k2 ?k1 ?k3 ?k4 ?k5 ?XB ?TB ?D ?T0 ?kK ?he ?hd ?hl ?h4 ?hc ?hc' ?hz ?h1 ?h2 ?kd ?ku ?_; (case k2 => k_asm); (case k1 => k_asm); (case k3 => k_asm); (case k4 => k_asm); (case k5 => k_asm); (case XB => assumption); (case TB => assumption); (case D => assumption); (case T0 => first | assumption | exact KtsTurn.refl); (case kK => first | exact rfl | assumption); (case he => k_mem); (case hd => k_mem); (case hl => k_mem); (case h4 => omega); (case hc => omega); (case hc' => omega); (case hz => assumption); (case h1 => omega); (case h2 => omega); (case kd => ktr_room); (case ku => ktr_units); k_whole)   | (refine' refusal_out ?k2 ?k1 ?k3 ?k4 ?k5 ?XB ?TB ?D ?T0 ?kK ?he ?hd ?hl ?h4 ?hc ?hc' ?hz ?h1 ?kd ?ku ?_; (case k2 => k_asm); (case k1 => k_asm); (case k3 => k_asm); (case k4 => k_asm); (case k5 => k_asm); (case XB => assumption); (case TB => assumption); (case D => assumption); (case T0 => first | assumption | exact KtsTurn.refl); (case kK => first | exact rfl | assumption); (case he => k_mem); (case hd => k_mem); (case hl => k_mem); (case h4 => omega); (case hc => omega); (case hc' => omega); (case hz => assumption); (case h1 => omega); (case kd => ktr_room); (case ku => ktr_units); k_whole)); intro D' t' h' tk' h₁' T' F' N' B' X' P' D''; (try k_lift B'); (try k_sweep); (try dsimp only); walk_say "REFUSAL")))
  (k_with "call ref" => ((k_here; (with_reducible show wpAny _ _ (call (Value.ref 993) [Value.ref _, Value.ref _, Value.int _ _, Value.str _ _]) _ _ _); k_dflt (refine' refusal_none ?k2 ?k1 ?k3 ?k4 ?k5 ?XB ?TB ?D ?T0 ?kK ?he ?hd ?hl ?kd ?ku ?_; (case k2 => k_asm); (case k1 => k_asm); (case k3 => k_asm); (case k4 => k_asm); (case k5 => k_asm); (case XB => assumption); (case TB => assumption); (case D => assumption); (case T0 => first | assumption | exact KtsTurn.refl); (case kK => first | exact rfl | assumption); (case he => k_mem); (case hd => k_mem); (case hl => k_mem); (case kd => ktr_room); (case ku => ktr_units); k_whole); intro D' h' tk' h₁' T' F' N' B' X' P' D''; (try k_lift B'); (try k_sweep); (try dsimp only); walk_say "REFUSAL0")))
  (k_with "call ref" => ((k_here; (with_reducible show wpAny _ _ (call (Value.ref 979) _) _ _ _); k_dflt (refine' letters_use ?k2 ?k1 ?k3 ?k4 ?k5 ?kK ?kp ?ko ?hx ?kr ?kd ?ku ?_; (case k2 => k_asm); (case k1 => k_asm); (case k3 => k_asm); (case k4 => k_asm); (case k5 => k_asm); (case kK => first | exact rfl | assumption); (case kp => k_mem); (case ko => assumption); (case hx => assumption); (case kr => k_all); (case kd => ktr_room); (case ku => ktr_units); k_whole); intro y' t' o' h' tk' hnm' hso' F' N'; (try k_sweep); (try k_fold); (try dsimp only); walk_say "LETTERS")))
  (k_with "call ref" => ((k_here; (with_reducible show wpAny _ _ (call (Value.ref 972) [Value.ref _, Value.ref _]) _ _ _); k_dflt (first | ((refine' one_use (IsStrOf menu5) ?k1 ?k2 ?k3 ?k4 ?k5 ?kK ?kp ?ko ?kr ?hm ?h2 ?ht ?hP ?kd ?ku ?_; (case k2 => k_asm); (case k1 => k_asm); (case k3 => k_asm); (case k4 => k_asm); (case k5 => k_asm); (case kK => first | exact rfl | assumption); (case kp => k_mem); (case ko => assumption); (case kr => k_all); (case hm => k_mem); (case h2 => exact Nat.le_of_ble_eq_true rfl); (case ht => exact Nat.le_of_ble_eq_true rfl); (case hP => (repeat (first | exact List.forall_mem_nil _ | refine List.forall_mem_cons.mpr ⟨⟨_, _, rfl, by decide +kernel⟩, ?_⟩))); (case kd => ktr_room); (case ku => ktr_units); k_whole)) | ((refine' one_use IsShort ?k1 ?k2 ?k3 ?k4 ?k5 ?kK ?kp ?ko ?kr ?hm ?h2 ?ht ?hP ?kd ?ku ?_; (case k2 => k_asm); (case k1 => k_asm); (case k3 => k_asm); (case k4 => k_asm); (case k5 => k_asm); (case kK => first | exact rfl | assumption); (case kp => k_mem); (case ko => assumption); (case kr => k_all); (case hm => k_mem); (case h2 => exact Nat.le_of_ble_eq_true rfl); (case ht => exact Nat.le_of_ble_eq_true rfl); (case hP => (repeat (first | exact List.forall_mem_nil _ | refine List.forall_mem_cons.mpr ⟨⟨_, _, rfl, by decide +kernel⟩, ?_⟩))); (case kd => ktr_room); (case ku => ktr_units); k_whole))); intro r' o' h' tk' hP' hso' F' N'; k_dflt (obtain ⟨x', t', hr', hx'⟩ := hP'); subst hr'; (try k_sweep); (try k_fold); (try dsimp only); walk_say "ONE")))
  (k_with "size_fits" => (exact Nat.le_of_ble_eq_true rfl))
  (k_with "k_mem" => (((with_reducible show _ ∈ _ :: _); first | with_reducible exact mem_hd | ((with_reducible refine mem_tl ?_); (first | with_reducible exact mem_hd | ((with_reducible refine mem_tl ?_); (first | with_reducible exact mem_hd | ((with_reducible refine mem_tl ?_); (first | with_reducible exact mem_hd | ((with_reducible refine mem_tl ?_); (first | with_reducible exact mem_hd | ((with_reducible refine mem_tl ?_); (first | with_reducible exact mem_hd | ((with_reducible refine mem_tl ?_); (first | with_reducible exact mem_hd | ((with_reducible refine mem_tl ?_); (first | with_reducible exact mem_hd | ((with_reducible refine mem_tl ?_); (first | with_reducible exact mem_hd | ((with_reducible refine mem_tl ?_); (first | with_reducible exact mem_hd | ((with_reducible refine mem_tl ?_); (first | with_reducible exact mem_hd | ((with_reducible refine mem_tl ?_); (first | with_reducible exact mem_hd | ((with_reducible refine mem_tl ?_); (first | with_reducible exact mem_hd | ((with_reducible refine mem_tl ?_); (first | with_reducible exact mem_hd | ((with_reducible refine mem_tl ?_); (first | with_reducible exact mem_hd | ((with_reducible refine mem_tl ?_); (first | with_reducible exact mem_hd | ((with_reducible refine mem_tl ?_); ((first | ktr_member | (refine AllIn.sub (by assumption) _ ?_; ktr_member)))) | (first | ktr_member | (refine AllIn.sub (by assumption) _ ?_; ktr_member)))) | (first | ktr_member | (refine AllIn.sub (by assumption) _ ?_; ktr_member)))) | (first | ktr_member | (refine AllIn.sub (by assumption) _ ?_; ktr_member)))) | (first | ktr_member | (refine AllIn.sub (by assumption) _ ?_; ktr_member)))) | (first | ktr_member | (refine AllIn.sub (by assumption) _ ?_; ktr_member)))) | (first | ktr_member | (refine AllIn.sub (by assumption) _ ?_; ktr_member)))) | (first | ktr_member | (refine AllIn.sub (by assumption) _ ?_; ktr_member)))) | (first | ktr_member | (refine AllIn.sub (by assumption) _ ?_; ktr_member)))) | (first | ktr_member | (refine AllIn.sub (by assumption) _ ?_; ktr_member)))) | (first | ktr_member | (refine AllIn.sub (by assumption) _ ?_; ktr_member)))) | (first | ktr_member | (refine AllIn.sub (by assumption) _ ?_; ktr_member)))) | (first | ktr_member | (refine AllIn.sub (by assumption) _ ?_; ktr_member)))) | (first | ktr_member | (refine AllIn.sub (by assumption) _ ?_; ktr_member)))) | (first | ktr_member | (refine AllIn.sub (by assumption) _ ?_; ktr_member)))) | (first | ktr_member | (refine AllIn.sub (by assumption) _ ?_; ktr_member)))) | (first | ktr_member | (refine AllIn.sub (by assumption) _ ?_; ktr_member)))))
  (k_with "k_all" => (((repeat' (first | with_reducible assumption | exact l9_ne (by with_reducible assumption) | with_reducible refine ne_cons ?_ ?_ | exact ne_l1 (by with_reducible assumption) (by k_mem) | exact ne_l2 (by with_reducible assumption) (by with_reducible assumption) (by k_mem) | exact ne_l3 (by with_reducible assumption) (by with_reducible assumption) (by with_reducible assumption) (by k_mem) | exact ne_l4 (by with_reducible assumption) (by with_reducible assumption) (by with_reducible assumption) (by with_reducible assumption) (by k_mem) | k_ne)); done)))
  (k_with "call ref" => ((k_here; (with_reducible show wpAny _ _ (call (Value.ref 153) _) _ _ _); k_dflt (first | (refine' mk_name_use (mk_name) ?k1 ?k2 ?k3 ?k4 ?k5 ?kK ?kd ?ku ?_; (case k2 => k_asm); (case k1 => k_asm); (case k3 => k_asm); (case k4 => k_asm); (case k5 => k_asm); (case kK => first | exact rfl | assumption); (case kd => ktr_room); (case ku => ktr_units);  k_whole)); (intro E' D' _ _ _ _ _ _ _ _ _ _ _ l1' l2' h' tk' F' N'; (try k_lt l1'); (try k_lt2 l2')); (try k_sweep); (try k_fold); (try dsimp only); walk_say "MK_NAME")))
  (k_with "call ref" => ((k_here; (with_reducible show wpAny _ _ (call (Value.ref 127) _) _ _ _); k_dflt (first | (refine' mk_lit_use (mk_lit) ?k1 ?k2 ?k3 ?k4 ?k5 ?kK ?kd ?ku ?_; (case k2 => k_asm); (case k1 => k_asm); (case k3 => k_asm); (case k4 => k_asm); (case k5 => k_asm); (case kK => first | exact rfl | assumption); (case kd => ktr_room); (case ku => ktr_units);  k_whole)); (intro E' D' _ _ l1' l2' h' tk' F' N'; (try k_lt l1'); (try k_lt2 l2')); (try k_sweep); (try k_fold); (try dsimp only); walk_say "MK_LIT")))
  trivial
theorem NoneT.handed {v : Value} (h : NoneT v) : handedIn v = true := by
  rcases h with rfl | ⟨_, rfl⟩ <;> rfl
theorem three_short {v : Value} {a b c : Str} {ta tb tc : Tok} (h : v ∈ [Value.str a ta, .str b tb, .str c tc]) (ha : a.length ≤ 5) (hb : b.length ≤ 5) (hc : c.length ≤ 5) : IsShort v := by
  rcases List.mem_cons.mp h with rfl | h
  · exact ⟨_, _, rfl, ha⟩
  rcases List.mem_cons.mp h with rfl | h
  · exact ⟨_, _, rfl, hb⟩
  rcases List.mem_cons.mp h with rfl | h
  · exact ⟨_, _, rfl, hc⟩
  exact absurd h List.not_mem_nil
theorem two_short {v : Value} {a b : Str} {ta tb : Tok} (h : v ∈ [Value.str a ta, .str b tb]) (ha : a.length ≤ 5) (hb : b.length ≤ 5) : IsShort v := by
  rcases List.mem_cons.mp h with rfl | h
  · exact ⟨_, _, rfl, ha⟩
  rcases List.mem_cons.mp h with rfl | h
  · exact ⟨_, _, rfl, hb⟩
  exact absurd h List.not_mem_nil
theorem none_t {v : Value} {t : Tok} (h : v ∈ [Value.none, .str (S "T") t]) : NoneT v := by
  rcases List.mem_cons.mp h with rfl | h
  · exact .inl rfl
  rcases List.mem_cons.mp h with rfl | h
  · exact .inr ⟨_, rfl⟩
  exact absurd h List.not_mem_nil
theorem cut_led {P : Prop} {h₀ h : Heap} {L src : Addr} {o : Obj} {all rest : Led} (N : News h₀ L h all) (_ho : SrcOk o) (hp : Pick (src, o) all rest) (hr : ∀ q ∈ rest, q.1 ≠ src)
    (k : Stop (∀ n, News h₀ L h ((src, o) :: n) → AllIn n rest → (∀ q ∈ n, q.1 ≠ src) → P)) : P :=
  k rest (cb_drop N hp.sub) (allIn_of fun _ h => h) hr
theorem here_cases {v : Value} {a b : Addr} (h : v ∈ [Value.ref a, .ref b]) : v = .ref a ∨ v = .ref b := by simpa using h
theorem here_five {v : Value} {a b c d e : Addr} (h : v ∈ [Value.ref a, .ref b, .ref c, .ref d, .ref e]) : v = .ref a ∨ v = .ref b ∨ v = .ref c ∨ v = .ref d ∨ v = .ref e := by simpa using h
theorem lit_five {t : Tok} : litText (.int 5 t) = Str.ofString "5" := by
  show Str.ofString (toString (5 : Int)) = Str.ofString "5"
  decide +kernel
theorem eq_own {prog : Program} {w : World} {A : Around} {E : Value → Shared → Prop} {s : Shared} {x : Str} {t u : Tok} {Q : Value → Shared → Prop} (h : Q (.bool true) s) : wpAny (model prog w) A (compareOp .Eq (.str x t) (.str x u)) Q E s :=
  eq_str (by rw [beq_self_eq_true]; exact h)
theorem nr_end {h₀ : Heap} {L src : Addr} {rest all : Led} {m : Str → Option Value} {s : Shared} {Q : Value → Shared → Prop} {o' : Obj} {h' : Heap} {tk' : Nat}
    (ret : ∀ r news' h' tk', (fun r news' => ∃ o', r = Value.bool true ∧ SrcOk o' ∧ news' = (src, o') :: rest) r news' → Fr h₀ L h' m → News h₀ L h' news' → Q r { s with heap := h', toks := tk' })
    (F : Fr h₀ L h' m) (N : News h₀ L h' all) (ho : SrcOk o') (m1 : (src, o') ∈ all) (sub : ∀ q ∈ rest, q ∈ all) : Q (.bool true) { s with heap := h', toks := tk' } :=
  ret _ _ _ _ ⟨o', rfl, ho, rfl⟩ F (cb_drop N (List.forall_mem_cons.mpr ⟨m1, sub⟩))
def OutsTo (w : World) (p : Program) (loose : List Str) (mean : ExcName → Option Value) (mg mb : Str → Option Value) (l : Led) (e e2 sc : Addr) (z : Str) : Prop :=
  ∀ (c dc : Addr) (a0 : Int) (t0 : Tok) (a1 : Int) (t1 : Tok) (a2 : Int) (t2 : Tok) (q1 : Value) (n0 : Nat) (led : Led), (∀ q ∈ l, q ∈ led) → (c, instObj 541 dc) ∈ led → (dc, dictOf [⟨a0, .str (Str.ofString "value") t0, .ref e⟩, ⟨a1, .str (Str.ofString "alias") t1, .none⟩, ⟨a2, .str (Str.ofString "star_table") t2, q1⟩] n0) ∈ led →
    CallTo w p loose mean mg mb 845 [.ref c, .ref e2, .ref sc] led 13 (fun r news' => (∃ t, r = .str z t) ∧ news' = led)
theorem outs_use {w : World} {p : Program} {loose : List Str} {mean : ExcName → Option Value} {mg mb : Str → Option Value} {l led : Led} {e e2 sc c dc : Addr} {z : Str} {a0 : Int} {t0 : Tok} {a1 : Int} {t1 : Tok} {a2 : Int} {t2 : Tok} {q1 : Value} {n0 : Nat} (h : OutsTo w p loose mean mg mb l e e2 sc z) (hl : ∀ q ∈ l, q ∈ led) (hc : (c, instObj 541 dc) ∈ led) (hdc : (dc, dictOf [⟨a0, .str (Str.ofString "value") t0, .ref e⟩, ⟨a1, .str (Str.ofString "alias") t1, .none⟩, ⟨a2, .str (Str.ofString "star_table") t2, q1⟩] n0) ∈ led) :
    CallTo w p loose mean mg mb 845 [.ref c, .ref e2, .ref sc] led 13 (fun r news' => (∃ t, r = .str z t) ∧ news' = led) := h _ _ _ _ _ _ _ _ _ _ _ hl hc hdc
theorem callTo_str {w : World} {p : Program} {loose : List Str} {mean : ExcName → Option Value} {mg mb : Str → Option Value} {f : Addr} {vs : List Value} {news : Led} {k k' : Nat} {z : Str} {t : Tok} (C : CallTo w p loose mean mg mb f vs news k (fun r n => r = .str z t ∧ n = news)) (hk : k ≤ k') : CallTo w p loose mean mg mb f vs news k' (fun r n => (∃ t, r = .str z t) ∧ n = news) := by
  intro dp un gd cn cs ac ccd cl outer A₀ base h₀ L m s Q E B F X N T hkf hdp hun hret
  exact C _ _ _ _ _ _ _ _ _ _ _ _ _ _ _ _ _ B F X N T hkf (by omega) (by omega) fun r n h tk hp => hret r n h tk ⟨⟨_, hp.1⟩, hp.2⟩
def NrPost (w : World) (p : Program) (loose : List Str) (mean : ExcName → Option Value) (mg mb : Str → Option Value) (h₀ : Heap) (L src : Addr) (rest : Led) (s : Shared) (fl : Flow) (s' : Shared) : Prop :=
  fl = .next ∧ ∃ (h' : Heap) (tk' : Nat) (m' : Str → Option Value) (l' : Led) (o' : Obj) (e e2 sc : Addr) (z z2 : Str) (t : Tok), s' = { s with heap := h', toks := tk' } ∧ Fr h₀ L h' m' ∧ News h₀ L h' ((src, o') :: l') ∧ SrcOk o' ∧ (∀ q ∈ l', q.1 ≠ src) ∧ (∀ q ∈ rest, q ∈ l') ∧
    m' (Str.ofString "written") = some (.ref e) ∧ m' (Str.ofString "expr") = some (.ref e2) ∧ m' (Str.ofString "due") = some (.str z2 t) ∧ m' (Str.ofString "scope") = some (.ref sc) ∧ m' (Str.ofString "source") = some (.ref src) ∧ z = z2 ∧ OutsTo w p loose mean mg mb l' e e2 sc z
theorem nr_join {M : Model} {A : Around} {t : Sem Flow} {E : Value → Shared → Prop} {s : Shared} {Q : Flow → Shared → Prop} {w : World} {p : Program} {loose : List Str} {mean : ExcName → Option Value} {mg mb : Str → Option Value} {h₀ : Heap} {L src : Addr} {m : Str → Option Value} {rest : Led} (_F : Fr h₀ L s.heap m)
    (X : wpAny M A t (NrPost w p loose mean mg mb h₀ L src rest s) E s) (K : Stop (∀ f s', NrPost w p loose mean mg mb h₀ L src rest s f s' → Q f s')) : wpAny M A t Q E s := wpAny_mono X K fun _ _ e => e
theorem nr_post {w : World} {p : Program} {loose : List Str} {mean : ExcName → Option Value} {mg mb : Str → Option Value} {h₀ h' : Heap} {L src e e2 sc : Addr} {all rest l' : Led} {m' : Str → Option Value} {s : Shared} {tk' : Nat} {o' : Obj} {z z2 : Str} {t : Tok}
    (F : Fr h₀ L h' m') (N : News h₀ L h' all) (hp : Pick (src, o') all l') (ho : SrcOk o') (hr : ∀ q ∈ l', q.1 ≠ src) (sub : ∀ q ∈ rest, q ∈ l')
    (m1 : m' (Str.ofString "written") = some (.ref e)) (m2 : m' (Str.ofString "expr") = some (.ref e2)) (m3 : m' (Str.ofString "due") = some (.str z2 t)) (m4 : m' (Str.ofString "scope") = some (.ref sc)) (m5 : m' (Str.ofString "source") = some (.ref src)) (hC : OutsTo w p loose mean mg mb l' e e2 sc z) (hz : z = z2) : NrPost w p loose mean mg mb h₀ L src rest s .next { s with heap := h', toks := tk' } :=
  ⟨rfl, _, _, _, _, _, _, _, _, _, _, _, rfl, F, cb_drop N hp.sub, ho, hr, sub, m1, m2, m3, m4, m5, hz, hC⟩
def Cut2 : Prop := True
def Cut3 : Prop := True
theorem one_in {w : World} {p : Program} {loose : List Str} {mean : ExcName → Option Value} {mg mb : Str → Option Value}
  {dp un : Nat} {gd : Option (List Code)} {cn : Str} {cs : Scope} {a : Addr} {ccd : Value} {cl : List (Str × Addr)} {outer : List Env} {A₀ : Around} {base h₀ : Heap} {L : Addr} {m : Str → Option Value} {s : Shared} {Q E : Value → Shared → Prop}
  {src th : Addr} {o : Obj} {news rest rest' : Led} {vs : List Value} {k : Nat} (B : Below A₀ base outer h₀) (F : Fr h₀ L s.heap m) (X : (Mine.kept.heap_1 w.params).In h₀) (N : News h₀ L s.heap news) (T : Top p loose mean mg mb h₀) (hk : cs.kind = .function)
    (hp : Pick (src, o) news rest) (ho : SrcOk o) (hm : Pick (th, listOf vs.toArray k) rest rest') (hr : ∀ q ∈ rest, q.1 ≠ src) (h2 : 2 ≤ vs.length) (ht : vs.length ≤ 2000) (hd : dp + 2 < recursionLimit) (hu : un + 8 * 2 < cLine)
    (ret : ∀ r o' h' tk', r ∈ vs → SrcOk o' → Fr h₀ L h' m → News h₀ L h' ((src, o') :: rest') → Q r { s with heap := h', toks := tk' }) :
    wpAny (model PG w) (ktrTop dp un gd cn cs L a ccd cl outer) (call (.ref 972) [.ref src, .ref th]) Q E s :=
  one_use (fun v => v ∈ vs) B F X N T hk hp ho hr (hm.sub _ (.head _)) h2 ht (fun _ h => h) hd hu fun r o' h' tk' h1 h2' F' N' => ret r o' h' tk' h1 h2' F' (cb_drop N' fun q hq => (List.mem_cons.mp hq).elim (fun e => e ▸ .head _) fun hq => .tail _ (hm.sub _ (.tail _ hq)))
section
set_option maxHeartbeats 2000000 in
theorem mk_bin {w : World} {pr : Program} {loose : List Str} {mean : ExcName → Option Value} {mg mb : Str → Option Value} {news : Led} {v0 v1 v2 : Value} :
    CallTo w pr loose mean mg mb 231 [v0, v1, v2] news 3 (fun r news' => ∀ R : Value → Led → Prop, (∀ E D b0 u0 b1 u1 b2 u2, (∀ p ∈ news, p.1 < D) → D < E → R (.ref E) ((E, instObj 231 D) :: (D, dictOf [⟨b0, .str (Str.ofString "op") u0, v0⟩, ⟨b1, .str (Str.ofString "left") u1, v1⟩, ⟨b2, .str (Str.ofString "right") u2, v2⟩] 3) :: news)) → R r news') := by
  exact ensure_expected_type% "" (by exact ?walk9 : type_of% (let_mvar% ?walk9 := (by
    intro dp un gd cn cs ac ccd cl outer A₀ base h₀ L m s Q E B F X N T hk hdp hun hret
    k_dflt (refine' call_cls ?k1 ?k2 ?k3 ?k4 ?k5 ?k6 ?_; (case k1 => k_asm); (case k2 => k_asm); (case k3 => k_asm); (case k4 => k_is); (case k5 => k_is); (case k6 => k_is); k_whole; intro x' d' h' F' N' l1 l2; have l1c := l1; have l2c := l2; (try k_lt l1); (try k_lt2 l2))
    k_dflt (refine' code_def ?k1 ?k2 ?k3 ?k4 ?k5 ?kA ?kF ?kK ?k6 ?k7 ?k8 ?k9 ?kB ?_ ?c2 ?c3 ?c4 ?c5; (case kA => exact rfl); (case kF => exact rfl); (case kK => assumption); (case k1 => k_asm); (case k2 => k_asm); (case k3 => k_asm); (case k4 => k_asm); (case k5 => k_asm); (case k6 => k_is); (case k7 => k_is); (case k8 => ktr_room); (case k9 => exact BindsTo.of_eq rfl); (case c5 => decide); (case kB => exact locs rfl); (case c2 => exact rfl); (case c3 => exact rfl); (case c4 => exact rfl); k_whole; intro g' L' h' FG' F' N' B' X' T'; (try dsimp only); (try k_lift B'); (try k_fold))
    k_steps
    all_goals (refine hret _ _ _ _ ?_ (by k_asm) (by k_asm); exact fun R k => k _ _ _ _ _ _ _ _ (by assumption) (by first | assumption | omega | exact And.left (by assumption)))
    : _); ?walk9))
theorem mk_bin_use {w : World} {p : Program} {loose : List Str} {mean : ExcName → Option Value} {mg mb : Str → Option Value} {f : Addr} {vs : List Value} {news : Led} {need : Nat} {dp un : Nat} {gd : Option (List Code)} {cn : Str} {cs : Scope} {a : Addr} {ccd : Value} {cl : List (Str × Addr)} {outer : List Env} {A₀ : Around} {base h₀ : Heap} {L : Addr} {m : Str → Option Value} {s : Shared} {Q E : Value → Shared → Prop} {v0 v1 v2 : Value}
    (C : CallTo w p loose mean mg mb f vs news need (fun r news' => ∀ R : Value → Led → Prop, (∀ E D b0 u0 b1 u1 b2 u2, (∀ p ∈ news, p.1 < D) → D < E → R (.ref E) ((E, instObj 231 D) :: (D, dictOf [⟨b0, .str (Str.ofString "op") u0, v0⟩, ⟨b1, .str (Str.ofString "left") u1, v1⟩, ⟨b2, .str (Str.ofString "right") u2, v2⟩] 3) :: news)) → R r news')) (B : Below A₀ base outer h₀) (F : Fr h₀ L s.heap m) (X : (Mine.kept.heap_1 w.params).In h₀) (N : News h₀ L s.heap news) (T : Top p loose mean mg mb h₀) (hk : cs.kind = .function) (hd : dp + need < recursionLimit) (hu : un + 8 * need < cLine)
    (ret : ∀ E D b0 u0 b1 u1 b2 u2, (∀ p ∈ news, p.1 < D) → D < E → ∀ h' tk', Fr h₀ L h' m → News h₀ L h' ((E, instObj 231 D) :: (D, dictOf [⟨b0, .str (Str.ofString "op") u0, v0⟩, ⟨b1, .str (Str.ofString "left") u1, v1⟩, ⟨b2, .str (Str.ofString "right") u2, v2⟩] 3) :: news) → Q (.ref E) { s with heap := h', toks := tk' }) : wpAny (model PG w) (ktrTop dp un gd cn cs L a ccd cl outer) (call (.ref f) vs) Q E s :=
  C _ _ _ _ _ _ _ _ _ _ _ _ _ _ _ _ _ B F X N T hk hd hu fun r n h' tk' P9 F9 N9 => P9 (fun r n => Fr h₀ L h' m → News h₀ L h' n → Q r { s with heap := h', toks := tk' }) (fun E D b0 u0 b1 u1 b2 u2 l1 l2 F9 N9 => ret E D b0 u0 b1 u1 b2 u2 l1 l2 h' tk' F9 N9) F9 N9
set_option maxHeartbeats 2000000 in
theorem mk_ccall {w : World} {pr : Program} {loose : List Str} {mean : ExcName → Option Value} {mg mb : Str → Option Value} {news : Led} {v0 v1 v2 v3 : Value} :
    CallTo w pr loose mean mg mb 411 [v0, v1, v2, v3] news 3 (fun r news' => ∀ R : Value → Led → Prop, (∀ E D b0 u0 b1 u1 b2 u2 b3 u3, (∀ p ∈ news, p.1 < D) → D < E → R (.ref E) ((E, instObj 411 D) :: (D, dictOf [⟨b0, .str (Str.ofString "name") u0, v0⟩, ⟨b1, .str (Str.ofString "arguments") u1, v1⟩, ⟨b2, .str (Str.ofString "distinct") u2, v2⟩, ⟨b3, .str (Str.ofString "star") u3, v3⟩] 4) :: news)) → R r news') := by
  exact ensure_expected_type% "" (by exact ?walk9 : type_of% (let_mvar% ?walk9 := (by
    intro dp un gd cn cs ac ccd cl outer A₀ base h₀ L m s Q E B F X N T hk hdp hun hret
    k_dflt (refine' call_cls ?k1 ?k2 ?k3 ?k4 ?k5 ?k6 ?_; (case k1 => k_asm); (case k2 => k_asm); (case k3 => k_asm); (case k4 => k_is); (case k5 => k_is); (case k6 => k_is); k_whole; intro x' d' h' F' N' l1 l2; have l1c := l1; have l2c := l2; (try k_lt l1); (try k_lt2 l2))
    k_dflt (refine' code_def ?k1 ?k2 ?k3 ?k4 ?k5 ?kA ?kF ?kK ?k6 ?k7 ?k8 ?k9 ?kB ?_ ?c2 ?c3 ?c4 ?c5; (case kA => exact rfl); (case kF => exact rfl); (case kK => assumption); (case k1 => k_asm); (case k2 => k_asm); (case k3 => k_asm); (case k4 => k_asm); (case k5 => k_asm); (case k6 => k_is); (case k7 => k_is); (case k8 => ktr_room); (case k9 => exact BindsTo.of_eq rfl); (case c5 => decide); (case kB => exact locs rfl); (case c2 => exact rfl); (case c3 => exact rfl); (case c4 => exact rfl); k_whole; intro g' L' h' FG' F' N' B' X' T'; (try dsimp only); (try k_lift B'); (try k_fold))
    k_steps
    all_goals (refine hret _ _ _ _ ?_ (by k_asm) (by k_asm); exact fun R k => k _ _ _ _ _ _ _ _ _ _ (by assumption) (by first | assumption | omega | exact And.left (by assumption)))
    : _); ?walk9))
theorem mk_ccall_use {w : World} {p : Program} {loose : List Str} {mean : ExcName → Option Value} {mg mb : Str → Option Value} {f : Addr} {vs : List Value} {news : Led} {need : Nat} {dp un : Nat} {gd : Option (List Code)} {cn : Str} {cs : Scope} {a : Addr} {ccd : Value} {cl : List (Str × Addr)} {outer : List Env} {A₀ : Around} {base h₀ : Heap} {L : Addr} {m : Str → Option Value} {s : Shared} {Q E : Value → Shared → Prop} {v0 v1 v2 v3 : Value}
    (C : CallTo w p loose mean mg mb f vs news need (fun r news' => ∀ R : Value → Led → Prop, (∀ E D b0 u0 b1 u1 b2 u2 b3 u3, (∀ p ∈ news, p.1 < D) → D < E → R (.ref E) ((E, instObj 411 D) :: (D, dictOf [⟨b0, .str (Str.ofString "name") u0, v0⟩, ⟨b1, .str (Str.ofString "arguments") u1, v1⟩, ⟨b2, .str (Str.ofString "distinct") u2, v2⟩, ⟨b3, .str (Str.ofString "star") u3, v3⟩] 4) :: news)) → R r news')) (B : Below A₀ base outer h₀) (F : Fr h₀ L s.heap m) (X : (Mine.kept.heap_1 w.params).In h₀) (N : News h₀ L s.heap news) (T : Top p loose mean mg mb h₀) (hk : cs.kind = .function) (hd : dp + need < recursionLimit) (hu : un + 8 * need < cLine)
    (ret : ∀ E D b0 u0 b1 u1 b2 u2 b3 u3, (∀ p ∈ news, p.1 < D) → D < E → ∀ h' tk', Fr h₀ L h' m → News h₀ L h' ((E, instObj 411 D) :: (D, dictOf [⟨b0, .str (Str.ofString "name") u0, v0⟩, ⟨b1, .str (Str.ofString "arguments") u1, v1⟩, ⟨b2, .str (Str.ofString "distinct") u2, v2⟩, ⟨b3, .str (Str.ofString "star") u3, v3⟩] 4) :: news) → Q (.ref E) { s with heap := h', toks := tk' }) : wpAny (model PG w) (ktrTop dp un gd cn cs L a ccd cl outer) (call (.ref f) vs) Q E s :=
  C _ _ _ _ _ _ _ _ _ _ _ _ _ _ _ _ _ B F X N T hk hd hu fun r n h' tk' P9 F9 N9 => P9 (fun r n => Fr h₀ L h' m → News h₀ L h' n → Q r { s with heap := h', toks := tk' }) (fun E D b0 u0 b1 u1 b2 u2 b3 u3 l1 l2 F9 N9 => ret E D b0 u0 b1 u1 b2 u2 b3 u3 l1 l2 h' tk' F9 N9) F9 N9
end
section
set_option maxHeartbeats 2000000 in
theorem mk_scope {w : World} {pr : Program} {loose : List Str} {mean : ExcName → Option Value} {mg mb : Str → Option Value} {news : Led} {v0 : Value} :
    CallTo w pr loose mean mg mb 940 [v0] news 3 (fun r news' => ∀ R : Value → Led → Prop, (∀ E D Al Od od an b0 u0 b1 u1 b2 u2 b3 u3 b4 u4 b5 u5 nn, (∀ p ∈ news, p.1 < D) → D < E → E < Al → Al < Od → R (.ref E) ((Od, od) :: (Al, listOf #[] an) :: (E, instObj 940 D) :: (D, dictOf [⟨b0, .str (Str.ofString "sources") u0, v0⟩, ⟨b1, .str (Str.ofString "parent") u1, .none⟩, ⟨b2, .str (Str.ofString "aliases") u2, .ref Al⟩, ⟨b3, .str (Str.ofString "catalog") u3, .none⟩, ⟨b4, .str (Str.ofString "counter") u4, .none⟩, ⟨b5, .str (Str.ofString "outer") u5, .ref Od⟩] nn) :: news)) → R r news') := by
  exact ensure_expected_type% "" (by exact ?walk9 : type_of% (let_mvar% ?walk9 := (by
    intro dp un gd cn cs ac ccd cl outer A₀ base h₀ L m s Q E B F X N T hk hdp hun hret
    k_dflt (refine' call_cls ?k1 ?k2 ?k3 ?k4 ?k5 ?k6 ?_; (case k1 => k_asm); (case k2 => k_asm); (case k3 => k_asm); (case k4 => k_is); (case k5 => k_is); (case k6 => k_is); k_whole; intro x' d' h' F' N' l1 l2; have l1c := l1; have l2c := l2; (try k_lt l1); (try k_lt2 l2))
    k_dflt (refine' code_def ?k1 ?k2 ?k3 ?k4 ?k5 ?kA ?kF ?kK ?k6 ?k7 ?k8 ?k9 ?kB ?_ ?c2 ?c3 ?c4 ?c5; (case kA => exact rfl); (case kF => exact rfl); (case kK => assumption); (case k1 => k_asm); (case k2 => k_asm); (case k3 => k_asm); (case k4 => k_asm); (case k5 => k_asm); (case k6 => k_is); (case k7 => k_is); (case k8 => ktr_room); (case k9 => (refine' kp_binds ?kx ?ke; (case kx => k_in); (case ke => exact fun _ => rfl))); (case c5 => decide); (case kB => exact locs rfl); (case c2 => exact rfl); (case c3 => exact rfl); (case c4 => exact rfl); k_whole; intro g' L' h' FG' F' N' B' X' T'; (try dsimp only); (try k_lift B'); (try k_fold))
    k_steps
    all_goals (refine hret _ _ _ _ ?_ (by k_asm) (by k_asm); exact fun R k => k _ _ _ _ _ _ _ _ _ _ _ _ _ _ _ _ _ _ _ (by assumption) (by first | assumption | omega | exact And.left (by assumption)) (by first | assumption | omega | exact And.left (by assumption)) (by first | assumption | omega | exact And.left (by assumption)))
    : _); ?walk9))
end
theorem mk_scope_use {w : World} {p : Program} {loose : List Str} {mean : ExcName → Option Value} {mg mb : Str → Option Value} {f : Addr} {vs : List Value} {news : Led} {need : Nat} {dp un : Nat} {gd : Option (List Code)} {cn : Str} {cs : Scope} {a : Addr} {ccd : Value} {cl : List (Str × Addr)} {outer : List Env} {A₀ : Around} {base h₀ : Heap} {L : Addr} {m : Str → Option Value} {s : Shared} {Q E : Value → Shared → Prop} {v0 : Value}
    (C : CallTo w p loose mean mg mb f vs news need (fun r news' => ∀ R : Value → Led → Prop, (∀ E D Al Od od an b0 u0 b1 u1 b2 u2 b3 u3 b4 u4 b5 u5 nn, (∀ p ∈ news, p.1 < D) → D < E → E < Al → Al < Od → R (.ref E) ((Od, od) :: (Al, listOf #[] an) :: (E, instObj 940 D) :: (D, dictOf [⟨b0, .str (Str.ofString "sources") u0, v0⟩, ⟨b1, .str (Str.ofString "parent") u1, .none⟩, ⟨b2, .str (Str.ofString "aliases") u2, .ref Al⟩, ⟨b3, .str (Str.ofString "catalog") u3, .none⟩, ⟨b4, .str (Str.ofString "counter") u4, .none⟩, ⟨b5, .str (Str.ofString "outer") u5, .ref Od⟩] nn) :: news)) → R r news')) (B : Below A₀ base outer h₀) (F : Fr h₀ L s.heap m) (X : (Mine.kept.heap_1 w.params).In h₀) (N : News h₀ L s.heap news) (T : Top p loose mean mg mb h₀) (hk : cs.kind = .function) (hd : dp + need < recursionLimit) (hu : un + 8 * need < cLine)
    (ret : ∀ E D Al Od od an b0 u0 b1 u1 b2 u2 b3 u3 b4 u4 b5 u5 nn, (∀ p ∈ news, p.1 < D) → D < E → E < Al → Al < Od → ∀ h' tk', Fr h₀ L h' m → News h₀ L h' ((Od, od) :: (Al, listOf #[] an) :: (E, instObj 940 D) :: (D, dictOf [⟨b0, .str (Str.ofString "sources") u0, v0⟩, ⟨b1, .str (Str.ofString "parent") u1, .none⟩, ⟨b2, .str (Str.ofString "aliases") u2, .ref Al⟩, ⟨b3, .str (Str.ofString "catalog") u3, .none⟩, ⟨b4, .str (Str.ofString "counter") u4, .none⟩, ⟨b5, .str (Str.ofString "outer") u5, .ref Od⟩] nn) :: news) → Q (.ref E) { s with heap := h', toks := tk' }) : wpAny (model PG w) (ktrTop dp un gd cn cs L a ccd cl outer) (call (.ref f) vs) Q E s :=
  C _ _ _ _ _ _ _ _ _ _ _ _ _ _ _ _ _ B F X N T hk hd hu fun r n h' tk' P9 F9 N9 => P9 (fun r n => Fr h₀ L h' m → News h₀ L h' n → Q r { s with heap := h', toks := tk' }) (fun E D Al Od od an b0 u0 b1 u1 b2 u2 b3 u3 b4 u4 b5 u5 nn l1 l2 l3 l4 F9 N9 => ret E D Al Od od an b0 u0 b1 u1 b2 u2 b3 u3 b4 u4 b5 u5 nn l1 l2 l3 l4 h' tk' F9 N9) F9 N9
theorem two_cases {d : Int} (h0 : 0 ≤ d) (h2 : d < 2) : d = 0 ∨ d = 1 := by omega
section
local macro_rules | `(tactic| k_lt $h:ident) => `(tactic| (first | have s9' := aft_src $h (by with_reducible assumption) | have s9' := aft_hd $h (by with_reducible assumption)))
local macro_rules | `(tactic| k_lt2 $h:ident) => `(tactic| (have s9' := aft_lt $h (by with_reducible assumption)))
theorem rows39 : True := by
  w_top off
  (k_with "k_all" => (((repeat' (first | with_reducible assumption | exact aft_ne (by with_reducible assumption) | exact l9_ne (by with_reducible assumption) | with_reducible refine ne_cons ?_ ?_ | exact aft_add (by with_reducible assumption) | exact ne_l1 (by with_reducible assumption) (by k_mem) | exact ne_l2 (by with_reducible assumption) (by with_reducible assumption) (by k_mem) | k_ne)); done)))
  (k_with "call ref" => ((k_here; (with_reducible show wpAny _ _ (call (Value.ref 972) [Value.ref _, Value.ref _]) _ _ _); k_dflt (refine' one_in ?k1 ?k2 ?k3 ?k4 ?k5 ?kK ?kp ?ko ?hm ?kr ?h2 ?ht ?kd ?ku ?_; (case k2 => k_asm); (case k1 => k_asm); (case k3 => k_asm); (case k4 => k_asm); (case k5 => k_asm); (case kK => first | exact rfl | assumption); (case kp => k_mem); (case ko => with_reducible assumption); (case hm => k_mem); (case h2 => exact Nat.le_of_ble_eq_true rfl); (case ht => exact Nat.le_of_ble_eq_true rfl); (case kr => k_all); (case kd => ktr_room); (case ku => ktr_units); k_whole); intro r' o' h' tk' hP' hso' F' N'; first | (replace hP' := three_short hP' (by decide) (by decide) (by decide); k_dflt (obtain ⟨x', t', hr', hx'⟩ := hP'); subst hr'; (try k_sweep); (try k_fold); (try dsimp only); walk_say "ONE SHORT") | (replace hP' := two_short hP' (by decide) (by decide); k_dflt (obtain ⟨x', t', hr', hx'⟩ := hP'); subst hr'; (try k_sweep); (try k_fold); (try dsimp only); walk_say "ONE SHORT") | (replace hP' := none_t hP'; (have hh' := NoneT.handed hP'); (try k_sweep); (try k_fold); (try dsimp only); walk_say "ONE OF NONE") | (replace hP' := here_cases hP'; (rcases hP' with e9' | e9') <;> subst e9' <;> (try k_sweep); (try k_fold); (try dsimp only); walk_say "ONE OF TWO") | (replace hP' := here_five hP'; (try k_sweep); (with_reducible rename News _ _ _ _ => n9); k_dflt (refine' cut_led n9 ?ho ?hp ?hr ?_; (case ho => with_reducible assumption); (case hp => k_mem); (case hr => k_all)); (unfold Stop; intro n7' N7' hin7' hne7'); clear n9; (repeat (have f9' := AllIn.hd hin7'; replace hin7' := AllIn.tl hin7')); (repeat (with_reducible rename (_ ∧ _) => z9; clear z9)); (repeat (with_reducible rename (∀ p, p ∈ _ → @LT.lt Nat _ (Prod.fst p) _) => z9; clear z9)); (rcases hP' with e9' | e9' | e9' | e9' | e9') <;> subst e9' <;> (try k_fold); (try dsimp only); walk_say "ONE OF FIVE"))))
  (k_with "call ref" => ((k_here; (with_reducible show wpAny _ _ (call (Value.ref 153) _) _ _ _); k_dflt (first | (refine' mk_name_use (mk_name) ?k1 ?k2 ?k3 ?k4 ?k5 ?kK ?kd ?ku ?_; (case k2 => k_asm); (case k1 => k_asm); (case k3 => k_asm); (case k4 => k_asm); (case k5 => k_asm); (case kK => first | exact rfl | assumption); (case kd => ktr_room); (case ku => ktr_units);  k_whole)); (intro E' D' _ _ _ _ _ _ _ _ _ _ _ l1' l2' h' tk' F' N'; (try k_lt l1'); (try k_lt2 l2')); (try k_sweep); (try k_fold); (try dsimp only); walk_say "MK_NAME")))
  (k_with "call ref" => ((k_here; (with_reducible show wpAny _ _ (call (Value.ref 897) _) _ _ _); k_dflt (first | (refine' mk_source_use (mk_source) ?k1 ?k2 ?k3 ?k4 ?k5 ?kK ?kd ?ku ?_; (case k2 => k_asm); (case k1 => k_asm); (case k3 => k_asm); (case k4 => k_asm); (case k5 => k_asm); (case kK => first | exact rfl | assumption); (case kd => ktr_room); (case ku => ktr_units);  k_whole)); (intro E' D' _ _ _ _ _ _ _ _ _ _ _ _ _ _ _ _ _ _ U' _ l1' l2' l3' h' tk' F' N'; (try k_lt l1'); (try k_lt2 l2'); (try k_lt2 l3')); (try k_sweep); (try k_fold); (try dsimp only); walk_say "MK_SOURCE")))
  (k_with "call ref" => ((k_here; (with_reducible show wpAny _ _ (call (Value.ref 127) _) _ _ _); k_dflt (first | (refine' mk_lit_use (mk_lit) ?k1 ?k2 ?k3 ?k4 ?k5 ?kK ?kd ?ku ?_; (case k2 => k_asm); (case k1 => k_asm); (case k3 => k_asm); (case k4 => k_asm); (case k5 => k_asm); (case kK => first | exact rfl | assumption); (case kd => ktr_room); (case ku => ktr_units);  k_whole)); (intro E' D' _ _ l1' l2' h' tk' F' N'; (try k_lt l1'); (try k_lt2 l2')); (try k_sweep); (try k_fold); (try dsimp only); walk_say "MK_LIT")))
  (k_with "call ref" => ((k_here; (with_reducible show wpAny _ _ (call (Value.ref 541) _) _ _ _); k_dflt (first | (refine' mk_col_use (mk_col) ?k1 ?k2 ?k3 ?k4 ?k5 ?kK ?kd ?ku ?_; (case k2 => k_asm); (case k1 => k_asm); (case k3 => k_asm); (case k4 => k_asm); (case k5 => k_asm); (case kK => first | exact rfl | assumption); (case kd => ktr_room); (case ku => ktr_units);  k_whole)); (intro E' D' _ _ _ _ _ _ l1' l2' h' tk' F' N'; (try k_lt l1'); (try k_lt2 l2')); (try k_sweep); (try k_fold); (try dsimp only); walk_say "MK_COL")))
  (k_with "call ref" => ((k_here; (with_reducible show wpAny _ _ (call (Value.ref 231) _) _ _ _); k_dflt (first | (refine' mk_bin_use (mk_bin) ?k1 ?k2 ?k3 ?k4 ?k5 ?kK ?kd ?ku ?_; (case k2 => k_asm); (case k1 => k_asm); (case k3 => k_asm); (case k4 => k_asm); (case k5 => k_asm); (case kK => first | exact rfl | assumption); (case kd => ktr_room); (case ku => ktr_units);  k_whole)); (intro E' D' _ _ _ _ _ _ l1' l2' h' tk' F' N'; (try k_lt l1'); (try k_lt2 l2')); (try k_sweep); (try k_fold); (try dsimp only); walk_say "MK_BIN")))
  (k_with "call ref" => ((k_here; (with_reducible show wpAny _ _ (call (Value.ref 411) _) _ _ _); k_dflt (first | (refine' mk_ccall_use (mk_ccall) ?k1 ?k2 ?k3 ?k4 ?k5 ?kK ?kd ?ku ?_; (case k2 => k_asm); (case k1 => k_asm); (case k3 => k_asm); (case k4 => k_asm); (case k5 => k_asm); (case kK => first | exact rfl | assumption); (case kd => ktr_room); (case ku => ktr_units);  k_whole)); (intro E' D' _ _ _ _ _ _ _ _ l1' l2' h' tk' F' N'; (try k_lt l1'); (try k_lt2 l2')); (try k_sweep); (try k_fold); (try dsimp only); walk_say "MK_CCALL")))
  (k_with "call ref" => ((k_here; (with_reducible show wpAny _ _ (call (Value.ref 951) _) _ _ _); k_dflt (first | (refine' bound_use (bound_call ?he ?hd ?hs ?hds ?hc ?hr1 ?hr2 ?hp ?hv1 ?hv2) ?k1 ?k2 ?k3 ?k4 ?k5 ?kK ?kd ?ku ?_; (case k2 => k_asm); (case k1 => k_asm); (case k3 => k_asm); (case k4 => k_asm); (case k5 => k_asm); (case kK => first | exact rfl | assumption); (case kd => ktr_room); (case ku => ktr_units); (case he => k_mem); (case hd => k_mem); (case hs => k_mem); (case hds => k_mem); (case hc => k_mem); (case hr1 => k_mem); (case hr2 => k_mem); (case hp => omega); (case hv1 => first | assumption | rfl); (case hv2 => first | assumption | rfl); k_whole)); (intro E' D' _ _ _ _ _ _ _ _ _ _ _ _ _ _ _ _ _ _ l1' l2' h' tk' F' N'; (try k_lt l1'); (try k_lt2 l2')); (try k_sweep); (try k_fold); (try dsimp only); walk_say "BOUND")))
  (k_with "call ref" => ((k_here; (with_reducible show wpAny _ _ (call (Value.ref 845) _) _ _ _); k_dflt (first | (refine' call_str (out_expr (C := 411) ?hc ?hdc ?he ?hd ?he2 ?hd2 ?hw ?hC) ?k1 ?k2 ?k3 ?k4 ?k5 ?kK ?kd ?ku ?_; (case k2 => k_asm); (case k1 => k_asm); (case k3 => k_asm); (case k4 => k_asm); (case k5 => k_asm); (case kK => first | exact rfl | assumption); (case kd => ktr_room); (case ku => ktr_units); (case hc => k_mem); (case hdc => k_mem); (case he => k_mem); (case hd => k_mem); (case he2 => k_mem); (case hd2 => k_mem); (case hC => exact .inr (.inr (.inr rfl))); (case hw => first | exact we_call (by k_mem) (by k_mem) (by k_mem) (by decide) (by k_mem) (by k_mem) (by decide) | exact we_star (by k_mem) (by k_mem) (by k_mem) (by decide)); k_whole)); (intro t' h' tk' F' N'); (try k_sweep); (try k_fold); (try dsimp only); walk_say "OUT EXPR")))
  (k_with "call ref" => ((k_here; (with_reducible show wpAny _ _ (call (Value.ref 845) _) _ _ _); k_dflt (first | (refine' call_str (out_expr (C := 231) ?hc ?hdc ?he ?hd ?he2 ?hd2 ?hw ?hC) ?k1 ?k2 ?k3 ?k4 ?k5 ?kK ?kd ?ku ?_; (case k2 => k_asm); (case k1 => k_asm); (case k3 => k_asm); (case k4 => k_asm); (case k5 => k_asm); (case kK => first | exact rfl | assumption); (case kd => ktr_room); (case ku => ktr_units); (case hc => k_mem); (case hdc => k_mem); (case he => k_mem); (case hd => k_mem); (case he2 => k_mem); (case hd2 => k_mem); (case hC => exact .inr (.inr (.inl rfl))); (case hw => exact we_plus (by k_mem) (by k_mem) (by k_mem) (by k_mem) (by decide) (by k_mem) (by k_mem) (by decide) (by decide)); k_whole)); (intro t' h' tk' F' N'); (try k_sweep); (try k_fold); (try dsimp only); walk_say "OUT EXPR")))
  (k_with "call ref" => ((k_here; (with_reducible show wpAny _ _ (call (Value.ref 845) _) _ _ _); k_dflt (first | (refine' call_str (out_expr (C := 127) ?hc ?hdc ?he ?hd ?he2 ?hd2 ?hw ?hC) ?k1 ?k2 ?k3 ?k4 ?k5 ?kK ?kd ?ku ?_; (case k2 => k_asm); (case k1 => k_asm); (case k3 => k_asm); (case k4 => k_asm); (case k5 => k_asm); (case kK => first | exact rfl | assumption); (case kd => ktr_room); (case ku => ktr_units); (case hc => k_mem); (case hdc => k_mem); (case he => k_mem); (case hd => k_mem); (case he2 => k_mem); (case hd2 => k_mem); (case hC => exact .inr (.inl rfl)); (case hw => exact we_lit (by k_mem) (by k_mem) (by first | exact .inl rfl | exact .inr ⟨_, _, rfl, by decide, by decide⟩)); k_whole)); (intro t' h' tk' F' N'); (try k_sweep); (try k_fold); (try dsimp only); walk_say "OUT EXPR")))
  (k_with "call ref" => ((k_here; (with_reducible show wpAny _ _ (call (Value.ref 845) _) _ _ _); k_dflt (first | (refine' call_str (out_expr (C := 153) (C2 := 127) ?hc ?hdc ?he ?hd ?he2 ?hd2 ?hw ?hC) ?k1 ?k2 ?k3 ?k4 ?k5 ?kK ?kd ?ku ?_; (case k2 => k_asm); (case k1 => k_asm); (case k3 => k_asm); (case k4 => k_asm); (case k5 => k_asm); (case kK => first | exact rfl | assumption); (case kd => ktr_room); (case ku => ktr_units); (case hc => k_mem); (case hdc => k_mem); (case he => k_mem); (case hd => k_mem); (case he2 => k_mem); (case hd2 => k_mem); (case hC => exact .inl ⟨rfl, rfl⟩); (case hw => exact we_name (by k_mem) (by k_mem) (by decide)); k_whole)); (intro t' h' tk' F' N'); (try k_sweep); (try k_fold); (try dsimp only); walk_say "OUT EXPR")))
  (k_with "call ref" => ((k_here; (with_reducible show wpAny _ _ (call (Value.ref 845) _) _ _ _); k_dflt (first | (refine' call_val (out_found ?hc ?hdc ?he ?hd ?he2 ?hd2 ?hsc ?hds ?hsl ?hs1 ?hd1 ?hs2 ?hds2 ?hc1 ?hc2 ?hr1 ?hr2 ?hcol ?hk') ?k1 ?k2 ?k3 ?k4 ?k5 ?kK ?kd ?ku ?_; (case k2 => k_asm); (case k1 => k_asm); (case k3 => k_asm); (case k4 => k_asm); (case k5 => k_asm); (case kK => first | exact rfl | assumption); (case kd => ktr_room); (case ku => ktr_units); (case hc => k_mem); (case hdc => k_mem); (case he => k_mem); (case hd => k_mem); (case he2 => k_mem); (case hd2 => k_mem); (case hsc => k_mem); (case hds => k_mem); (case hsl => k_mem); (case hs1 => k_mem); (case hd1 => k_mem); (case hs2 => k_mem); (case hds2 => k_mem); (case hc1 => k_mem); (case hc2 => k_mem); (case hr1 => k_mem); (case hr2 => k_mem); (case hcol => first | assumption | rfl); (case hk' => first | exact .inl ⟨rfl, rfl, rfl⟩ | exact .inr (.inl ⟨rfl, rfl, rfl⟩) | exact .inr (.inr (.inl ⟨rfl, rfl, rfl⟩)) | exact .inr (.inr (.inr (.inl ⟨rfl, rfl, rfl⟩))) | exact .inr (.inr (.inr (.inr (.inl ⟨rfl, rfl, rfl⟩)))) | exact .inr (.inr (.inr (.inr (.inr (.inl ⟨rfl, rfl, rfl⟩))))) | exact .inr (.inr (.inr (.inr (.inr (.inr ⟨rfl, rfl⟩)))))); k_whole)); (intro h' tk' F' N'); (try k_sweep); (try k_fold); (try dsimp only); walk_say "OUT FOUND")))
  (k_with "call ref" => ((k_here; (with_reducible show wpAny _ _ (call (Value.ref 845) _) _ _ _); k_dflt (first | (refine' call_str (out_alias ?hc ?hdc) ?k1 ?k2 ?k3 ?k4 ?k5 ?kK ?kd ?ku ?_; (case k2 => k_asm); (case k1 => k_asm); (case k3 => k_asm); (case k4 => k_asm); (case k5 => k_asm); (case kK => first | exact rfl | assumption); (case kd => ktr_room); (case ku => ktr_units); (case hc => k_mem); (case hdc => k_mem); k_whole)); (intro t' h' tk' F' N'); (try k_sweep); (try k_fold); (try dsimp only); walk_say "OUT ALIAS")))
  (k_with "subscriptTail Name Name ref int" => ((k_here; (with_reducible show wpAny _ _ (subscriptTail (Expr.Name (Str.ofString "columns") _) _ (Value.ref _) (Value.int _ _)) _ _ _); k_dflt ((rcases two_cases (by with_reducible assumption) (by with_reducible assumption) with e9' | e9') <;> subst e9' <;> first | ((with_reducible show wpAny _ _ (subscriptTail _ _ (Value.ref _) (Value.int 0 _)) _ _ _); refine' item_a ?N ?hm ?_; (case N => k_asm); (case hm => k_mem); k_whole) | ((with_reducible show wpAny _ _ (subscriptTail _ _ (Value.ref _) (Value.int 1 _)) _ _ _); refine' item_b ?N ?hm ?_; (case N => k_asm); (case hm => k_mem); k_whole)); walk_say "PLACE")))
  (k_with "exec Assign" => ((k_here; (fail_if_success (with_reducible rename Cut => z9)); (with_reducible show wpAny _ _ (exec (Stmt.Assign _ (Expr.Call (Expr.Name _ _) [Expr.Call _ _ _ _, Expr.Call _ _ _ _] _ _) _) _) _ _ _); (with_reducible rename News _ _ _ _ => n9); k_dflt (refine' cut_led n9 ?ho ?hp ?hr ?_; (case ho => with_reducible assumption); (case hp => k_mem); (case hr => k_all)); walk_say "CUT")))
  (k_with "newList" => ((k_here; k_dflt (refine' newList_K ?k1 ?k2 ?_; (case k1 => k_asm); (case k2 => k_asm); k_whole); intro l' h' F' N' l1'; (try k_lt l1'); (try k_sweep))))
  (k_with "subscriptTail Subscript Name Name Constant ref int" => ((k_here; (with_reducible show wpAny _ _ (subscriptTail (Expr.Subscript _ _ _) _ (Value.ref _) (Value.int 0 _)) _ _ _); k_dflt (refine' item_tupleT ?t ?a ?b ?c ?d ?_; (case t => exact News.isTup (by k_asm) (by k_mem)); (case a => decide); (case b => decide); (case c => rfl); (case d => rfl); k_whole))))
  (k_with "compareOp NotEq str str" => ((k_here; (first | refine ne_own ?_ | refine ne_as lit_five ?_); walk_say "OWN")))
  (k_with "compareOp Eq str str" => ((k_here; refine eq_own ?_; walk_say "OWN")))
  (k_with "exec If" => ((k_here; (fail_if_success (with_reducible rename Cut2 => z9)); (with_reducible show wpAny _ _ (exec (Stmt.If (Expr.Compare _ [CmpOp.Lt] _ _) _ _ _) _) _ _ _); refine stop_at ?_; walk_say "JOIN")))
  (k_with "NrPost" => ((k_here; k_dflt (refine' nr_post ?F ?N ?hp ?ho ?hr ?sub ?m1 ?m2 ?m3 ?m4 ?m5 ?hC ?hz; (case F => k_asm); (case N => k_asm); (case hp => k_mem); (case ho => with_reducible assumption); (case hr => k_all); (case m1 => exact rfl); (case m2 => exact rfl); (case m3 => exact rfl); (case m4 => exact rfl); (case m5 => exact rfl); (case hC => (unfold OutsTo; intro c' dc' a0' t0' a1' t1' a2' t2' q1' n0' led' hl' hc' hdc'; first | (refine' callTo_str (out_found hc' hdc' ?he ?hd ?he2 ?hd2 ?hsc ?hds ?hsl ?hs1 ?hd1 ?hs2 ?hds2 ?hc1 ?hc2 ?hr1 ?hr2 ?hcol ?hk') ?km; (case he => (refine hl' _ ?_; k_mem)); (case hd => (refine hl' _ ?_; k_mem)); (case he2 => (refine hl' _ ?_; k_mem)); (case hd2 => (refine hl' _ ?_; k_mem)); (case hsc => (refine hl' _ ?_; k_mem)); (case hds => (refine hl' _ ?_; k_mem)); (case hsl => (refine hl' _ ?_; k_mem)); (case hs1 => (refine hl' _ ?_; k_mem)); (case hd1 => (refine hl' _ ?_; k_mem)); (case hs2 => (refine hl' _ ?_; k_mem)); (case hds2 => (refine hl' _ ?_; k_mem)); (case hc1 => (refine hl' _ ?_; k_mem)); (case hc2 => (refine hl' _ ?_; k_mem)); (case hr1 => (refine hl' _ ?_; k_mem)); (case hr2 => (refine hl' _ ?_; k_mem)); (case hcol => first | assumption | rfl); (case hk' => first | exact .inl ⟨rfl, rfl, rfl⟩ | exact .inr (.inl ⟨rfl, rfl, rfl⟩) | exact .inr (.inr (.inl ⟨rfl, rfl, rfl⟩)) | exact .inr (.inr (.inr (.inl ⟨rfl, rfl, rfl⟩))) | exact .inr (.inr (.inr (.inr (.inl ⟨rfl, rfl, rfl⟩)))) | exact .inr (.inr (.inr (.inr (.inr (.inl ⟨rfl, rfl, rfl⟩))))) | exact .inr (.inr (.inr (.inr (.inr (.inr ⟨rfl, rfl⟩)))))); (case km => decide)) | (refine' out_expr (C := 153) (C2 := 127) hc' hdc' ?he ?hd ?he2 ?hd2 ?hw ?hC; (case he => (refine hl' _ ?_; k_mem)); (case hd => (refine hl' _ ?_; k_mem)); (case he2 => (refine hl' _ ?_; k_mem)); (case hd2 => (refine hl' _ ?_; k_mem)); (case hC => exact .inl ⟨rfl, rfl⟩); (case hw => exact we_name (hl' _ (by k_mem)) (hl' _ (by k_mem)) (by decide))) | (refine' out_expr (C := 127) hc' hdc' ?he ?hd ?he2 ?hd2 ?hw ?hC; (case he => (refine hl' _ ?_; k_mem)); (case hd => (refine hl' _ ?_; k_mem)); (case he2 => (refine hl' _ ?_; k_mem)); (case hd2 => (refine hl' _ ?_; k_mem)); (case hC => exact .inr (.inl rfl)); (case hw => exact we_lit (hl' _ (by k_mem)) (hl' _ (by k_mem)) (by first | exact .inl rfl | exact .inr ⟨_, _, rfl, by decide, by decide⟩))) | (refine' out_expr (C := 231) hc' hdc' ?he ?hd ?he2 ?hd2 ?hw ?hC; (case he => (refine hl' _ ?_; k_mem)); (case hd => (refine hl' _ ?_; k_mem)); (case he2 => (refine hl' _ ?_; k_mem)); (case hd2 => (refine hl' _ ?_; k_mem)); (case hC => exact .inr (.inr (.inl rfl))); (case hw => exact we_plus (hl' _ (by k_mem)) (hl' _ (by k_mem)) (hl' _ (by k_mem)) (hl' _ (by k_mem)) (by decide) (hl' _ (by k_mem)) (hl' _ (by k_mem)) (by decide) (by decide))) | (refine' out_expr (C := 411) hc' hdc' ?he ?hd ?he2 ?hd2 ?hw ?hC; (case he => (refine hl' _ ?_; k_mem)); (case hd => (refine hl' _ ?_; k_mem)); (case he2 => (refine hl' _ ?_; k_mem)); (case hd2 => (refine hl' _ ?_; k_mem)); (case hC => exact .inr (.inr (.inr rfl))); (case hw => first | exact we_call (hl' _ (by k_mem)) (hl' _ (by k_mem)) (hl' _ (by k_mem)) (by decide) (hl' _ (by k_mem)) (hl' _ (by k_mem)) (by decide) | exact we_star (hl' _ (by k_mem)) (hl' _ (by k_mem)) (hl' _ (by k_mem)) (by decide))))); (case hz => first | exact rfl | exact lit_five); (case sub => (intro q' hq'; (repeat (with_reducible refine mem_tl ?_)); first | with_reducible assumption | (refine AllIn.sub (by with_reducible assumption) _ ?_; with_reducible assumption)))); walk_say "NR POST")))
  (k_with "call ref" => ((k_here; (with_reducible show wpAny _ _ (call (Value.ref 845) _) _ _ _); k_dflt (first | (refine' call_str (outs_use ?hO ?hl ?hc ?hdc) ?k1 ?k2 ?k3 ?k4 ?k5 ?kK ?kd ?ku ?_; (case k2 => k_asm); (case k1 => k_asm); (case k3 => k_asm); (case k4 => k_asm); (case k5 => k_asm); (case kK => first | exact rfl | assumption); (case kd => ktr_room); (case ku => ktr_units); (case hO => with_reducible assumption); (case hl => (intro q' hq'; (repeat (with_reducible refine mem_tl ?_)); with_reducible assumption)); (case hc => k_mem); (case hdc => k_mem); k_whole)); (intro t' h' tk' F' N'); (try k_sweep); (try k_fold); (try dsimp only); walk_say "OUTS")))
  (k_with "eval Name" => ((k_here; (with_reducible rename Cut3 => z9); k_dflt (refine' ld ?k1 ?k2 ?_; (case k1 => k_asm); (case k2 => first | with_reducible assumption | (refine (if_neg (by decide)).trans ?_; with_reducible assumption)); k_whole))))
  (k_with "k_handed" => (first | assumption | rfl))
  (k_with "call ref" => ((k_here; (with_reducible show wpAny _ _ (call (Value.ref 940) _) _ _ _); k_dflt (first | (refine' mk_scope_use (mk_scope) ?k1 ?k2 ?k3 ?k4 ?k5 ?kK ?kd ?ku ?_; (case k2 => k_asm); (case k1 => k_asm); (case k3 => k_asm); (case k4 => k_asm); (case k5 => k_asm); (case kK => first | exact rfl | assumption); (case kd => ktr_room); (case ku => ktr_units);  k_whole)); (intro E' D' Al' Od' od' _ _ _ _ _ _ _ _ _ _ _ _ _ _ l1' l2' l3' l4' h' tk' F' N'; (try k_lt l1'); (try k_lt2 l2'); (try k_lt2 l3'); (try k_lt2 l4')); (try k_sweep); (try k_fold); (try dsimp only); walk_say "MK_SCOPE")))
  trivial
set_option maxHeartbeats 4000000 in
theorem nright_call {w : World} {p : Program} {loose : List Str} {mean : ExcName → Option Value} {mg mb : Str → Option Value} {src : Addr} {o : Obj} {rest : Led}
    (ho : SrcOk o) (hr : ∀ q ∈ rest, q.1 ≠ src) :
    CallTo w p loose mean mg mb 1005 [.ref src] ((src, o) :: rest) 15 (fun r news' => ∃ o', r = .bool true ∧ SrcOk o' ∧ news' = (src, o') :: rest) := by
  exact ensure_expected_type% "" (by exact ?walk9 : type_of% (let_mvar% ?walk9 := (by
    intro dp un gd cn cs ac ccd cl outer A₀ base h₀ L m s Q E B F X N T hk hdp hun hret
    refine wpAny_call ?_
    k_dflt cell_enter
    k_steps
    all_goals (unfold Stop; intro n9 N9 hin9 hne9; have hcut9 : Cut := trivial; (with_reducible rename News _ _ _ (_ :: _ :: _ :: _) => old9); clear old9; (repeat (with_reducible rename (_ ∧ _) => z9; clear z9)); (repeat (with_reducible rename (∀ p, p ∈ _ → @LT.lt Nat _ (Prod.fst p) _) => z9; clear z9)); (obtain ⟨f1, f2, f3, f4, f5, f6, f7, f8, f9, f10, f11, f12, f13, f14, f15, f16, f17, f18, f19, f20, hsub⟩ := hin9); replace hsub := hsub.sub)
    all_goals k_steps
    all_goals (unfold Stop; have hcut8 : Cut2 := trivial; refine nr_join (w := w) (p := p) (loose := loose) (mean := mean) (mg := mg) (mb := mb) (src := src) (rest := n9) (by k_asm) ?_ ?_)
    all_goals k_steps
    all_goals (unfold Stop; intro f9 s9 hP9; have hcut7 : Cut3 := trivial; obtain ⟨rfl, h9, tk9, m9, l9, o9, e9, x9, c9, z9, z8, t9, rfl, F9, N8, ho9, hr9, hs9, m1, m2, m3, m4, m5, hz, C9⟩ := hP9; subst hz)
    all_goals k_steps
    all_goals (refine' nr_end hret ?F ?N ?ho ?m1 ?sub; (case F => k_asm); (case N => k_asm); (case ho => with_reducible assumption); (case m1 => k_mem); (case sub => (intro q hq; (repeat (with_reducible refine mem_tl ?_)); exact hs9 q (hsub q hq))))
    : _); ?walk9))
end
theorem rows40 : True := by
  w_top off
  k_with_none
  (k_with "execs cons" => ((k_here; (with_reducible refine gen_toks (P := fun k => wpAny _ _ _ _ _ ⟨_, _, _, k, _⟩) (_ + _) ?_); intro tk9'; walk_say "TOKS")))
  (k_with "eval Name" => ((k_here; name_kind "globalImplicit"; k_dflt (refine' nameX_K ?F ?X ?T ?e ?_ ?a ?b; (case F => k_asm); (case X => k_asm); (case T => k_asm); (case a => kernel_rfl!); (case b => kernel_rfl!); (case e => k_is); k_whole))))
  (k_with "eval Name" => ((k_here; name_kind "local"; k_dflt (refine' nameX_L ?F ?v ?_ ?a ?b; (case F => k_asm); (case a => kernel_rfl!); (case b => kernel_rfl!); (case v => rfl); k_whole))))
  (k_with "execs nil" => ((k_here; (with_reducible refine gen_toks (P := fun k => wpAny _ _ _ _ _ ⟨_, _, _, k, _⟩) (_ + _) ?_); intro tk9'; walk_say "TOKS")))
  (k_with "eval Name" => ((k_here; name_kind "globalImplicit"; name_is_builtin; k_dflt (refine' nameX_B ?F ?X ?T ?e ?v ?n ?_ ?a ?b; (case F => k_asm); (case X => k_asm); (case T => k_asm); (case a => kernel_rfl!); (case b => kernel_rfl!); (case e => k_is); (case v => boot_fast); (case n => decide); k_whole))))
  (k_with "ite" => ((k_closed; first | with_reducible refine ite_ff ?_ | with_reducible refine ite_tt ?_ | k_dflt (first | refine ite_t rfl ?_ | refine ite_f rfl ?_))))
  (k_with "call builtin:isinstance" => ((k_here; k_dflt (refine' isi_call ?k1 ?k2 ?k3 ?k4 ?_; (case k1 => k_in); (case k2 => k_types); (case k3 => k_is); (case k4 => intro e; cases e); k_whole))))
  (k_with "ktr_room" => (k_dflt (first | exact room2 (by with_reducible assumption) (by decide) | exact room1 (by with_reducible assumption) rfl | exact room0 (by with_reducible assumption))))
  (k_with "ktr_units" => (k_dflt (first | exact units2 (by with_reducible assumption) (by decide) | exact units1 (by with_reducible assumption) rfl | exact units0 (by with_reducible assumption) rfl | exact room0 (by with_reducible assumption))))
  (k_with "k_in" => (first | with_reducible assumption | exact Frag.In.keeps (by with_reducible assumption) (Fr.keep (by with_reducible assumption))))
  (k_with "call builtin:isinstance" => ((k_here; (with_reducible show wpAny _ _ (call _ [Value.ref _, Value.ref _]) _ _ _); k_dflt (refine' kin_callC ?k1 ?k2 ?k3 ?k4 ?k5 ?k6 ?k7 ?k8 ?k9 ?_; (case k1 => k_in); (case k2 => k_inst); (case k3 => kin_no); (case k4 => k_is); (case k5 => k_is); (case k6 => k_is); (case k7 => k_is); (case k8 => k_is); (case k9 => k_is); k_whole))))
  (k_with "getAttr ref" => ((k_here; k_dflt (refine' get_own ?k1 ?k2 ?k3 ?k4 ?k5 ?k6 ?k7 ?k8 ?k9 ?_; (case k1 => k_asm); (case k2 => k_asm); (case k3 => k_inst); (case k4 => k_is); (case k5 => k_is); (case k6 => k_is); (case k7 => k_is); (case k8 => k_get); (case k9 => k_handed); k_whole))))
  (k_with "k_room" => (ktr_room))
  (k_with "k_units" => (ktr_units))
  (k_with "k_all" => (assumption))
  (k_with "k_mem" => (first | assumption | ((with_reducible show Pick _ _ _); first | exact Pick.head | exact Pick.tail (Pick.head) | exact Pick.tail (Pick.tail (Pick.head)) | exact Pick.tail (Pick.tail (Pick.tail (Pick.head))) | exact Pick.tail (Pick.tail (Pick.tail (Pick.tail (Pick.head)))) | exact Pick.tail (Pick.tail (Pick.tail (Pick.tail (Pick.tail (Pick.head))))) | exact Pick.tail (Pick.tail (Pick.tail (Pick.tail (Pick.tail (Pick.tail (Pick.head)))))) | exact Pick.tail (Pick.tail (Pick.tail (Pick.tail (Pick.tail (Pick.tail (Pick.tail (Pick.head))))))) | exact Pick.t8 (Pick.head) | exact Pick.t8 (Pick.tail (Pick.head)) | exact Pick.t8 (Pick.tail (Pick.tail (Pick.head))) | exact Pick.t8 (Pick.tail (Pick.tail (Pick.tail (Pick.head)))) | exact Pick.t8 (Pick.tail (Pick.tail (Pick.tail (Pick.tail (Pick.head))))) | exact Pick.t8 (Pick.tail (Pick.tail (Pick.tail (Pick.tail (Pick.tail (Pick.head)))))) | exact Pick.t8 (Pick.tail (Pick.tail (Pick.tail (Pick.tail (Pick.tail (Pick.tail (Pick.head))))))) | exact Pick.t8 (Pick.tail (Pick.tail (Pick.tail (Pick.tail (Pick.tail (Pick.tail (Pick.tail (Pick.head)))))))) | exact Pick.t8 (Pick.t8 (Pick.head)) | exact Pick.t8 (Pick.t8 (Pick.tail (Pick.head))) | exact Pick.t8 (Pick.t8 (Pick.tail (Pick.tail (Pick.head)))) | exact Pick.t8 (Pick.t8 (Pick.tail (Pick.tail (Pick.tail (Pick.head))))) | exact Pick.t8 (Pick.t8 (Pick.tail (Pick.tail (Pick.tail (Pick.tail (Pick.head)))))) | exact Pick.t8 (Pick.t8 (Pick.tail (Pick.tail (Pick.tail (Pick.tail (Pick.tail (Pick.head))))))) | exact Pick.t8 (Pick.t8 (Pick.tail (Pick.tail (Pick.tail (Pick.tail (Pick.tail (Pick.tail (Pick.head)))))))) | exact Pick.t8 (Pick.t8 (Pick.tail (Pick.tail (Pick.tail (Pick.tail (Pick.tail (Pick.tail (Pick.tail (Pick.head))))))))) | exact Pick.t8 (Pick.t8 (Pick.t8 (Pick.head))) | exact Pick.t8 (Pick.t8 (Pick.t8 (Pick.tail (Pick.head)))) | exact Pick.t8 (Pick.t8 (Pick.t8 (Pick.tail (Pick.tail (Pick.head))))) | exact Pick.t8 (Pick.t8 (Pick.t8 (Pick.tail (Pick.tail (Pick.tail (Pick.head)))))) | exact Pick.t8 (Pick.t8 (Pick.t8 (Pick.tail (Pick.tail (Pick.tail (Pick.tail (Pick.head))))))) | exact Pick.t8 (Pick.t8 (Pick.t8 (Pick.tail (Pick.tail (Pick.tail (Pick.tail (Pick.tail (Pick.head)))))))) | exact Pick.t8 (Pick.t8 (Pick.t8 (Pick.tail (Pick.tail (Pick.tail (Pick.tail (Pick.tail (Pick.tail (Pick.head))))))))) | exact Pick.t8 (Pick.t8 (Pick.t8 (Pick.tail (Pick.tail (Pick.tail (Pick.tail (Pick.tail (Pick.tail (Pick.tail (Pick.head)))))))))) | exact Pick.t8 (Pick.t8 (Pick.t8 (Pick.t8 (Pick.head)))) | exact Pick.t8 (Pick.t8 (Pick.t8 (Pick.t8 (Pick.tail (Pick.head))))) | exact Pick.t8 (Pick.t8 (Pick.t8 (Pick.t8 (Pick.tail (Pick.tail (Pick.head)))))) | exact Pick.t8 (Pick.t8 (Pick.t8 (Pick.t8 (Pick.tail (Pick.tail (Pick.tail (Pick.head))))))) | exact Pick.t8 (Pick.t8 (Pick.t8 (Pick.t8 (Pick.tail (Pick.tail (Pick.tail (Pick.tail (Pick.head)))))))) | exact Pick.t8 (Pick.t8 (Pick.t8 (Pick.t8 (Pick.tail (Pick.tail (Pick.tail (Pick.tail (Pick.tail (Pick.head))))))))) | exact Pick.t8 (Pick.t8 (Pick.t8 (Pick.t8 (Pick.tail (Pick.tail (Pick.tail (Pick.tail (Pick.tail (Pick.tail (Pick.head)))))))))) | exact Pick.t8 (Pick.t8 (Pick.t8 (Pick.t8 (Pick.tail (Pick.tail (Pick.tail (Pick.tail (Pick.tail (Pick.tail (Pick.tail (Pick.head))))))))))) | exact Pick.t8 (Pick.t8 (Pick.t8 (Pick.t8 (Pick.t8 (Pick.head))))) | exact Pick.t8 (Pick.t8 (Pick.t8 (Pick.t8 (Pick.t8 (Pick.tail (Pick.head)))))) | exact Pick.t8 (Pick.t8 (Pick.t8 (Pick.t8 (Pick.t8 (Pick.tail (Pick.tail (Pick.head))))))) | exact Pick.t8 (Pick.t8 (Pick.t8 (Pick.t8 (Pick.t8 (Pick.tail (Pick.tail (Pick.tail (Pick.head)))))))) | exact Pick.t8 (Pick.t8 (Pick.t8 (Pick.t8 (Pick.t8 (Pick.tail (Pick.tail (Pick.tail (Pick.tail (Pick.head))))))))) | exact Pick.t8 (Pick.t8 (Pick.t8 (Pick.t8 (Pick.t8 (Pick.tail (Pick.tail (Pick.tail (Pick.tail (Pick.tail (Pick.head)))))))))) | exact Pick.t8 (Pick.t8 (Pick.t8 (Pick.t8 (Pick.t8 (Pick.tail (Pick.tail (Pick.tail (Pick.tail (Pick.tail (Pick.tail (Pick.head))))))))))) | exact Pick.t8 (Pick.t8 (Pick.t8 (Pick.t8 (Pick.t8 (Pick.tail (Pick.tail (Pick.tail (Pick.tail (Pick.tail (Pick.tail (Pick.tail (Pick.head)))))))))))) | exact Pick.t8 (Pick.t8 (Pick.t8 (Pick.t8 (Pick.t8 (Pick.t8 (Pick.head)))))) | exact Pick.t8 (Pick.t8 (Pick.t8 (Pick.t8 (Pick.t8 (Pick.t8 (Pick.tail (Pick.head))))))) | exact Pick.t8 (Pick.t8 (Pick.t8 (Pick.t8 (Pick.t8 (Pick.t8 (Pick.tail (Pick.tail (Pick.head)))))))) | exact Pick.t8 (Pick.t8 (Pick.t8 (Pick.t8 (Pick.t8 (Pick.t8 (Pick.tail (Pick.tail (Pick.tail (Pick.head))))))))) | exact Pick.t8 (Pick.t8 (Pick.t8 (Pick.t8 (Pick.t8 (Pick.t8 (Pick.tail (Pick.tail (Pick.tail (Pick.tail (Pick.head)))))))))) | exact Pick.t8 (Pick.t8 (Pick.t8 (Pick.t8 (Pick.t8 (Pick.t8 (Pick.tail (Pick.tail (Pick.tail (Pick.tail (Pick.tail (Pick.head))))))))))) | exact Pick.t8 (Pick.t8 (Pick.t8 (Pick.t8 (Pick.t8 (Pick.t8 (Pick.tail (Pick.tail (Pick.tail (Pick.tail (Pick.tail (Pick.tail (Pick.head)))))))))))) | exact Pick.t8 (Pick.t8 (Pick.t8 (Pick.t8 (Pick.t8 (Pick.t8 (Pick.tail (Pick.tail (Pick.tail (Pick.tail (Pick.tail (Pick.tail (Pick.tail (Pick.head)))))))))))))) | exact List.Mem.tail _ (by assumption)))
  (k_with "call ref" => ((k_here; (with_reducible show wpAny _ _ (call (Value.ref 965) _) _ _ _); k_dflt (refine' take_use ?k1 ?k2 ?k3 ?k4 ?k5 ?kK ?kp ?ko ?kr ?h2 ?ht ?kd ?ku ?_; (case k2 => k_asm); (case k1 => k_asm); (case k3 => k_asm); (case k4 => k_asm); (case k5 => k_asm); (case kK => first | exact rfl | assumption); (case kp => k_mem); (case ko => assumption); (case kr => k_all); (case h2 => omega); (case ht => omega); (case kd => ktr_room); (case ku => ktr_units); k_whole); intro d' t' o' h' tk' hd0' hd1' hso' F' N'; (try k_sweep); (try k_fold); (try dsimp only); walk_say "TAKE")))
  (k_with "call ref" => ((k_here; (with_reducible show wpAny _ _ (call (Value.ref 58) _) _ _ _); k_dflt (refine' fold_use ?k1 ?k2 ?k3 ?k4 ?k5 ?kK ?kn ?kd ?ku ?_; (case k2 => k_asm); (case k1 => k_asm); (case k3 => k_asm); (case k4 => k_asm); (case k5 => k_asm); (case kK => first | exact rfl | assumption); (case kn => assumption); (case kd => ktr_room); (case ku => ktr_units); k_whole); intro t' h' tk' F' N'; (try k_sweep); (try k_fold); (try dsimp only); walk_say "FOLD")))
  (k_with "call ref" => ((k_here; (with_reducible show wpAny _ _ (call (Value.ref 986) _) _ _ _); k_dflt (refine' lordinal_use ?k1 ?k2 ?k3 ?k4 ?k5 ?kK ?h0 ?h1 ?kd ?ku ?_; (case k2 => k_asm); (case k1 => k_asm); (case k3 => k_asm); (case k4 => k_asm); (case k5 => k_asm); (case kK => first | exact rfl | assumption); (case h0 => omega); (case h1 => omega); (case kd => ktr_room); (case ku => ktr_units); k_whole); intro t' h' tk' hol' F' N'; (try k_sweep); (try k_fold); (try dsimp only); walk_say "LORDINAL")))
  (k_with "call ref" => ((k_here; (with_reducible show wpAny _ _ (call (Value.ref 852) _) _ _ _); k_dflt (refine' ordinal_use ?k1 ?k2 ?k3 ?k4 ?k5 ?kK ?h0 ?h1 ?kd ?ku ?_; (case k2 => k_asm); (case k1 => k_asm); (case k3 => k_asm); (case k4 => k_asm); (case k5 => k_asm); (case kK => first | exact rfl | assumption); (case h0 => omega); (case h1 => omega); (case kd => ktr_room); (case ku => ktr_units); k_whole); intro t' h' tk' hol' F' N'; (try k_sweep); (try k_fold); (try dsimp only); walk_say "ORDINAL")))
  (k_with "call builtin:len" => ((k_here; (with_reducible show wpAny _ _ (call (Value.builtin "len") [Value.ref _]) _ _ _); k_dflt (refine' len_short ?N ?m ?f ?_; (case N => k_asm); (case m => k_mem); (case f => omega); k_whole))))
  (k_with "call ref" => ((k_here; (with_reducible show wpAny _ _ (call (Value.ref 866) _) _ _ _); k_dflt (refine' alias_use ?k1 ?k2 ?k3 ?k4 ?k5 ?kK ?ke ?kD ?kv ?kl ?kn ?k9 ?kd ?ku ?_; (case k2 => k_asm); (case k1 => k_asm); (case k3 => k_asm); (case k4 => k_asm); (case k5 => k_asm); (case kK => first | exact rfl | assumption); (case ke => k_mem); (case kD => k_mem); (case kv => assumption); (case kl => k_mem); (case kn => assumption); (case k9 => assumption); (case kd => ktr_room); (case ku => ktr_units); k_whole); intro t' h' tk' F' N'; (try k_sweep); (try k_fold); (try dsimp only); walk_say "ALIAS")))
  (k_with "call ref" => ((k_here; (with_reducible show wpAny _ _ (call (Value.ref 51) _) _ _ _); k_dflt (refine' exc_make ?F ?X ?N ?hC ?b1 ?b2 ?b3 ?hv ?hi ?hf ?_; (case F => k_asm); (case X => k_asm); (case N => k_asm); (case hC => k_is); (case b1 => decide +kernel); (case b2 => decide +kernel); (case b3 => decide +kernel); (case hv => exact Nat.le_of_ble_eq_true rfl); (case hi => k_is); (case hf => k_is); k_whole); intro e' T' h' F' N' l1 l2 l3; (try k_lt l1); (try k_lt2 l2); (try k_sweep); k_enter; walk_say "EXC MADE")))
  (k_with "setAttr ref" => ((k_here; k_dflt (refine' exc_set ?F ?X ?N ?hx ?hc ?hm ?hd ?hs ?ht ?_; (case F => k_asm); (case X => k_asm); (case N => k_asm); (case hx => k_all); (case hc => k_is); (case hm => exact rfl); (case hd => exact rfl); (case hs => k_is); (case ht => k_is); k_whole); intro d' h' tk' a' b' F' N' l1 l2 l3; (try k_lt l1); (try k_sweep); (try dsimp only); walk_say "EXC SET")))
  (k_with "getAttr ref" => ((k_here; k_dflt (refine' exc_get ?F ?X ?N ?hx ?hdx ?hc ?hm ?hd ?hg ?hk ?ha ?hl ?hv ?_; (case F => k_asm); (case X => k_asm); (case N => k_asm); (case hx => k_mem); (case hdx => k_mem); (case hc => k_is); (case hm => exact rfl); (case hd => exact rfl); (case hg => k_is); (case hk => k_is); (case ha => k_is); (case hl => exact rfl); (case hv => exact rfl); k_whole); intro tk'; walk_say "EXC GET")))
  (k_with "exec Raise some none" => ((k_here; (with_reducible show wpAny _ _ (exec (Stmt.Raise (some (Expr.Call (Expr.Name ("SqlError" : Str) _) _ _ _)) none _) _) _ _ _); refine Raise_own rfl ?_; walk_say "RAISE")))
  (k_with "RaisableD" => ((k_dflt (refine' raisableD ?F ?X ?N ?hm ?q ?_; (case F => k_asm); (case X => k_asm); (case N => k_asm); (case hm => k_mem); (case q => kts_isx); k_whole); walk_say "RAISABLE")))
  (k_with "leaving ref" => ((k_here; k_dflt (refine' leave_raiseD ?K ?F ?N ?ne ?_; (case K => k_asm); (case F => k_asm); (case N => k_asm); (case ne => k_all); k_whole); intro h' R' U'; (try dsimp only at R' U' ⊢); walk_say "LEAVING")))
  (k_with "noteFrame ref" => ((k_here; (with_reducible rename RaisedD _ _ _ _ _ _ _ _ => rsX); k_dflt (refine' caught_D ?R ?F ?K ?U ?XB ?TB ?D ?T0 ?ex ?q ?_; (case R => assumption); (case F => assumption); (case K => assumption); (case U => assumption); (case XB => assumption); (case TB => assumption); (case D => assumption); (case T0 => first | assumption | exact KtsTurn.refl); (case ex => k_is); (case q => kts_isx); k_whole); intro h' g' vs' sl' tk' T' F' N' K' X' P' D'; (try k_lift K'); (try k_sweep); (try dsimp only); walk_say "CAUGHT")))
  (k_with "call ref" => ((k_here; (with_reducible show wpAny _ _ (call (Value.ref 993) [Value.ref _, Value.ref _, Value.int _ _, Value.str _ _]) _ _ _); k_dflt (first   | (refine' refusal_in ?k2 ?k1 ?k3 ?k4 ?k5 ?XB ?TB ?D ?T0 ?kK ?he ?hd ?hl ?h4 ?hc ?hc' ?hz ?h1 ?h2 ?kd ?ku ?_; (case k2 => k_asm); (case k1 => k_asm); (case k3 => k_asm); (case k4 => k_asm); (case k5 => k_asm); (case XB => assumption); (case TB => assumption); (case D => assumption); (case T0 => first | assumption | exact KtsTurn.refl); (case kK => first | exact rfl | assumption); (case he => k_mem); (case hd => k_mem); (case hl => k_mem); (case h4 => omega); (case hc => omega); (case hc' => omega); (case hz => assumption); (case h1 => omega); (case h2 => omega); (case kd => ktr_room); (case ku => ktr_units); k_whole)   | (refine' refusal_out ?k2 ?k1 ?k3 ?k4 ?k5 ?XB ?TB ?D ?T0 ?kK ?he ?hd ?hl ?h4 ?hc ?hc' ?hz ?h1 ?kd ?ku ?_; (case k2 => k_asm); (case k1 => k_asm); (case k3 => k_asm); (case k4 => k_asm); (case k5 => k_asm); (case XB => assumption); (case TB => assumption); (case D => assumption); (case T0 => first | assumption | exact KtsTurn.refl); (case kK => first | exact rfl | assumption); (case he => k_mem); (case hd => k_mem); (case hl => k_mem); (case h4 => omega); (case hc => omega); (case hc' => omega); (case hz => assumption); (case h1 => omega); (case kd => ktr_room); (case ku => ktr_units); k_whole)); intro D' t' h' tk' h₁' T' F' N' B' X' P' D''; (try k_lift B'); (try k_sweep); (try dsimp only); walk_say "REFUSAL")))
  (k_with "call ref" => ((k_here; (with_reducible show wpAny _ _ (call (Value.ref 993) [Value.ref _, Value.ref _, Value.int _ _, Value.str _ _]) _ _ _); k_dflt (refine' refusal_none ?k2 ?k1 ?k3 ?k4 ?k5 ?XB ?TB ?D ?T0 ?kK ?he ?hd ?hl ?kd ?ku ?_; (case k2 => k_asm); (case k1 => k_asm); (case k3 => k_asm); (case k4 => k_asm); (case k5 => k_asm); (case XB => assumption); (case TB => assumption); (case D => assumption); (case T0 => first | assumption | exact KtsTurn.refl); (case kK => first | exact rfl | assumption); (case he => k_mem); (case hd => k_mem); (case hl => k_mem); (case kd => ktr_room); (case ku => ktr_units); k_whole); intro D' h' tk' h₁' T' F' N' B' X' P' D''; (try k_lift B'); (try k_sweep); (try dsimp only); walk_say "REFUSAL0")))
  (k_with "call ref" => ((k_here; (with_reducible show wpAny _ _ (call (Value.ref 979) _) _ _ _); k_dflt (refine' letters_use ?k2 ?k1 ?k3 ?k4 ?k5 ?kK ?kp ?ko ?hx ?kr ?kd ?ku ?_; (case k2 => k_asm); (case k1 => k_asm); (case k3 => k_asm); (case k4 => k_asm); (case k5 => k_asm); (case kK => first | exact rfl | assumption); (case kp => k_mem); (case ko => assumption); (case hx => assumption); (case kr => k_all); (case kd => ktr_room); (case ku => ktr_units); k_whole); intro y' t' o' h' tk' hnm' hso' F' N'; (try k_sweep); (try k_fold); (try dsimp only); walk_say "LETTERS")))
  (k_with "call ref" => ((k_here; (with_reducible show wpAny _ _ (call (Value.ref 972) [Value.ref _, Value.ref _]) _ _ _); k_dflt (first | ((refine' one_use (IsStrOf menu5) ?k1 ?k2 ?k3 ?k4 ?k5 ?kK ?kp ?ko ?kr ?hm ?h2 ?ht ?hP ?kd ?ku ?_; (case k2 => k_asm); (case k1 => k_asm); (case k3 => k_asm); (case k4 => k_asm); (case k5 => k_asm); (case kK => first | exact rfl | assumption); (case kp => k_mem); (case ko => assumption); (case kr => k_all); (case hm => k_mem); (case h2 => exact Nat.le_of_ble_eq_true rfl); (case ht => exact Nat.le_of_ble_eq_true rfl); (case hP => (repeat (first | exact List.forall_mem_nil _ | refine List.forall_mem_cons.mpr ⟨⟨_, _, rfl, by decide +kernel⟩, ?_⟩))); (case kd => ktr_room); (case ku => ktr_units); k_whole)) | ((refine' one_use IsShort ?k1 ?k2 ?k3 ?k4 ?k5 ?kK ?kp ?ko ?kr ?hm ?h2 ?ht ?hP ?kd ?ku ?_; (case k2 => k_asm); (case k1 => k_asm); (case k3 => k_asm); (case k4 => k_asm); (case k5 => k_asm); (case kK => first | exact rfl | assumption); (case kp => k_mem); (case ko => assumption); (case kr => k_all); (case hm => k_mem); (case h2 => exact Nat.le_of_ble_eq_true rfl); (case ht => exact Nat.le_of_ble_eq_true rfl); (case hP => (repeat (first | exact List.forall_mem_nil _ | refine List.forall_mem_cons.mpr ⟨⟨_, _, rfl, by decide +kernel⟩, ?_⟩))); (case kd => ktr_room); (case ku => ktr_units); k_whole))); intro r' o' h' tk' hP' hso' F' N'; k_dflt (obtain ⟨x', t', hr', hx'⟩ := hP'); subst hr'; (try k_sweep); (try k_fold); (try dsimp only); walk_say "ONE")))
  (k_with "size_fits" => (exact Nat.le_of_ble_eq_true rfl))
  (k_with "k_mem" => (((with_reducible show _ ∈ _ :: _); first | with_reducible exact mem_hd | ((with_reducible refine mem_tl ?_); (first | with_reducible exact mem_hd | ((with_reducible refine mem_tl ?_); (first | with_reducible exact mem_hd | ((with_reducible refine mem_tl ?_); (first | with_reducible exact mem_hd | ((with_reducible refine mem_tl ?_); (first | with_reducible exact mem_hd | ((with_reducible refine mem_tl ?_); (first | with_reducible exact mem_hd | ((with_reducible refine mem_tl ?_); (first | with_reducible exact mem_hd | ((with_reducible refine mem_tl ?_); (first | with_reducible exact mem_hd | ((with_reducible refine mem_tl ?_); (first | with_reducible exact mem_hd | ((with_reducible refine mem_tl ?_); (first | with_reducible exact mem_hd | ((with_reducible refine mem_tl ?_); (first | with_reducible exact mem_hd | ((with_reducible refine mem_tl ?_); (first | with_reducible exact mem_hd | ((with_reducible refine mem_tl ?_); (first | with_reducible exact mem_hd | ((with_reducible refine mem_tl ?_); (first | with_reducible exact mem_hd | ((with_reducible refine mem_tl ?_); (first | with_reducible exact mem_hd | ((with_reducible refine mem_tl ?_); (first | with_reducible exact mem_hd | ((with_reducible refine mem_tl ?_); ((first | ktr_member | (refine AllIn.sub (by assumption) _ ?_; ktr_member)))) | (first | ktr_member | (refine AllIn.sub (by assumption) _ ?_; ktr_member)))) | (first | ktr_member | (refine AllIn.sub (by assumption) _ ?_; ktr_member)))) | (first | ktr_member | (refine AllIn.sub (by assumption) _ ?_; ktr_member)))) | (first | ktr_member | (refine AllIn.sub (by assumption) _ ?_; ktr_member)))) | (first | ktr_member | (refine AllIn.sub (by assumption) _ ?_; ktr_member)))) | (first | ktr_member | (refine AllIn.sub (by assumption) _ ?_; ktr_member)))) | (first | ktr_member | (refine AllIn.sub (by assumption) _ ?_; ktr_member)))) | (first | ktr_member | (refine AllIn.sub (by assumption) _ ?_; ktr_member)))) | (first | ktr_member | (refine AllIn.sub (by assumption) _ ?_; ktr_member)))) | (first | ktr_member | (refine AllIn.sub (by assumption) _ ?_; ktr_member)))) | (first | ktr_member | (refine AllIn.sub (by assumption) _ ?_; ktr_member)))) | (first | ktr_member | (refine AllIn.sub (by assumption) _ ?_; ktr_member)))) | (first | ktr_member | (refine AllIn.sub (by assumption) _ ?_; ktr_member)))) | (first | ktr_member | (refine AllIn.sub (by assumption) _ ?_; ktr_member)))) | (first | ktr_member | (refine AllIn.sub (by assumption) _ ?_; ktr_member)))) | (first | ktr_member | (refine AllIn.sub (by assumption) _ ?_; ktr_member)))))
  (k_with "k_all" => (((repeat' (first | with_reducible assumption | exact l9_ne (by with_reducible assumption) | with_reducible refine ne_cons ?_ ?_ | exact ne_l1 (by with_reducible assumption) (by k_mem) | exact ne_l2 (by with_reducible assumption) (by with_reducible assumption) (by k_mem) | exact ne_l3 (by with_reducible assumption) (by with_reducible assumption) (by with_reducible assumption) (by k_mem) | exact ne_l4 (by with_reducible assumption) (by with_reducible assumption) (by with_reducible assumption) (by with_reducible assumption) (by k_mem) | k_ne)); done)))
  (k_with "call ref" => ((k_here; (with_reducible show wpAny _ _ (call (Value.ref 153) _) _ _ _); k_dflt (first | (refine' mk_name_use (mk_name) ?k1 ?k2 ?k3 ?k4 ?k5 ?kK ?kd ?ku ?_; (case k2 => k_asm); (case k1 => k_asm); (case k3 => k_asm); (case k4 => k_asm); (case k5 => k_asm); (case kK => first | exact rfl | assumption); (case kd => ktr_room); (case ku => ktr_units);  k_whole)); (intro E' D' _ _ _ _ _ _ _ _ _ _ _ l1' l2' h' tk' F' N'; (try k_lt l1'); (try k_lt2 l2')); (try k_sweep); (try k_fold); (try dsimp only); walk_say "MK_NAME")))
  (k_with "call ref" => ((k_here; (with_reducible show wpAny _ _ (call (Value.ref 127) _) _ _ _); k_dflt (first | (refine' mk_lit_use (mk_lit) ?k1 ?k2 ?k3 ?k4 ?k5 ?kK ?kd ?ku ?_; (case k2 => k_asm); (case k1 => k_asm); (case k3 => k_asm); (case k4 => k_asm); (case k5 => k_asm); (case kK => first | exact rfl | assumption); (case kd => ktr_room); (case ku => ktr_units);  k_whole)); (intro E' D' _ _ l1' l2' h' tk' F' N'; (try k_lt l1'); (try k_lt2 l2')); (try k_sweep); (try k_fold); (try dsimp only); walk_say "MK_LIT")))
  trivial
theorem ten20 : (10 : Int) ^ Int.toNat 20 = 100000000000000000000 := by decide
theorem three_int {v : Value} {a b c : Int} {ta tb tc : Tok} (h : v ∈ [Value.int a ta, .int b tb, .int c tc]) (ha : 0 ≤ a ∧ a < 1000000000000000000000) (hb : 0 ≤ b ∧ b < 1000000000000000000000) (hc : 0 ≤ c ∧ c < 1000000000000000000000) : ∃ n t, v = .int n t ∧ 0 ≤ n ∧ n < 1000000000000000000000 := by
  rcases List.mem_cons.mp h with rfl | h
  · exact ⟨_, _, rfl, ha⟩
  rcases List.mem_cons.mp h with rfl | h
  · exact ⟨_, _, rfl, hb⟩
  rcases List.mem_cons.mp h with rfl | h
  · exact ⟨_, _, rfl, hc⟩
  exact absurd h List.not_mem_nil
section
variable {w : World} {p : Program} {loose : List Str} {mean : ExcName → Option Value} {mg mb : Str → Option Value}
  {dp un : Nat} {gd : Option (List Code)} {cn : Str} {cs : Scope} {a : Addr} {ccd : Value} {cl : List (Str × Addr)} {outer : List Env} {A₀ : Around} {base h₀ g₀ : Heap} {L : Addr} {m : Str → Option Value} {s : Shared} {Q E : Value → Shared → Prop}
  {src : Addr} {o : Obj} {news rest : Led}
theorem nright_use (B : Below A₀ base outer h₀) (F : Fr h₀ L s.heap m) (X : (Mine.kept.heap_1 w.params).In h₀) (N : News h₀ L s.heap news) (T : Top p loose mean mg mb h₀) (hk : cs.kind = .function)
    (hp : Pick (src, o) news rest) (ho : SrcOk o) (hr : ∀ q ∈ rest, q.1 ≠ src) (hd : dp + 15 < recursionLimit) (hu : un + 8 * 15 < cLine)
    (ret : ∀ o' h' tk', SrcOk o' → Fr h₀ L h' m → News h₀ L h' ((src, o') :: rest) → Q (.bool true) { s with heap := h', toks := tk' }) :
    wpAny (model PG w) (ktrTop dp un gd cn cs L a ccd cl outer) (call (.ref 1005) [.ref src]) Q E s :=
  nright_call ho hr _ _ _ _ _ _ _ _ _ _ _ _ _ _ _ _ _ B F X (cb_drop N hp.sub) T hk hd hu fun _ _ h' tk' ⟨o', e, ho', e'⟩ F' N' => by
    subst e e'
    exact ret o' h' tk' ho' F' N'
theorem places_use (F : Fr h₀ L s.heap m) (B : Below A₀ base outer h₀) (X : (Mine.kept.heap_1 w.params).In h₀) (N : News h₀ L s.heap news) (T : Top p loose mean mg mb h₀) (XB : (Mine.kept.heap_1 w.params).In base) (TB : Top p loose mean mg mb base)
    (D : KtsDicts (outer.filterMap (·.frame)) h₀) (T0 : KtsTurn (outer.filterMap (·.frame)) g₀ h₀) (hk : cs.kind = .function)
    (hp : Pick (src, o) news rest) (ho : SrcOk o) (hr : ∀ q ∈ rest, q.1 ≠ src) (hdd : dp + 6 < recursionLimit) (hu : un + 8 * 6 < cLine)
    (ret : ∀ o' h' tk' h₁, SrcOk o' → KtsTurn (outer.filterMap (·.frame)) g₀ h₁ → Fr h₁ L h' m → News h₁ L h' ((src, o') :: rest) → Below A₀ base outer h₁ → (Mine.kept.heap_1 w.params).In h₁ → Top p loose mean mg mb h₁ →
      KtsDicts (outer.filterMap (·.frame)) h₁ → Q (.bool true) { s with heap := h', toks := tk' }) :
    wpAny (model PG w) (ktrTop dp un gd cn cs L a ccd cl outer) (call (.ref 998) [.ref src]) Q E s :=
  places_call ho hr _ _ _ _ _ _ _ _ _ _ _ _ _ _ _ _ _ _ B F X (cb_drop N hp.sub) T XB TB D T0 hk hdd hu fun _ _ h' tk' h₁ ⟨o', e, ho', e'⟩ T' F' N' B' X' P' D' => by
    subst e e'
    exact ret o' h' tk' h₁ ho' T' F' N' B' X' P' D'
end
section
theorem rows41 : True := by
  w_top off
  (k_with "compareOp NotEq str str" => ((k_here; refine ne_own ?_; walk_say "OWN")))
  (k_with "call ref" => ((k_here; (with_reducible show wpAny _ _ (call (Value.ref 1005) [Value.ref _]) _ _ _); k_dflt (refine' nright_use ?k1 ?k2 ?k3 ?k4 ?k5 ?kK ?kp ?ko ?kr ?kd ?ku ?_; (case k2 => k_asm); (case k1 => k_asm); (case k3 => k_asm); (case k4 => k_asm); (case k5 => k_asm); (case kK => first | exact rfl | assumption); (case kp => k_mem); (case ko => with_reducible assumption); (case kr => k_all); (case kd => ktr_room); (case ku => ktr_units); k_whole); intro o' h' tk' hso' F' N'; (try k_sweep); (try k_fold); (try dsimp only); walk_say "NRIGHT")))
  (k_with "call ref" => ((k_here; (with_reducible show wpAny _ _ (call (Value.ref 998) [Value.ref _]) _ _ _); k_dflt (refine' places_use ?k2 ?k1 ?k3 ?k4 ?k5 ?XB ?TB ?D ?T0 ?kK ?kp ?ko ?kr ?kd ?ku ?_; (case k2 => k_asm); (case k1 => k_asm); (case k3 => k_asm); (case k4 => k_asm); (case k5 => k_asm); (case XB => assumption); (case TB => assumption); (case D => assumption); (case T0 => first | assumption | exact KtsTurn.refl); (case kK => first | exact rfl | assumption); (case kp => k_mem); (case ko => with_reducible assumption); (case kr => k_all); (case kd => ktr_room); (case ku => ktr_units); k_whole); intro o' h' tk' h₁' hso' T' F' N' B' X' P' D''; (try k_lift B'); (try k_sweep); (try dsimp only); walk_say "PLACES")))
  (k_with "call ref" => ((k_here; (with_reducible show wpAny _ _ (call (Value.ref 972) [Value.ref _, Value.ref _]) _ _ _); k_dflt (refine' one_in ?k1 ?k2 ?k3 ?k4 ?k5 ?kK ?kp ?ko ?hm ?kr ?h2 ?ht ?kd ?ku ?_; (case k2 => k_asm); (case k1 => k_asm); (case k3 => k_asm); (case k4 => k_asm); (case k5 => k_asm); (case kK => first | exact rfl | assumption); (case kp => k_mem); (case ko => with_reducible assumption); (case hm => k_mem); (case kr => k_all); (case h2 => exact Nat.le_of_ble_eq_true rfl); (case ht => exact Nat.le_of_ble_eq_true rfl); (case kd => ktr_room); (case ku => ktr_units); k_whole); intro r' o' h' tk' hP' hso' F' N'; (replace hP' := three_int hP' (by constructor <;> omega) (by constructor <;> omega) (by rw [ten20]; constructor <;> omega)); k_dflt (obtain ⟨n', t', hr', hn0', hn1'⟩ := hP'); subst hr'; (try k_sweep); (try k_fold); (try dsimp only); walk_say "ONE INT")))
  trivial
set_option maxHeartbeats 2000000 in
theorem right_call {w : World} {p : Program} {loose : List Str} {mean : ExcName → Option Value} {mg mb : Str → Option Value} {src : Addr} {o : Obj} {rest : Led}
    (ho : SrcOk o) (hr : ∀ q ∈ rest, q.1 ≠ src) :
    CallToS w p loose mean mg mb 1012 [.ref src] ((src, o) :: rest) 17 (fun r news' => ∃ o', r = .bool true ∧ SrcOk o' ∧ news' = (src, o') :: rest) := by
  exact ensure_expected_type% "" (by exact ?walk9 : type_of% (let_mvar% ?walk9 := (by
    intro dp un gd cn cs ac ccd cl outer A₀ base h₀ g₀ L m s Q E B F X N T XB TB D T0 hk hdp hun hret
    refine wpAny_call ?_
    k_dflt ((refine' code_defSX ?k1 ?k2 ?k3 ?k4 ?k5 ?XB ?TB ?D ?T0 ?kA ?kF ?kK ?k6 ?k7 ?k8 ?k9 ?kB ?_ ?c2 ?c3 ?c4 ?c5; (case kA => exact rfl); (case kF => exact rfl); (case kK => first | exact rfl | assumption); (case k2 => k_asm); (case k1 => k_asm); (case XB => assumption); (case TB => assumption); (case D => assumption); (case T0 => first | assumption | exact KtsTurn.refl); (case k3 => k_asm); (case k4 => k_asm); (case k5 => k_asm); (case k6 => k_is); (case k7 => k_is); (case k8 => ktr_room); (case k9 => exact BindsTo.of_eq rfl); (case kB => exact locs rfl); (case c2 => exact rfl); (case c3 => exact rfl); (case c4 => exact rfl); (case c5 => decide); k_whole; intro g' L' h' FG' F' N' B' X' T' D'; (try dsimp only); (try k_lift B'); (try k_fold)))
    k_steps
    all_goals (refine' true_end hret ?F ?T ?N ?B ?X ?P ?D ?ho ?m1 ?sub; (case F => assumption); (case T => assumption); (case N => assumption); (case B => assumption); (case X => assumption); (case P => assumption); (case D => assumption); (case m1 => (repeat (first | exact List.Mem.head _ | refine List.Mem.tail _ ?_))); (case ho => assumption); (case sub => (intro q hq; (repeat (first | exact hq | refine List.Mem.tail _ ?_)))))
    : _); ?walk9))
end
theorem rows42 : True := by
  w_top off
  k_with_none
  (k_with "execs cons" => ((k_here; (with_reducible refine gen_toks (P := fun k => wpAny _ _ _ _ _ ⟨_, _, _, k, _⟩) (_ + _) ?_); intro tk9'; walk_say "TOKS")))
  (k_with "eval Name" => ((k_here; name_kind "globalImplicit"; k_dflt (refine' nameX_K ?F ?X ?T ?e ?_ ?a ?b; (case F => k_asm); (case X => k_asm); (case T => k_asm); (case a => kernel_rfl!); (case b => kernel_rfl!); (case e => k_is); k_whole))))
  (k_with "eval Name" => ((k_here; name_kind "local"; k_dflt (refine' nameX_L ?F ?v ?_ ?a ?b; (case F => k_asm); (case a => kernel_rfl!); (case b => kernel_rfl!); (case v => rfl); k_whole))))
  (k_with "execs nil" => ((k_here; (with_reducible refine gen_toks (P := fun k => wpAny _ _ _ _ _ ⟨_, _, _, k, _⟩) (_ + _) ?_); intro tk9'; walk_say "TOKS")))
  (k_with "eval Name" => ((k_here; name_kind "globalImplicit"; name_is_builtin; k_dflt (refine' nameX_B ?F ?X ?T ?e ?v ?n ?_ ?a ?b; (case F => k_asm); (case X => k_asm); (case T => k_asm); (case a => kernel_rfl!); (case b => kernel_rfl!); (case e => k_is); (case v => boot_fast); (case n => decide); k_whole))))
  (k_with "ite" => ((k_closed; first | with_reducible refine ite_ff ?_ | with_reducible refine ite_tt ?_ | k_dflt (first | refine ite_t rfl ?_ | refine ite_f rfl ?_))))
  (k_with "call builtin:isinstance" => ((k_here; k_dflt (refine' isi_call ?k1 ?k2 ?k3 ?k4 ?_; (case k1 => k_in); (case k2 => k_types); (case k3 => k_is); (case k4 => intro e; cases e); k_whole))))
  (k_with "ktr_room" => (k_dflt (first | exact room2 (by with_reducible assumption) (by decide) | exact room1 (by with_reducible assumption) rfl | exact room0 (by with_reducible assumption))))
  (k_with "ktr_units" => (k_dflt (first | exact units2 (by with_reducible assumption) (by decide) | exact units1 (by with_reducible assumption) rfl | exact units0 (by with_reducible assumption) rfl | exact room0 (by with_reducible assumption))))
  (k_with "k_in" => (first | with_reducible assumption | exact Frag.In.keeps (by with_reducible assumption) (Fr.keep (by with_reducible assumption))))
  (k_with "call builtin:isinstance" => ((k_here; (with_reducible show wpAny _ _ (call _ [Value.ref _, Value.ref _]) _ _ _); k_dflt (refine' kin_callC ?k1 ?k2 ?k3 ?k4 ?k5 ?k6 ?k7 ?k8 ?k9 ?_; (case k1 => k_in); (case k2 => k_inst); (case k3 => kin_no); (case k4 => k_is); (case k5 => k_is); (case k6 => k_is); (case k7 => k_is); (case k8 => k_is); (case k9 => k_is); k_whole))))
  (k_with "getAttr ref" => ((k_here; k_dflt (refine' get_own ?k1 ?k2 ?k3 ?k4 ?k5 ?k6 ?k7 ?k8 ?k9 ?_; (case k1 => k_asm); (case k2 => k_asm); (case k3 => k_inst); (case k4 => k_is); (case k5 => k_is); (case k6 => k_is); (case k7 => k_is); (case k8 => k_get); (case k9 => k_handed); k_whole))))
  (k_with "k_room" => (ktr_room))
  (k_with "k_units" => (ktr_units))
  (k_with "k_all" => (assumption))
  (k_with "k_mem" => (first | assumption | ((with_reducible show Pick _ _ _); first | exact Pick.head | exact Pick.tail (Pick.head) | exact Pick.tail (Pick.tail (Pick.head)) | exact Pick.tail (Pick.tail (Pick.tail (Pick.head))) | exact Pick.tail (Pick.tail (Pick.tail (Pick.tail (Pick.head)))) | exact Pick.tail (Pick.tail (Pick.tail (Pick.tail (Pick.tail (Pick.head))))) | exact Pick.tail (Pick.tail (Pick.tail (Pick.tail (Pick.tail (Pick.tail (Pick.head)))))) | exact Pick.tail (Pick.tail (Pick.tail (Pick.tail (Pick.tail (Pick.tail (Pick.tail (Pick.head))))))) | exact Pick.t8 (Pick.head) | exact Pick.t8 (Pick.tail (Pick.head)) | exact Pick.t8 (Pick.tail (Pick.tail (Pick.head))) | exact Pick.t8 (Pick.tail (Pick.tail (Pick.tail (Pick.head)))) | exact Pick.t8 (Pick.tail (Pick.tail (Pick.tail (Pick.tail (Pick.head))))) | exact Pick.t8 (Pick.tail (Pick.tail (Pick.tail (Pick.tail (Pick.tail (Pick.head)))))) | exact Pick.t8 (Pick.tail (Pick.tail (Pick.tail (Pick.tail (Pick.tail (Pick.tail (Pick.head))))))) | exact Pick.t8 (Pick.tail (Pick.tail (Pick.tail (Pick.tail (Pick.tail (Pick.tail (Pick.tail (Pick.head)))))))) | exact Pick.t8 (Pick.t8 (Pick.head)) | exact Pick.t8 (Pick.t8 (Pick.tail (Pick.head))) | exact Pick.t8 (Pick.t8 (Pick.tail (Pick.tail (Pick.head)))) | exact Pick.t8 (Pick.t8 (Pick.tail (Pick.tail (Pick.tail (Pick.head))))) | exact Pick.t8 (Pick.t8 (Pick.tail (Pick.tail (Pick.tail (Pick.tail (Pick.head)))))) | exact Pick.t8 (Pick.t8 (Pick.tail (Pick.tail (Pick.tail (Pick.tail (Pick.tail (Pick.head))))))) | exact Pick.t8 (Pick.t8 (Pick.tail (Pick.tail (Pick.tail (Pick.tail (Pick.tail (Pick.tail (Pick.head)))))))) | exact Pick.t8 (Pick.t8 (Pick.tail (Pick.tail (Pick.tail (Pick.tail (Pick.tail (Pick.tail (Pick.tail (Pick.head))))))))) | exact Pick.t8 (Pick.t8 (Pick.t8 (Pick.head))) | exact Pick.t8 (Pick.t8 (Pick.t8 (Pick.tail (Pick.head)))) | exact Pick.t8 (Pick.t8 (Pick.t8 (Pick.tail (Pick.tail (Pick.head))))) | exact Pick.t8 (Pick.t8 (Pick.t8 (Pick.tail (Pick.tail (Pick.tail (Pick.head)))))) | exact Pick.t8 (Pick.t8 (Pick.t8 (Pick.tail (Pick.tail (Pick.tail (Pick.tail (Pick.head))))))) | exact Pick.t8 (Pick.t8 (Pick.t8 (Pick.tail (Pick.tail (Pick.tail (Pick.tail (Pick.tail (Pick.head)))))))) | exact Pick.t8 (Pick.t8 (Pick.t8 (Pick.tail (Pick.tail (Pick.tail (Pick.tail (Pick.tail (Pick.tail (Pick.head))))))))) | exact Pick.t8 (Pick.t8 (Pick.t8 (Pick.tail (Pick.tail (Pick.tail (Pick.tail (Pick.tail (Pick.tail (Pick.tail (Pick.head)))))))))) | exact Pick.t8 (Pick.t8 (Pick.t8 (Pick.t8 (Pick.head)))) | exact Pick.t8 (Pick.t8 (Pick.t8 (Pick.t8 (Pick.tail (Pick.head))))) | exact Pick.t8 (Pick.t8 (Pick.t8 (Pick.t8 (Pick.tail (Pick.tail (Pick.head)))))) | exact Pick.t8 (Pick.t8 (Pick.t8 (Pick.t8 (Pick.tail (Pick.tail (Pick.tail (Pick.head))))))) | exact Pick.t8 (Pick.t8 (Pick.t8 (Pick.t8 (Pick.tail (Pick.tail (Pick.tail (Pick.tail (Pick.head)))))))) | exact Pick.t8 (Pick.t8 (Pick.t8 (Pick.t8 (Pick.tail (Pick.tail (Pick.tail (Pick.tail (Pick.tail (Pick.head))))))))) | exact Pick.t8 (Pick.t8 (Pick.t8 (Pick.t8 (Pick.tail (Pick.tail (Pick.tail (Pick.tail (Pick.tail (Pick.tail (Pick.head)))))))))) | exact Pick.t8 (Pick.t8 (Pick.t8 (Pick.t8 (Pick.tail (Pick.tail (Pick.tail (Pick.tail (Pick.tail (Pick.tail (Pick.tail (Pick.head))))))))))) | exact Pick.t8 (Pick.t8 (Pick.t8 (Pick.t8 (Pick.t8 (Pick.head))))) | exact Pick.t8 (Pick.t8 (Pick.t8 (Pick.t8 (Pick.t8 (Pick.tail (Pick.head)))))) | exact Pick.t8 (Pick.t8 (Pick.t8 (Pick.t8 (Pick.t8 (Pick.tail (Pick.tail (Pick.head))))))) | exact Pick.t8 (Pick.t8 (Pick.t8 (Pick.t8 (Pick.t8 (Pick.tail (Pick.tail (Pick.tail (Pick.head)))))))) | exact Pick.t8 (Pick.t8 (Pick.t8 (Pick.t8 (Pick.t8 (Pick.tail (Pick.tail (Pick.tail (Pick.tail (Pick.head))))))))) | exact Pick.t8 (Pick.t8 (Pick.t8 (Pick.t8 (Pick.t8 (Pick.tail (Pick.tail (Pick.tail (Pick.tail (Pick.tail (Pick.head)))))))))) | exact Pick.t8 (Pick.t8 (Pick.t8 (Pick.t8 (Pick.t8 (Pick.tail (Pick.tail (Pick.tail (Pick.tail (Pick.tail (Pick.tail (Pick.head))))))))))) | exact Pick.t8 (Pick.t8 (Pick.t8 (Pick.t8 (Pick.t8 (Pick.tail (Pick.tail (Pick.tail (Pick.tail (Pick.tail (Pick.tail (Pick.tail (Pick.head)))))))))))) | exact Pick.t8 (Pick.t8 (Pick.t8 (Pick.t8 (Pick.t8 (Pick.t8 (Pick.head)))))) | exact Pick.t8 (Pick.t8 (Pick.t8 (Pick.t8 (Pick.t8 (Pick.t8 (Pick.tail (Pick.head))))))) | exact Pick.t8 (Pick.t8 (Pick.t8 (Pick.t8 (Pick.t8 (Pick.t8 (Pick.tail (Pick.tail (Pick.head)))))))) | exact Pick.t8 (Pick.t8 (Pick.t8 (Pick.t8 (Pick.t8 (Pick.t8 (Pick.tail (Pick.tail (Pick.tail (Pick.head))))))))) | exact Pick.t8 (Pick.t8 (Pick.t8 (Pick.t8 (Pick.t8 (Pick.t8 (Pick.tail (Pick.tail (Pick.tail (Pick.tail (Pick.head)))))))))) | exact Pick.t8 (Pick.t8 (Pick.t8 (Pick.t8 (Pick.t8 (Pick.t8 (Pick.tail (Pick.tail (Pick.tail (Pick.tail (Pick.tail (Pick.head))))))))))) | exact Pick.t8 (Pick.t8 (Pick.t8 (Pick.t8 (Pick.t8 (Pick.t8 (Pick.tail (Pick.tail (Pick.tail (Pick.tail (Pick.tail (Pick.tail (Pick.head)))))))))))) | exact Pick.t8 (Pick.t8 (Pick.t8 (Pick.t8 (Pick.t8 (Pick.t8 (Pick.tail (Pick.tail (Pick.tail (Pick.tail (Pick.tail (Pick.tail (Pick.tail (Pick.head)))))))))))))) | exact List.Mem.tail _ (by assumption)))
  (k_with "call ref" => ((k_here; (with_reducible show wpAny _ _ (call (Value.ref 965) _) _ _ _); k_dflt (refine' take_use ?k1 ?k2 ?k3 ?k4 ?k5 ?kK ?kp ?ko ?kr ?h2 ?ht ?kd ?ku ?_; (case k2 => k_asm); (case k1 => k_asm); (case k3 => k_asm); (case k4 => k_asm); (case k5 => k_asm); (case kK => first | exact rfl | assumption); (case kp => k_mem); (case ko => assumption); (case kr => k_all); (case h2 => omega); (case ht => omega); (case kd => ktr_room); (case ku => ktr_units); k_whole); intro d' t' o' h' tk' hd0' hd1' hso' F' N'; (try k_sweep); (try k_fold); (try dsimp only); walk_say "TAKE")))
  (k_with "call ref" => ((k_here; (with_reducible show wpAny _ _ (call (Value.ref 58) _) _ _ _); k_dflt (refine' fold_use ?k1 ?k2 ?k3 ?k4 ?k5 ?kK ?kn ?kd ?ku ?_; (case k2 => k_asm); (case k1 => k_asm); (case k3 => k_asm); (case k4 => k_asm); (case k5 => k_asm); (case kK => first | exact rfl | assumption); (case kn => assumption); (case kd => ktr_room); (case ku => ktr_units); k_whole); intro t' h' tk' F' N'; (try k_sweep); (try k_fold); (try dsimp only); walk_say "FOLD")))
  (k_with "call ref" => ((k_here; (with_reducible show wpAny _ _ (call (Value.ref 986) _) _ _ _); k_dflt (refine' lordinal_use ?k1 ?k2 ?k3 ?k4 ?k5 ?kK ?h0 ?h1 ?kd ?ku ?_; (case k2 => k_asm); (case k1 => k_asm); (case k3 => k_asm); (case k4 => k_asm); (case k5 => k_asm); (case kK => first | exact rfl | assumption); (case h0 => omega); (case h1 => omega); (case kd => ktr_room); (case ku => ktr_units); k_whole); intro t' h' tk' hol' F' N'; (try k_sweep); (try k_fold); (try dsimp only); walk_say "LORDINAL")))
  (k_with "call ref" => ((k_here; (with_reducible show wpAny _ _ (call (Value.ref 852) _) _ _ _); k_dflt (refine' ordinal_use ?k1 ?k2 ?k3 ?k4 ?k5 ?kK ?h0 ?h1 ?kd ?ku ?_; (case k2 => k_asm); (case k1 => k_asm); (case k3 => k_asm); (case k4 => k_asm); (case k5 => k_asm); (case kK => first | exact rfl | assumption); (case h0 => omega); (case h1 => omega); (case kd => ktr_room); (case ku => ktr_units); k_whole); intro t' h' tk' hol' F' N'; (try k_sweep); (try k_fold); (try dsimp only); walk_say "ORDINAL")))
  (k_with "call builtin:len" => ((k_here; (with_reducible show wpAny _ _ (call (Value.builtin "len") [Value.ref _]) _ _ _); k_dflt (refine' len_short ?N ?m ?f ?_; (case N => k_asm); (case m => k_mem); (case f => omega); k_whole))))
  (k_with "call ref" => ((k_here; (with_reducible show wpAny _ _ (call (Value.ref 866) _) _ _ _); k_dflt (refine' alias_use ?k1 ?k2 ?k3 ?k4 ?k5 ?kK ?ke ?kD ?kv ?kl ?kn ?k9 ?kd ?ku ?_; (case k2 => k_asm); (case k1 => k_asm); (case k3 => k_asm); (case k4 => k_asm); (case k5 => k_asm); (case kK => first | exact rfl | assumption); (case ke => k_mem); (case kD => k_mem); (case kv => assumption); (case kl => k_mem); (case kn => assumption); (case k9 => assumption); (case kd => ktr_room); (case ku => ktr_units); k_whole); intro t' h' tk' F' N'; (try k_sweep); (try k_fold); (try dsimp only); walk_say "ALIAS")))
  (k_with "call ref" => ((k_here; (with_reducible show wpAny _ _ (call (Value.ref 51) _) _ _ _); k_dflt (refine' exc_make ?F ?X ?N ?hC ?b1 ?b2 ?b3 ?hv ?hi ?hf ?_; (case F => k_asm); (case X => k_asm); (case N => k_asm); (case hC => k_is); (case b1 => decide +kernel); (case b2 => decide +kernel); (case b3 => decide +kernel); (case hv => exact Nat.le_of_ble_eq_true rfl); (case hi => k_is); (case hf => k_is); k_whole); intro e' T' h' F' N' l1 l2 l3; (try k_lt l1); (try k_lt2 l2); (try k_sweep); k_enter; walk_say "EXC MADE")))
  (k_with "setAttr ref" => ((k_here; k_dflt (refine' exc_set ?F ?X ?N ?hx ?hc ?hm ?hd ?hs ?ht ?_; (case F => k_asm); (case X => k_asm); (case N => k_asm); (case hx => k_all); (case hc => k_is); (case hm => exact rfl); (case hd => exact rfl); (case hs => k_is); (case ht => k_is); k_whole); intro d' h' tk' a' b' F' N' l1 l2 l3; (try k_lt l1); (try k_sweep); (try dsimp only); walk_say "EXC SET")))
  (k_with "getAttr ref" => ((k_here; k_dflt (refine' exc_get ?F ?X ?N ?hx ?hdx ?hc ?hm ?hd ?hg ?hk ?ha ?hl ?hv ?_; (case F => k_asm); (case X => k_asm); (case N => k_asm); (case hx => k_mem); (case hdx => k_mem); (case hc => k_is); (case hm => exact rfl); (case hd => exact rfl); (case hg => k_is); (case hk => k_is); (case ha => k_is); (case hl => exact rfl); (case hv => exact rfl); k_whole); intro tk'; walk_say "EXC GET")))
  (k_with "exec Raise some none" => ((k_here; (with_reducible show wpAny _ _ (exec (Stmt.Raise (some (Expr.Call (Expr.Name ("SqlError" : Str) _) _ _ _)) none _) _) _ _ _); refine Raise_own rfl ?_; walk_say "RAISE")))
  (k_with "RaisableD" => ((k_dflt (refine' raisableD ?F ?X ?N ?hm ?q ?_; (case F => k_asm); (case X => k_asm); (case N => k_asm); (case hm => k_mem); (case q => kts_isx); k_whole); walk_say "RAISABLE")))
  (k_with "leaving ref" => ((k_here; k_dflt (refine' leave_raiseD ?K ?F ?N ?ne ?_; (case K => k_asm); (case F => k_asm); (case N => k_asm); (case ne => k_all); k_whole); intro h' R' U'; (try dsimp only at R' U' ⊢); walk_say "LEAVING")))
  (k_with "noteFrame ref" => ((k_here; (with_reducible rename RaisedD _ _ _ _ _ _ _ _ => rsX); k_dflt (refine' caught_D ?R ?F ?K ?U ?XB ?TB ?D ?T0 ?ex ?q ?_; (case R => assumption); (case F => assumption); (case K => assumption); (case U => assumption); (case XB => assumption); (case TB => assumption); (case D => assumption); (case T0 => first | assumption | exact KtsTurn.refl); (case ex => k_is); (case q => kts_isx); k_whole); intro h' g' vs' sl' tk' T' F' N' K' X' P' D'; (try k_lift K'); (try k_sweep); (try dsimp only); walk_say "CAUGHT")))
  (k_with "call ref" => ((k_here; (with_reducible show wpAny _ _ (call (Value.ref 993) [Value.ref _, Value.ref _, Value.int _ _, Value.str _ _]) _ _ _); k_dflt (first   | (refine' refusal_in ?k2 ?k1 ?k3 ?k4 ?k5 ?XB ?TB ?D ?T0 ?kK ?he ?hd ?hl ?h4 ?hc ?hc' ?hz ?h1 ?h2 ?kd ?ku ?_; (case k2 => k_asm); (case k1 => k_asm); (case k3 => k_asm); (case k4 => k_asm); (case k5 => k_asm); (case XB => assumption); (case TB => assumption); (case D => assumption); (case T0 => first | assumption | exact KtsTurn.refl); (case kK => first | exact rfl | assumption); (case he => k_mem); (case hd => k_mem); (case hl => k_mem); (case h4 => omega); (case hc => omega); (case hc' => omega); (case hz => assumption); (case h1 => omega); (case h2 => omega); (case kd => ktr_room); (case ku => ktr_units); k_whole)   | (refine' refusal_out ?k2 ?k1 ?k3 ?k4 ?k5 ?XB ?TB ?D ?T0 ?kK ?he ?hd ?hl ?h4 ?hc ?hc' ?hz ?h1 ?kd ?ku ?_; (case k2 => k_asm); (case k1 => k_asm); (case k3 => k_asm); (case k4 => k_asm); (case k5 => k_asm); (case XB => assumption); (case TB => assumption); (case D => assumption); (case T0 => first | assumption | exact KtsTurn.refl); (case kK => first | exact rfl | assumption); (case he => k_mem); (case hd => k_mem); (case hl => k_mem); (case h4 => omega); (case hc => omega); (case hc' => omega); (case hz => assumption); (case h1 => omega); (case kd => ktr_room); (case ku => ktr_units); k_whole)); intro D' t' h' tk' h₁' T' F' N' B' X' P' D''; (try k_lift B'); (try k_sweep); (try dsimp only); walk_say "REFUSAL")))
  (k_with "call ref" => ((k_here; (with_reducible show wpAny _ _ (call (Value.ref 993) [Value.ref _, Value.ref _, Value.int _ _, Value.str _ _]) _ _ _); k_dflt (refine' refusal_none ?k2 ?k1 ?k3 ?k4 ?k5 ?XB ?TB ?D ?T0 ?kK ?he ?hd ?hl ?kd ?ku ?_; (case k2 => k_asm); (case k1 => k_asm); (case k3 => k_asm); (case k4 => k_asm); (case k5 => k_asm); (case XB => assumption); (case TB => assumption); (case D => assumption); (case T0 => first | assumption | exact KtsTurn.refl); (case kK => first | exact rfl | assumption); (case he => k_mem); (case hd => k_mem); (case hl => k_mem); (case kd => ktr_room); (case ku => ktr_units); k_whole); intro D' h' tk' h₁' T' F' N' B' X' P' D''; (try k_lift B'); (try k_sweep); (try dsimp only); walk_say "REFUSAL0")))
  (k_with "call ref" => ((k_here; (with_reducible show wpAny _ _ (call (Value.ref 979) _) _ _ _); k_dflt (refine' letters_use ?k2 ?k1 ?k3 ?k4 ?k5 ?kK ?kp ?ko ?hx ?kr ?kd ?ku ?_; (case k2 => k_asm); (case k1 => k_asm); (case k3 => k_asm); (case k4 => k_asm); (case k5 => k_asm); (case kK => first | exact rfl | assumption); (case kp => k_mem); (case ko => assumption); (case hx => assumption); (case kr => k_all); (case kd => ktr_room); (case ku => ktr_units); k_whole); intro y' t' o' h' tk' hnm' hso' F' N'; (try k_sweep); (try k_fold); (try dsimp only); walk_say "LETTERS")))
  (k_with "call ref" => ((k_here; (with_reducible show wpAny _ _ (call (Value.ref 972) [Value.ref _, Value.ref _]) _ _ _); k_dflt (first | ((refine' one_use (IsStrOf menu5) ?k1 ?k2 ?k3 ?k4 ?k5 ?kK ?kp ?ko ?kr ?hm ?h2 ?ht ?hP ?kd ?ku ?_; (case k2 => k_asm); (case k1 => k_asm); (case k3 => k_asm); (case k4 => k_asm); (case k5 => k_asm); (case kK => first | exact rfl | assumption); (case kp => k_mem); (case ko => assumption); (case kr => k_all); (case hm => k_mem); (case h2 => exact Nat.le_of_ble_eq_true rfl); (case ht => exact Nat.le_of_ble_eq_true rfl); (case hP => (repeat (first | exact List.forall_mem_nil _ | refine List.forall_mem_cons.mpr ⟨⟨_, _, rfl, by decide +kernel⟩, ?_⟩))); (case kd => ktr_room); (case ku => ktr_units); k_whole)) | ((refine' one_use IsShort ?k1 ?k2 ?k3 ?k4 ?k5 ?kK ?kp ?ko ?kr ?hm ?h2 ?ht ?hP ?kd ?ku ?_; (case k2 => k_asm); (case k1 => k_asm); (case k3 => k_asm); (case k4 => k_asm); (case k5 => k_asm); (case kK => first | exact rfl | assumption); (case kp => k_mem); (case ko => assumption); (case kr => k_all); (case hm => k_mem); (case h2 => exact Nat.le_of_ble_eq_true rfl); (case ht => exact Nat.le_of_ble_eq_true rfl); (case hP => (repeat (first | exact List.forall_mem_nil _ | refine List.forall_mem_cons.mpr ⟨⟨_, _, rfl, by decide +kernel⟩, ?_⟩))); (case kd => ktr_room); (case ku => ktr_units); k_whole))); intro r' o' h' tk' hP' hso' F' N'; k_dflt (obtain ⟨x', t', hr', hx'⟩ := hP'); subst hr'; (try k_sweep); (try k_fold); (try dsimp only); walk_say "ONE")))
  (k_with "size_fits" => (exact Nat.le_of_ble_eq_true rfl))
  (k_with "k_mem" => (((with_reducible show _ ∈ _ :: _); first | with_reducible exact mem_hd | ((with_reducible refine mem_tl ?_); (first | with_reducible exact mem_hd | ((with_reducible refine mem_tl ?_); (first | with_reducible exact mem_hd | ((with_reducible refine mem_tl ?_); (first | with_reducible exact mem_hd | ((with_reducible refine mem_tl ?_); (first | with_reducible exact mem_hd | ((with_reducible refine mem_tl ?_); (first | with_reducible exact mem_hd | ((with_reducible refine mem_tl ?_); (first | with_reducible exact mem_hd | ((with_reducible refine mem_tl ?_); (first | with_reducible exact mem_hd | ((with_reducible refine mem_tl ?_); (first | with_reducible exact mem_hd | ((with_reducible refine mem_tl ?_); (first | with_reducible exact mem_hd | ((with_reducible refine mem_tl ?_); (first | with_reducible exact mem_hd | ((with_reducible refine mem_tl ?_); (first | with_reducible exact mem_hd | ((with_reducible refine mem_tl ?_); (first | with_reducible exact mem_hd | ((with_reducible refine mem_tl ?_); (first | with_reducible exact mem_hd | ((with_reducible refine mem_tl ?_); (first | with_reducible exact mem_hd | ((with_reducible refine mem_tl ?_); (first | with_reducible exact mem_hd | ((with_reducible refine mem_tl ?_); ((first | ktr_member | (refine AllIn.sub (by assumption) _ ?_; ktr_member)))) | (first | ktr_member | (refine AllIn.sub (by assumption) _ ?_; ktr_member)))) | (first | ktr_member | (refine AllIn.sub (by assumption) _ ?_; ktr_member)))) | (first | ktr_member | (refine AllIn.sub (by assumption) _ ?_; ktr_member)))) | (first | ktr_member | (refine AllIn.sub (by assumption) _ ?_; ktr_member)))) | (first | ktr_member | (refine AllIn.sub (by assumption) _ ?_; ktr_member)))) | (first | ktr_member | (refine AllIn.sub (by assumption) _ ?_; ktr_member)))) | (first | ktr_member | (refine AllIn.sub (by assumption) _ ?_; ktr_member)))) | (first | ktr_member | (refine AllIn.sub (by assumption) _ ?_; ktr_member)))) | (first | ktr_member | (refine AllIn.sub (by assumption) _ ?_; ktr_member)))) | (first | ktr_member | (refine AllIn.sub (by assumption) _ ?_; ktr_member)))) | (first | ktr_member | (refine AllIn.sub (by assumption) _ ?_; ktr_member)))) | (first | ktr_member | (refine AllIn.sub (by assumption) _ ?_; ktr_member)))) | (first | ktr_member | (refine AllIn.sub (by assumption) _ ?_; ktr_member)))) | (first | ktr_member | (refine AllIn.sub (by assumption) _ ?_; ktr_member)))) | (first | ktr_member | (refine AllIn.sub (by assumption) _ ?_; ktr_member)))) | (first | ktr_member | (refine AllIn.sub (by assumption) _ ?_; ktr_member)))))
  (k_with "k_all" => (((repeat' (first | with_reducible assumption | exact l9_ne (by with_reducible assumption) | with_reducible refine ne_cons ?_ ?_ | exact ne_l1 (by with_reducible assumption) (by k_mem) | exact ne_l2 (by with_reducible assumption) (by with_reducible assumption) (by k_mem) | exact ne_l3 (by with_reducible assumption) (by with_reducible assumption) (by with_reducible assumption) (by k_mem) | exact ne_l4 (by with_reducible assumption) (by with_reducible assumption) (by with_reducible assumption) (by with_reducible assumption) (by k_mem) | k_ne)); done)))
  (k_with "call ref" => ((k_here; (with_reducible show wpAny _ _ (call (Value.ref 153) _) _ _ _); k_dflt (first | (refine' mk_name_use (mk_name) ?k1 ?k2 ?k3 ?k4 ?k5 ?kK ?kd ?ku ?_; (case k2 => k_asm); (case k1 => k_asm); (case k3 => k_asm); (case k4 => k_asm); (case k5 => k_asm); (case kK => first | exact rfl | assumption); (case kd => ktr_room); (case ku => ktr_units);  k_whole)); (intro E' D' _ _ _ _ _ _ _ _ _ _ _ l1' l2' h' tk' F' N'; (try k_lt l1'); (try k_lt2 l2')); (try k_sweep); (try k_fold); (try dsimp only); walk_say "MK_NAME")))
  (k_with "call ref" => ((k_here; (with_reducible show wpAny _ _ (call (Value.ref 127) _) _ _ _); k_dflt (first | (refine' mk_lit_use (mk_lit) ?k1 ?k2 ?k3 ?k4 ?k5 ?kK ?kd ?ku ?_; (case k2 => k_asm); (case k1 => k_asm); (case k3 => k_asm); (case k4 => k_asm); (case k5 => k_asm); (case kK => first | exact rfl | assumption); (case kd => ktr_room); (case ku => ktr_units);  k_whole)); (intro E' D' _ _ l1' l2' h' tk' F' N'; (try k_lt l1'); (try k_lt2 l2')); (try k_sweep); (try k_fold); (try dsimp only); walk_say "MK_LIT")))
  trivial
theorem right_all : RightUse :=
  fun w p loose mean mg mb dp un gd cn cs aa ccd cl A₀ base L m s Q E src o news rest B F X N T hk hp ho hr hd hu ret =>
  right_call ho hr _ _ _ _ _ _ _ _ _ _ _ _ _ _ _ _ _ _ B F X (cb_drop N hp.sub) T X T ktsDicts_nil KtsTurn.refl hk hd hu fun _ _ h' tk' h₁ ⟨o', e, ho', e'⟩ T' F' N' _ _ _ _ => by
    subst e e'
    refine ret o' h' tk' ho' ⟨F'.ns, fun b o e => F'.keep _ _ (T'.other b o e List.not_mem_nil), by rw [← T'.size]; exact F'.above⟩ fun q hq => ⟨(N' q hq).1, (N' q hq).2.1, ?_⟩
    cases e : base.get? q.1 with
    | none => rfl
    | some o =>
      have := (N' q hq).2.2
      rw [T'.other _ _ e List.not_mem_nil] at this
      cases this
theorem rows43 : True := by
  w_top off
  k_with_none
  (k_with "execs cons" => ((k_here; (with_reducible refine gen_toks (P := fun k => wpAny _ _ _ _ _ ⟨_, _, _, k, _⟩) (_ + _) ?_); intro tk9'; walk_say "TOKS")))
  (k_with "eval Name" => ((k_here; name_kind "globalImplicit"; k_dflt (refine' nameX_K ?F ?X ?T ?e ?_ ?a ?b; (case F => k_asm); (case X => k_asm); (case T => k_asm); (case a => kernel_rfl!); (case b => kernel_rfl!); (case e => k_is); k_whole))))
  (k_with "eval Name" => ((k_here; name_kind "local"; k_dflt (refine' nameX_L ?F ?v ?_ ?a ?b; (case F => k_asm); (case a => kernel_rfl!); (case b => kernel_rfl!); (case v => rfl); k_whole))))
  (k_with "execs nil" => ((k_here; (with_reducible refine gen_toks (P := fun k => wpAny _ _ _ _ _ ⟨_, _, _, k, _⟩) (_ + _) ?_); intro tk9'; walk_say "TOKS")))
  (k_with "eval Name" => ((k_here; name_kind "globalImplicit"; name_is_builtin; k_dflt (refine' nameX_B ?F ?X ?T ?e ?v ?n ?_ ?a ?b; (case F => k_asm); (case X => k_asm); (case T => k_asm); (case a => kernel_rfl!); (case b => kernel_rfl!); (case e => k_is); (case v => boot_fast); (case n => decide); k_whole))))
  (k_with "ite" => ((k_closed; first | with_reducible refine ite_ff ?_ | with_reducible refine ite_tt ?_ | k_dflt (first | refine ite_t rfl ?_ | refine ite_f rfl ?_))))
  (k_with "call builtin:isinstance" => ((k_here; k_dflt (refine' isi_call ?k1 ?k2 ?k3 ?k4 ?_; (case k1 => k_in); (case k2 => k_types); (case k3 => k_is); (case k4 => intro e; cases e); k_whole))))
  (k_with "ktr_room" => (k_dflt (first | exact room2 (by with_reducible assumption) (by decide) | exact room1 (by with_reducible assumption) rfl | exact room0 (by with_reducible assumption))))
  (k_with "ktr_units" => (k_dflt (first | exact units2 (by with_reducible assumption) (by decide) | exact units1 (by with_reducible assumption) rfl | exact units0 (by with_reducible assumption) rfl | exact room0 (by with_reducible assumption))))
  (k_with "k_in" => (first | with_reducible assumption | exact Frag.In.keeps (by with_reducible assumption) (Fr.keep (by with_reducible assumption))))
  (k_with "call builtin:isinstance" => ((k_here; (with_reducible show wpAny _ _ (call _ [Value.ref _, Value.ref _]) _ _ _); k_dflt (refine' kin_callC ?k1 ?k2 ?k3 ?k4 ?k5 ?k6 ?k7 ?k8 ?k9 ?_; (case k1 => k_in); (case k2 => k_inst); (case k3 => kin_no); (case k4 => k_is); (case k5 => k_is); (case k6 => k_is); (case k7 => k_is); (case k8 => k_is); (case k9 => k_is); k_whole))))
  (k_with "getAttr ref" => ((k_here; k_dflt (refine' get_own ?k1 ?k2 ?k3 ?k4 ?k5 ?k6 ?k7 ?k8 ?k9 ?_; (case k1 => k_asm); (case k2 => k_asm); (case k3 => k_inst); (case k4 => k_is); (case k5 => k_is); (case k6 => k_is); (case k7 => k_is); (case k8 => k_get); (case k9 => k_handed); k_whole))))
  (k_with "k_room" => (ktr_room))
  (k_with "k_units" => (ktr_units))
  (k_with "k_all" => (assumption))
  (k_with "k_mem" => (first | assumption | ((with_reducible show Pick _ _ _); first | exact Pick.head | exact Pick.tail (Pick.head) | exact Pick.tail (Pick.tail (Pick.head)) | exact Pick.tail (Pick.tail (Pick.tail (Pick.head))) | exact Pick.tail (Pick.tail (Pick.tail (Pick.tail (Pick.head)))) | exact Pick.tail (Pick.tail (Pick.tail (Pick.tail (Pick.tail (Pick.head))))) | exact Pick.tail (Pick.tail (Pick.tail (Pick.tail (Pick.tail (Pick.tail (Pick.head)))))) | exact Pick.tail (Pick.tail (Pick.tail (Pick.tail (Pick.tail (Pick.tail (Pick.tail (Pick.head))))))) | exact Pick.t8 (Pick.head) | exact Pick.t8 (Pick.tail (Pick.head)) | exact Pick.t8 (Pick.tail (Pick.tail (Pick.head))) | exact Pick.t8 (Pick.tail (Pick.tail (Pick.tail (Pick.head)))) | exact Pick.t8 (Pick.tail (Pick.tail (Pick.tail (Pick.tail (Pick.head))))) | exact Pick.t8 (Pick.tail (Pick.tail (Pick.tail (Pick.tail (Pick.tail (Pick.head)))))) | exact Pick.t8 (Pick.tail (Pick.tail (Pick.tail (Pick.tail (Pick.tail (Pick.tail (Pick.head))))))) | exact Pick.t8 (Pick.tail (Pick.tail (Pick.tail (Pick.tail (Pick.tail (Pick.tail (Pick.tail (Pick.head)))))))) | exact Pick.t8 (Pick.t8 (Pick.head)) | exact Pick.t8 (Pick.t8 (Pick.tail (Pick.head))) | exact Pick.t8 (Pick.t8 (Pick.tail (Pick.tail (Pick.head)))) | exact Pick.t8 (Pick.t8 (Pick.tail (Pick.tail (Pick.tail (Pick.head))))) | exact Pick.t8 (Pick.t8 (Pick.tail (Pick.tail (Pick.tail (Pick.tail (Pick.head)))))) | exact Pick.t8 (Pick.t8 (Pick.tail (Pick.tail (Pick.tail (Pick.tail (Pick.tail (Pick.head))))))) | exact Pick.t8 (Pick.t8 (Pick.tail (Pick.tail (Pick.tail (Pick.tail (Pick.tail (Pick.tail (Pick.head)))))))) | exact Pick.t8 (Pick.t8 (Pick.tail (Pick.tail (Pick.tail (Pick.tail (Pick.tail (Pick.tail (Pick.tail (Pick.head))))))))) | exact Pick.t8 (Pick.t8 (Pick.t8 (Pick.head))) | exact Pick.t8 (Pick.t8 (Pick.t8 (Pick.tail (Pick.head)))) | exact Pick.t8 (Pick.t8 (Pick.t8 (Pick.tail (Pick.tail (Pick.head))))) | exact Pick.t8 (Pick.t8 (Pick.t8 (Pick.tail (Pick.tail (Pick.tail (Pick.head)))))) | exact Pick.t8 (Pick.t8 (Pick.t8 (Pick.tail (Pick.tail (Pick.tail (Pick.tail (Pick.head))))))) | exact Pick.t8 (Pick.t8 (Pick.t8 (Pick.tail (Pick.tail (Pick.tail (Pick.tail (Pick.tail (Pick.head)))))))) | exact Pick.t8 (Pick.t8 (Pick.t8 (Pick.tail (Pick.tail (Pick.tail (Pick.tail (Pick.tail (Pick.tail (Pick.head))))))))) | exact Pick.t8 (Pick.t8 (Pick.t8 (Pick.tail (Pick.tail (Pick.tail (Pick.tail (Pick.tail (Pick.tail (Pick.tail (Pick.head)))))))))) | exact Pick.t8 (Pick.t8 (Pick.t8 (Pick.t8 (Pick.head)))) | exact Pick.t8 (Pick.t8 (Pick.t8 (Pick.t8 (Pick.tail (Pick.head))))) | exact Pick.t8 (Pick.t8 (Pick.t8 (Pick.t8 (Pick.tail (Pick.tail (Pick.head)))))) | exact Pick.t8 (Pick.t8 (Pick.t8 (Pick.t8 (Pick.tail (Pick.tail (Pick.tail (Pick.head))))))) | exact Pick.t8 (Pick.t8 (Pick.t8 (Pick.t8 (Pick.tail (Pick.tail (Pick.tail (Pick.tail (Pick.head)))))))) | exact Pick.t8 (Pick.t8 (Pick.t8 (Pick.t8 (Pick.tail (Pick.tail (Pick.tail (Pick.tail (Pick.tail (Pick.head))))))))) | exact Pick.t8 (Pick.t8 (Pick.t8 (Pick.t8 (Pick.tail (Pick.tail (Pick.tail (Pick.tail (Pick.tail (Pick.tail (Pick.head)))))))))) | exact Pick.t8 (Pick.t8 (Pick.t8 (Pick.t8 (Pick.tail (Pick.tail (Pick.tail (Pick.tail (Pick.tail (Pick.tail (Pick.tail (Pick.head))))))))))) | exact Pick.t8 (Pick.t8 (Pick.t8 (Pick.t8 (Pick.t8 (Pick.head))))) | exact Pick.t8 (Pick.t8 (Pick.t8 (Pick.t8 (Pick.t8 (Pick.tail (Pick.head)))))) | exact Pick.t8 (Pick.t8 (Pick.t8 (Pick.t8 (Pick.t8 (Pick.tail (Pick.tail (Pick.head))))))) | exact Pick.t8 (Pick.t8 (Pick.t8 (Pick.t8 (Pick.t8 (Pick.tail (Pick.tail (Pick.tail (Pick.head)))))))) | exact Pick.t8 (Pick.t8 (Pick.t8 (Pick.t8 (Pick.t8 (Pick.tail (Pick.tail (Pick.tail (Pick.tail (Pick.head))))))))) | exact Pick.t8 (Pick.t8 (Pick.t8 (Pick.t8 (Pick.t8 (Pick.tail (Pick.tail (Pick.tail (Pick.tail (Pick.tail (Pick.head)))))))))) | exact Pick.t8 (Pick.t8 (Pick.t8 (Pick.t8 (Pick.t8 (Pick.tail (Pick.tail (Pick.tail (Pick.tail (Pick.tail (Pick.tail (Pick.head))))))))))) | exact Pick.t8 (Pick.t8 (Pick.t8 (Pick.t8 (Pick.t8 (Pick.tail (Pick.tail (Pick.tail (Pick.tail (Pick.tail (Pick.tail (Pick.tail (Pick.head)))))))))))) | exact Pick.t8 (Pick.t8 (Pick.t8 (Pick.t8 (Pick.t8 (Pick.t8 (Pick.head)))))) | exact Pick.t8 (Pick.t8 (Pick.t8 (Pick.t8 (Pick.t8 (Pick.t8 (Pick.tail (Pick.head))))))) | exact Pick.t8 (Pick.t8 (Pick.t8 (Pick.t8 (Pick.t8 (Pick.t8 (Pick.tail (Pick.tail (Pick.head)))))))) | exact Pick.t8 (Pick.t8 (Pick.t8 (Pick.t8 (Pick.t8 (Pick.t8 (Pick.tail (Pick.tail (Pick.tail (Pick.head))))))))) | exact Pick.t8 (Pick.t8 (Pick.t8 (Pick.t8 (Pick.t8 (Pick.t8 (Pick.tail (Pick.tail (Pick.tail (Pick.tail (Pick.head)))))))))) | exact Pick.t8 (Pick.t8 (Pick.t8 (Pick.t8 (Pick.t8 (Pick.t8 (Pick.tail (Pick.tail (Pick.tail (Pick.tail (Pick.tail (Pick.head))))))))))) | exact Pick.t8 (Pick.t8 (Pick.t8 (Pick.t8 (Pick.t8 (Pick.t8 (Pick.tail (Pick.tail (Pick.tail (Pick.tail (Pick.tail (Pick.tail (Pick.head)))))))))))) | exact Pick.t8 (Pick.t8 (Pick.t8 (Pick.t8 (Pick.t8 (Pick.t8 (Pick.tail (Pick.tail (Pick.tail (Pick.tail (Pick.tail (Pick.tail (Pick.tail (Pick.head)))))))))))))) | exact List.Mem.tail _ (by assumption)))
  (k_with "call ref" => ((k_here; (with_reducible show wpAny _ _ (call (Value.ref 965) _) _ _ _); k_dflt (refine' take_use ?k1 ?k2 ?k3 ?k4 ?k5 ?kK ?kp ?ko ?kr ?h2 ?ht ?kd ?ku ?_; (case k2 => k_asm); (case k1 => k_asm); (case k3 => k_asm); (case k4 => k_asm); (case k5 => k_asm); (case kK => first | exact rfl | assumption); (case kp => k_mem); (case ko => assumption); (case kr => k_all); (case h2 => omega); (case ht => omega); (case kd => ktr_room); (case ku => ktr_units); k_whole); intro d' t' o' h' tk' hd0' hd1' hso' F' N'; (try k_sweep); (try k_fold); (try dsimp only); walk_say "TAKE")))
  (k_with "call ref" => ((k_here; (with_reducible show wpAny _ _ (call (Value.ref 58) _) _ _ _); k_dflt (refine' fold_use ?k1 ?k2 ?k3 ?k4 ?k5 ?kK ?kn ?kd ?ku ?_; (case k2 => k_asm); (case k1 => k_asm); (case k3 => k_asm); (case k4 => k_asm); (case k5 => k_asm); (case kK => first | exact rfl | assumption); (case kn => assumption); (case kd => ktr_room); (case ku => ktr_units); k_whole); intro t' h' tk' F' N'; (try k_sweep); (try k_fold); (try dsimp only); walk_say "FOLD")))
  (k_with "call ref" => ((k_here; (with_reducible show wpAny _ _ (call (Value.ref 986) _) _ _ _); k_dflt (refine' lordinal_use ?k1 ?k2 ?k3 ?k4 ?k5 ?kK ?h0 ?h1 ?kd ?ku ?_; (case k2 => k_asm); (case k1 => k_asm); (case k3 => k_asm); (case k4 => k_asm); (case k5 => k_asm); (case kK => first | exact rfl | assumption); (case h0 => omega); (case h1 => omega); (case kd => ktr_room); (case ku => ktr_units); k_whole); intro t' h' tk' hol' F' N'; (try k_sweep); (try k_fold); (try dsimp only); walk_say "LORDINAL")))
  (k_with "call ref" => ((k_here; (with_reducible show wpAny _ _ (call (Value.ref 852) _) _ _ _); k_dflt (refine' ordinal_use ?k1 ?k2 ?k3 ?k4 ?k5 ?kK ?h0 ?h1 ?kd ?ku ?_; (case k2 => k_asm); (case k1 => k_asm); (case k3 => k_asm); (case k4 => k_asm); (case k5 => k_asm); (case kK => first | exact rfl | assumption); (case h0 => omega); (case h1 => omega); (case kd => ktr_room); (case ku => ktr_units); k_whole); intro t' h' tk' hol' F' N'; (try k_sweep); (try k_fold); (try dsimp only); walk_say "ORDINAL")))
  trivial
section
theorem whole.tw10002100669626812175 : True := trivial
theorem whole.tw10025635815308576066 : True := trivial
theorem whole.tw10025991395723482450 : True := trivial
theorem whole.tw10084071824679271942 : True := trivial
theorem whole.tw10096042803245398175 : True := trivial
theorem whole.tw10151842457417960038 : True := trivial
theorem whole.tw10153838690179905649 : True := trivial
theorem whole.tw10159997640001606479 : True := trivial
theorem whole.tw10178181129370835086 : True := trivial
theorem whole.tw1021466310418864216 : True := trivial
theorem whole.tw10219327507634694686 : True := trivial
theorem whole.tw10228736035032888589 : True := trivial
theorem whole.tw10240183823617578283 : True := trivial
theorem whole.tw10251056418027464385 : True := trivial
theorem whole.tw102978890456122686 : True := trivial
theorem whole.tw10301362462094837657 : True := trivial
theorem whole.tw10310532784155567026 : True := trivial
theorem whole.tw10319702536984744784 : True := trivial
theorem whole.tw10332575325313852403 : True := trivial
theorem whole.tw10339747121181971505 : True := trivial
theorem whole.tw10344827342348678470 : True := trivial
theorem whole.tw10354518954362131899 : True := trivial
theorem whole.tw10387336663765257279 : True := trivial
theorem whole.tw10391092907139815940 : True := trivial
theorem whole.tw10393562808733323261 : True := trivial
theorem whole.tw10412668953605463793 : True := trivial
theorem whole.tw10423522819347714589 : True := trivial
theorem whole.tw10425913336057316111 : True := trivial
theorem whole.tw10446497943914359417 : True := trivial
theorem whole.tw10448145865145647019 : True := trivial
theorem whole.tw10475443434110032687 : True := trivial
theorem whole.tw1047630922221454212 : True := trivial
theorem whole.tw10488504414272976643 : True := trivial
theorem whole.tw10506178692543837059 : True := trivial
theorem whole.tw1053576622031914459 : True := trivial
theorem whole.tw10537408502935576006 : True := trivial
theorem whole.tw10565146586650446459 : True := trivial
theorem whole.tw1058133836064258550 : True := trivial
theorem whole.tw10590843552420965350 : True := trivial
theorem whole.tw10602399703277881627 : True := trivial
theorem whole.tw10603485317813781426 : True := trivial
theorem whole.tw10616696396452150886 : True := trivial
theorem whole.tw10646667717487897683 : True := trivial
theorem whole.tw10654317064775040509 : True := trivial
theorem whole.tw10687446343889991496 : True := trivial
theorem whole.tw1072497446573119103 : True := trivial
theorem whole.tw10749463760870054271 : True := trivial
theorem whole.tw10765999639320066096 : True := trivial
theorem whole.tw10795012362202508061 : True := trivial
theorem whole.tw10805158454514937742 : True := trivial
theorem whole.tw10832908153356258463 : True := trivial
theorem whole.tw10838650209671834137 : True := trivial
theorem whole.tw10840090224303567227 : True := trivial
theorem whole.tw10872348248055770303 : True := trivial
theorem whole.tw10879388597655286671 : True := trivial
theorem whole.tw10887019763833697050 : True := trivial
theorem whole.tw10922663048198985862 : True := trivial
theorem whole.tw10965846888930938603 : True := trivial
theorem whole.tw10981959625080579500 : True := trivial
theorem whole.tw11018331769982298155 : True := trivial
theorem whole.tw11020471117214793887 : True := trivial
theorem whole.tw11024528398593038377 : True := trivial
theorem whole.tw11027412199618322810 : True := trivial
theorem whole.tw11116944545036436439 : True := trivial
theorem whole.tw11124209341801176217 : True := trivial
theorem whole.tw1114806542021703131 : True := trivial
theorem whole.tw11168554632963773920 : True := trivial
theorem whole.tw11174776280971001188 : True := trivial
theorem whole.tw11187447588885237514 : True := trivial
theorem whole.tw11188280186532128609 : True := trivial
theorem whole.tw11219503280623407775 : True := trivial
theorem whole.tw11316320225543275868 : True := trivial
theorem whole.tw11324706562088045768 : True := trivial
theorem whole.tw11357175057958205107 : True := trivial
theorem whole.tw113900542113845248 : True := trivial
theorem whole.tw11392060985427220233 : True := trivial
theorem whole.tw11395692770084462984 : True := trivial
theorem whole.tw11409993775148365219 : True := trivial
theorem whole.tw11423436602419212718 : True := trivial
theorem whole.tw11447198823506915613 : True := trivial
theorem whole.tw11450018549928827538 : True := trivial
theorem whole.tw11457787646611388972 : True := trivial
theorem whole.tw11459245631466036986 : True := trivial
theorem whole.tw11462962801641711639 : True := trivial
theorem whole.tw11476502588441444683 : True := trivial
theorem whole.tw1147815978188729584 : True := trivial
theorem whole.tw11497737979517188 : True := trivial
theorem whole.tw11501073197159204048 : True := trivial
theorem whole.tw1153207742219969292 : True := trivial
theorem whole.tw11579432869886197636 : True := trivial
theorem whole.tw11618948946589211957 : True := trivial
theorem whole.tw11652624631766696257 : True := trivial
theorem whole.tw11670040512431834200 : True := trivial
theorem whole.tw11670093711784454257 : True := trivial
theorem whole.tw11678933692714762019 : True := trivial
theorem whole.tw11690859581915506653 : True := trivial
theorem whole.tw1169358714977055332 : True := trivial
theorem whole.tw11706584683574245219 : True := trivial
theorem whole.tw11768088345420399494 : True := trivial
theorem whole.tw11775131333759173506 : True := trivial
theorem whole.tw11777355322855799659 : True := trivial
theorem whole.tw11789386445649589398 : True := trivial
theorem whole.tw11791088910183784695 : True := trivial
theorem whole.tw11792362355297244138 : True := trivial
theorem whole.tw11793381155483064346 : True := trivial
theorem whole.tw11825565300805995074 : True := trivial
theorem whole.tw1182916100746360932 : True := trivial
theorem whole.tw11831613935261219028 : True := trivial
theorem whole.tw11835021682919670469 : True := trivial
theorem whole.tw11836910150536664915 : True := trivial
theorem whole.tw11841974853317911985 : True := trivial
theorem whole.tw11852944053547321950 : True := trivial
theorem whole.tw11862022474199680377 : True := trivial
theorem whole.tw11876454138822706389 : True := trivial
theorem whole.tw11896201609302106115 : True := trivial
theorem whole.tw11923582732143024079 : True := trivial
theorem whole.tw1192384068545781584 : True := trivial
theorem whole.tw11952309323241053379 : True := trivial
theorem whole.tw11959834037327795482 : True := trivial
theorem whole.tw11966515284280811977 : True := trivial
theorem whole.tw11975771152792504044 : True := trivial
theorem whole.tw1200200279266715423 : True := trivial
theorem whole.tw12012580348766612465 : True := trivial
theorem whole.tw12063277863729348616 : True := trivial
theorem whole.tw12066178620653064874 : True := trivial
theorem whole.tw12077107353733055826 : True := trivial
theorem whole.tw12092817750456807627 : True := trivial
theorem whole.tw12098860561503762481 : True := trivial
theorem whole.tw12101772971524344381 : True := trivial
theorem whole.tw12111672374848980225 : True := trivial
theorem whole.tw12114987751065605754 : True := trivial
theorem whole.tw12117460353608821864 : True := trivial
theorem whole.tw12134894783777438967 : True := trivial
theorem whole.tw1217171336636241682 : True := trivial
theorem whole.tw12179455670472476543 : True := trivial
theorem whole.tw12186894253409539890 : True := trivial
theorem whole.tw1219099391390118749 : True := trivial
theorem whole.tw12219512705738599021 : True := trivial
theorem whole.tw12232969870531038555 : True := trivial
theorem whole.tw12264481721688367047 : True := trivial
theorem whole.tw12273045966763912870 : True := trivial
theorem whole.tw12294887724330564330 : True := trivial
theorem whole.tw12365302626169338283 : True := trivial
theorem whole.tw1236909307960003037 : True := trivial
theorem whole.tw12381228794656768651 : True := trivial
theorem whole.tw12384220206497402333 : True := trivial
theorem whole.tw12410440792258940326 : True := trivial
theorem whole.tw12442016628978143412 : True := trivial
theorem whole.tw12471785041798745281 : True := trivial
theorem whole.tw12473419985498694175 : True := trivial
theorem whole.tw12474861257701531764 : True := trivial
theorem whole.tw12478609949429157409 : True := trivial
theorem whole.tw12484011378766964031 : True := trivial
theorem whole.tw12499812526503966003 : True := trivial
theorem whole.tw12500006595034518877 : True := trivial
theorem whole.tw12507882389757649525 : True := trivial
theorem whole.tw12509332252045503800 : True := trivial
theorem whole.tw12548274353314379123 : True := trivial
theorem whole.tw12553528368311135604 : True := trivial
theorem whole.tw1255956871972877904 : True := trivial
theorem whole.tw1256279898242784606 : True := trivial
theorem whole.tw12562849145585476731 : True := trivial
theorem whole.tw12591319150774080885 : True := trivial
theorem whole.tw12598572606399187110 : True := trivial
theorem whole.tw1266484639899004939 : True := trivial
theorem whole.tw12698311456782994138 : True := trivial
theorem whole.tw12704508643202503056 : True := trivial
theorem whole.tw1273583120585336579 : True := trivial
theorem whole.tw12740454516981205806 : True := trivial
theorem whole.tw12742087137024979937 : True := trivial
theorem whole.tw127423454215802840 : True := trivial
theorem whole.tw12808456870637180559 : True := trivial
theorem whole.tw12809664267019061670 : True := trivial
theorem whole.tw12810356135173068295 : True := trivial
theorem whole.tw12844895380979062800 : True := trivial
theorem whole.tw12852820008105578649 : True := trivial
theorem whole.tw12919474184346423062 : True := trivial
theorem whole.tw12920395458479335663 : True := trivial
theorem whole.tw12928932934922122878 : True := trivial
theorem whole.tw12951669734159865017 : True := trivial
theorem whole.tw12967805889597932581 : True := trivial
theorem whole.tw12976933641374925533 : True := trivial
theorem whole.tw12982672189386914922 : True := trivial
theorem whole.tw13000713063990318526 : True := trivial
theorem whole.tw13018183266405097566 : True := trivial
theorem whole.tw13033160020079735899 : True := trivial
theorem whole.tw13045181716907704641 : True := trivial
theorem whole.tw13061340530893119238 : True := trivial
theorem whole.tw13142167418276237254 : True := trivial
theorem whole.tw13149474316023798553 : True := trivial
theorem whole.tw13155097880312403346 : True := trivial
theorem whole.tw13156973312945586846 : True := trivial
theorem whole.tw13169717627825816873 : True := trivial
theorem whole.tw1318554304652621475 : True := trivial
theorem whole.tw13202693285660988826 : True := trivial
theorem whole.tw13213058742666125385 : True := trivial
theorem whole.tw1321319160052600332 : True := trivial
theorem whole.tw13231496892565117553 : True := trivial
theorem whole.tw13248432789117441309 : True := trivial
theorem whole.tw13257616468884075308 : True := trivial
theorem whole.tw13262402704330787269 : True := trivial
theorem whole.tw13280236369478660345 : True := trivial
theorem whole.tw13297878767709546727 : True := trivial
theorem whole.tw13325104327702632178 : True := trivial
theorem whole.tw13329942582686594379 : True := trivial
theorem whole.tw13334927893685096626 : True := trivial
theorem whole.tw13337781409839281223 : True := trivial
theorem whole.tw1335791156554467795 : True := trivial
theorem whole.tw13373713576854631141 : True := trivial
theorem whole.tw13397667615521693709 : True := trivial
theorem whole.tw13399198550693968896 : True := trivial
theorem whole.tw13406957107772272364 : True := trivial
theorem whole.tw13421568403255487132 : True := trivial
theorem whole.tw1342645848660009235 : True := trivial
theorem whole.tw13434065944014204811 : True := trivial
theorem whole.tw13447532951914335906 : True := trivial
theorem whole.tw13463558215457259582 : True := trivial
theorem whole.tw13466531369813336011 : True := trivial
theorem whole.tw13468676432958742306 : True := trivial
theorem whole.tw13468923340822585488 : True := trivial
theorem whole.tw13478315594510353802 : True := trivial
theorem whole.tw1350920760672359567 : True := trivial
theorem whole.tw13518702907885339924 : True := trivial
theorem whole.tw13520624980008068981 : True := trivial
theorem whole.tw13533835726952830686 : True := trivial
theorem whole.tw1353902047762577225 : True := trivial
theorem whole.tw13562979760119101899 : True := trivial
theorem whole.tw13571483373588183640 : True := trivial
theorem whole.tw13600218594186718376 : True := trivial
theorem whole.tw1363506702145506021 : True := trivial
theorem whole.tw13664935262549406174 : True := trivial
theorem whole.tw13675596732203519343 : True := trivial
theorem whole.tw13719171679594634575 : True := trivial
theorem whole.tw13728302104422888548 : True := trivial
theorem whole.tw13738339212195554370 : True := trivial
theorem whole.tw13749801708979339770 : True := trivial
theorem whole.tw13760198194640045919 : True := trivial
theorem whole.tw13762013822233420738 : True := trivial
theorem whole.tw137721658169608169 : True := trivial
theorem whole.tw13835169320686990480 : True := trivial
theorem whole.tw13876266882482020314 : True := trivial
theorem whole.tw1393339623888494026 : True := trivial
theorem whole.tw13960669724093699300 : True := trivial
theorem whole.tw13962616709173656972 : True := trivial
theorem whole.tw13974613887430780637 : True := trivial
theorem whole.tw14022422837721342840 : True := trivial
theorem whole.tw14031613983174702221 : True := trivial
theorem whole.tw14047333959232290054 : True := trivial
theorem whole.tw14105509162872741218 : True := trivial
theorem whole.tw14138553856905868755 : True := trivial
theorem whole.tw141600454260247210 : True := trivial
theorem whole.tw14165590967655844809 : True := trivial
theorem whole.tw14173393766343599159 : True := trivial
theorem whole.tw14192229110069238088 : True := trivial
theorem whole.tw14236906250561074472 : True := trivial
theorem whole.tw14239292526413980002 : True := trivial
theorem whole.tw14277096492922572389 : True := trivial
theorem whole.tw14302830165969023719 : True := trivial
theorem whole.tw1431910878879778920 : True := trivial
theorem whole.tw14328502944104624683 : True := trivial
theorem whole.tw14339919399903518487 : True := trivial
theorem whole.tw14340079683799668620 : True := trivial
theorem whole.tw14359707407273365879 : True := trivial
theorem whole.tw14378041842529194870 : True := trivial
theorem whole.tw14381574177426341226 : True := trivial
theorem whole.tw14395644662136614805 : True := trivial
theorem whole.tw14398828562116658018 : True := trivial
theorem whole.tw14407623233719037512 : True := trivial
theorem whole.tw14420548223002519687 : True := trivial
theorem whole.tw14443708556783366652 : True := trivial
theorem whole.tw14493418047887008292 : True := trivial
theorem whole.tw14500094016500205021 : True := trivial
theorem whole.tw14562462331371676279 : True := trivial
theorem whole.tw14590790631899776401 : True := trivial
theorem whole.tw14592908492388784131 : True := trivial
theorem whole.tw14621228733418778453 : True := trivial
theorem whole.tw14633233319731816775 : True := trivial
theorem whole.tw14649381610841438815 : True := trivial
theorem whole.tw14654356449610600485 : True := trivial
theorem whole.tw14676366378414606867 : True := trivial
theorem whole.tw1469139166737108290 : True := trivial
theorem whole.tw1469495571348798126 : True := trivial
theorem whole.tw1470681187219097129 : True := trivial
theorem whole.tw1471963695286822381 : True := trivial
theorem whole.tw14725644924352215136 : True := trivial
theorem whole.tw14732348922388339242 : True := trivial
theorem whole.tw14736388558372465541 : True := trivial
theorem whole.tw14756447051001558117 : True := trivial
theorem whole.tw14765760737338471991 : True := trivial
theorem whole.tw14770174760954882662 : True := trivial
theorem whole.tw14776171463994254414 : True := trivial
theorem whole.tw14863180981096415481 : True := trivial
theorem whole.tw14875044017630859624 : True := trivial
theorem whole.tw14877643965249282964 : True := trivial
theorem whole.tw1488662743745869538 : True := trivial
theorem whole.tw14890280090424698046 : True := trivial
theorem whole.tw14895832951272295765 : True := trivial
theorem whole.tw14916202748087371944 : True := trivial
theorem whole.tw14924970043600883312 : True := trivial
theorem whole.tw14929651699154906824 : True := trivial
theorem whole.tw14943008167867972167 : True := trivial
theorem whole.tw14998389939795375158 : True := trivial
theorem whole.tw15005421627973807601 : True := trivial
theorem whole.tw15011501571072078954 : True := trivial
theorem whole.tw15013576625721048695 : True := trivial
theorem whole.tw1503406073462105463 : True := trivial
theorem whole.tw15089273742334493110 : True := trivial
theorem whole.tw1509033169537457064 : True := trivial
theorem whole.tw15103685750691789098 : True := trivial
theorem whole.tw15104313353549385183 : True := trivial
theorem whole.tw15117479482001565679 : True := trivial
theorem whole.tw15189915617685484396 : True := trivial
theorem whole.tw15206955865107345967 : True := trivial
theorem whole.tw15264306265154332586 : True := trivial
theorem whole.tw15265605800337590527 : True := trivial
theorem whole.tw15285801702533195368 : True := trivial
theorem whole.tw15338273372565686330 : True := trivial
theorem whole.tw15401142651479110994 : True := trivial
theorem whole.tw1544131599997683834 : True := trivial
theorem whole.tw15456695043542012934 : True := trivial
theorem whole.tw15468976468865703443 : True := trivial
theorem whole.tw15469157617142141710 : True := trivial
theorem whole.tw15481164920822199189 : True := trivial
theorem whole.tw15490696404161045352 : True := trivial
theorem whole.tw15539963934695697727 : True := trivial
theorem whole.tw15564212434770411261 : True := trivial
theorem whole.tw15593539561102206943 : True := trivial
theorem whole.tw15652777202477211125 : True := trivial
theorem whole.tw15657491793718945610 : True := trivial
theorem whole.tw15695161780090201225 : True := trivial
theorem whole.tw15699184783388197855 : True := trivial
theorem whole.tw15716183405302250479 : True := trivial
theorem whole.tw1573668984985804180 : True := trivial
theorem whole.tw15753584648845244147 : True := trivial
theorem whole.tw15761127226676153883 : True := trivial
theorem whole.tw15771390255919318617 : True := trivial
theorem whole.tw1579314106941295789 : True := trivial
theorem whole.tw15803673994437570577 : True := trivial
theorem whole.tw15805006361170613057 : True := trivial
theorem whole.tw15811116968426213322 : True := trivial
theorem whole.tw15814272973740294878 : True := trivial
theorem whole.tw15819564801051643881 : True := trivial
theorem whole.tw15835130817642446534 : True := trivial
theorem whole.tw15848567645679474065 : True := trivial
theorem whole.tw15860478810404352300 : True := trivial
theorem whole.tw1587768003098754325 : True := trivial
theorem whole.tw15897636104957077249 : True := trivial
theorem whole.tw15930047269337530508 : True := trivial
theorem whole.tw1594923724952544075 : True := trivial
theorem whole.tw15950631773475717186 : True := trivial
theorem whole.tw16008101280253657391 : True := trivial
theorem whole.tw1601961968588287001 : True := trivial
theorem whole.tw16026843855606243410 : True := trivial
theorem whole.tw16066054282618255211 : True := trivial
theorem whole.tw16089163917832698231 : True := trivial
theorem whole.tw16111274487264414774 : True := trivial
theorem whole.tw16112925590461663603 : True := trivial
theorem whole.tw161295022889997188 : True := trivial
theorem whole.tw161333873384909080 : True := trivial
theorem whole.tw16146633858663668739 : True := trivial
theorem whole.tw16152885425384644779 : True := trivial
theorem whole.tw16157823471821472638 : True := trivial
theorem whole.tw161632788893874429 : True := trivial
theorem whole.tw16191896734375390133 : True := trivial
theorem whole.tw16248777263060333642 : True := trivial
theorem whole.tw16265185521643916613 : True := trivial
theorem whole.tw16280953410686111352 : True := trivial
theorem whole.tw16304597587823193687 : True := trivial
theorem whole.tw16332402849840205387 : True := trivial
theorem whole.tw16337621169857538619 : True := trivial
theorem whole.tw1633898876240874773 : True := trivial
theorem whole.tw16342273516520970692 : True := trivial
theorem whole.tw16393290432831359851 : True := trivial
theorem whole.tw16395379286268932709 : True := trivial
theorem whole.tw16398205279857054297 : True := trivial
theorem whole.tw16401683800235061082 : True := trivial
theorem whole.tw1640677438868554593 : True := trivial
theorem whole.tw16416134952452293984 : True := trivial
theorem whole.tw16442725811781728823 : True := trivial
theorem whole.tw1645590182628983409 : True := trivial
theorem whole.tw16458975022613616615 : True := trivial
theorem whole.tw16467933323881711526 : True := trivial
theorem whole.tw16472206009762837957 : True := trivial
theorem whole.tw16505068655815891843 : True := trivial
theorem whole.tw16529046165737248422 : True := trivial
theorem whole.tw16530865375734805145 : True := trivial
theorem whole.tw16564990636065421569 : True := trivial
theorem whole.tw16586233370728154131 : True := trivial
theorem whole.tw16607669324509118938 : True := trivial
theorem whole.tw16616245412964173377 : True := trivial
theorem whole.tw16626626835312547296 : True := trivial
theorem whole.tw16637351698155146357 : True := trivial
theorem whole.tw16668768811381343612 : True := trivial
theorem whole.tw16687065914561022968 : True := trivial
theorem whole.tw16691007607992939502 : True := trivial
theorem whole.tw16708263669468244151 : True := trivial
theorem whole.tw16710806586956947785 : True := trivial
theorem whole.tw16721588368965777027 : True := trivial
theorem whole.tw16731332320388202666 : True := trivial
theorem whole.tw16732526662816644420 : True := trivial
theorem whole.tw16734197759499934857 : True := trivial
theorem whole.tw16738726308800667447 : True := trivial
theorem whole.tw16739781802365451968 : True := trivial
theorem whole.tw16741440440132755172 : True := trivial
theorem whole.tw16758389396702803908 : True := trivial
theorem whole.tw16800997667575721541 : True := trivial
theorem whole.tw16827500432841332687 : True := trivial
theorem whole.tw16840394354705383403 : True := trivial
theorem whole.tw16912792503757511054 : True := trivial
theorem whole.tw1692622564874605650 : True := trivial
theorem whole.tw16926659055490591571 : True := trivial
theorem whole.tw16941454671938913892 : True := trivial
theorem whole.tw169747851870786472 : True := trivial
theorem whole.tw16986268789631483586 : True := trivial
theorem whole.tw1698847728826587444 : True := trivial
theorem whole.tw17022761755405916213 : True := trivial
theorem whole.tw17035959537159929266 : True := trivial
theorem whole.tw17037309529492816295 : True := trivial
theorem whole.tw17044950167386977207 : True := trivial
theorem whole.tw17060747222450192753 : True := trivial
theorem whole.tw17075553230084287909 : True := trivial
theorem whole.tw17092094596097150618 : True := trivial
theorem whole.tw17120517816671682439 : True := trivial
theorem whole.tw17128258169734466478 : True := trivial
theorem whole.tw17169624498616045403 : True := trivial
theorem whole.tw17175008800681467811 : True := trivial
theorem whole.tw17195952149560314771 : True := trivial
theorem whole.tw17221409760620009834 : True := trivial
theorem whole.tw17256302963761357986 : True := trivial
theorem whole.tw17258676653681215673 : True := trivial
theorem whole.tw17293853786120715770 : True := trivial
theorem whole.tw17295703372945214271 : True := trivial
theorem whole.tw17333791097184162534 : True := trivial
theorem whole.tw1733744953317856445 : True := trivial
theorem whole.tw17365612064069717690 : True := trivial
theorem whole.tw17395194986337826024 : True := trivial
theorem whole.tw17400260938146383314 : True := trivial
theorem whole.tw17424537571790736093 : True := trivial
theorem whole.tw17463027529269885953 : True := trivial
theorem whole.tw17466715720860763384 : True := trivial
theorem whole.tw17475311184863085016 : True := trivial
theorem whole.tw17480726222106551122 : True := trivial
theorem whole.tw17510340352245238577 : True := trivial
theorem whole.tw17529894129228449367 : True := trivial
theorem whole.tw17583434110615651305 : True := trivial
theorem whole.tw17641713804859348092 : True := trivial
theorem whole.tw1765076044715932963 : True := trivial
theorem whole.tw17659150536888882668 : True := trivial
theorem whole.tw17668386841364913139 : True := trivial
theorem whole.tw17692944630003236201 : True := trivial
theorem whole.tw17708391408692131970 : True := trivial
theorem whole.tw17737194193827323026 : True := trivial
theorem whole.tw17755013961654723012 : True := trivial
theorem whole.tw17756055853247313500 : True := trivial
theorem whole.tw17758824073715717921 : True := trivial
theorem whole.tw17768757769460313278 : True := trivial
theorem whole.tw17789319016849944305 : True := trivial
theorem whole.tw17794071737211314316 : True := trivial
theorem whole.tw17814491789457634051 : True := trivial
theorem whole.tw17819583843959417973 : True := trivial
theorem whole.tw17843127513448600897 : True := trivial
theorem whole.tw17847466938742361278 : True := trivial
theorem whole.tw17870152368367076345 : True := trivial
theorem whole.tw17886057370482458864 : True := trivial
theorem whole.tw17895464640352678532 : True := trivial
theorem whole.tw1790706782006413658 : True := trivial
theorem whole.tw17933440416606161858 : True := trivial
theorem whole.tw17945471581576359013 : True := trivial
theorem whole.tw17948893368442150300 : True := trivial
theorem whole.tw17980908128825299112 : True := trivial
theorem whole.tw17991299263585117788 : True := trivial
theorem whole.tw17992364426957274132 : True := trivial
theorem whole.tw18026328337398066365 : True := trivial
theorem whole.tw18056553881098321084 : True := trivial
theorem whole.tw18060336119277286115 : True := trivial
theorem whole.tw18135788421098096370 : True := trivial
theorem whole.tw18140368120207624840 : True := trivial
theorem whole.tw18162983195158539490 : True := trivial
theorem whole.tw18174217711786252908 : True := trivial
theorem whole.tw18186416632783805872 : True := trivial
theorem whole.tw18223413143505370273 : True := trivial
theorem whole.tw18241194481836882323 : True := trivial
theorem whole.tw18278739445746471367 : True := trivial
theorem whole.tw18293881159641894451 : True := trivial
theorem whole.tw18314547241281667657 : True := trivial
theorem whole.tw18315055452531851272 : True := trivial
theorem whole.tw18344965372676865238 : True := trivial
theorem whole.tw18354614867481654581 : True := trivial
theorem whole.tw18363153814535713890 : True := trivial
theorem whole.tw1836438579387980826 : True := trivial
theorem whole.tw18365836795692938196 : True := trivial
theorem whole.tw18381488511043228445 : True := trivial
theorem whole.tw18382394861701510011 : True := trivial
theorem whole.tw18389329123258151720 : True := trivial
theorem whole.tw18402882695012882554 : True := trivial
theorem whole.tw18406967196282243847 : True := trivial
theorem whole.tw18441933478247557488 : True := trivial
theorem whole.tw1859146779660683823 : True := trivial
theorem whole.tw1893850866222049975 : True := trivial
theorem whole.tw1897105925431849711 : True := trivial
theorem whole.tw189715827726577491 : True := trivial
theorem whole.tw1902754551582867561 : True := trivial
theorem whole.tw1916967650581213123 : True := trivial
theorem whole.tw1934810232205804993 : True := trivial
theorem whole.tw1972244106113717368 : True := trivial
theorem whole.tw1986823167695270555 : True := trivial
theorem whole.tw1999433592531618509 : True := trivial
theorem whole.tw2021854409746315462 : True := trivial
theorem whole.tw2028823117376367632 : True := trivial
theorem whole.tw203428145850139289 : True := trivial
theorem whole.tw2047193779265307260 : True := trivial
theorem whole.tw2081632904089052959 : True := trivial
theorem whole.tw2083198920140632441 : True := trivial
theorem whole.tw2109657717061889843 : True := trivial
theorem whole.tw21144270241317603 : True := trivial
theorem whole.tw213970696928864655 : True := trivial
theorem whole.tw2151346155558304222 : True := trivial
theorem whole.tw2151871088471828822 : True := trivial
theorem whole.tw2155487761632659812 : True := trivial
theorem whole.tw2166459464060227386 : True := trivial
theorem whole.tw2168223474955763204 : True := trivial
theorem whole.tw2198523743367551842 : True := trivial
theorem whole.tw2201306404548609547 : True := trivial
theorem whole.tw2210357269209322919 : True := trivial
theorem whole.tw2249504304506360813 : True := trivial
theorem whole.tw227304862334750897 : True := trivial
theorem whole.tw2290268214366725154 : True := trivial
theorem whole.tw2302772764467998647 : True := trivial
theorem whole.tw233407381665510132 : True := trivial
theorem whole.tw2335579272731918784 : True := trivial
theorem whole.tw2339880401900496417 : True := trivial
theorem whole.tw2349701861695252166 : True := trivial
theorem whole.tw2362521522948952975 : True := trivial
theorem whole.tw2380868127642377217 : True := trivial
theorem whole.tw2401531773124529735 : True := trivial
theorem whole.tw2412972146837434115 : True := trivial
theorem whole.tw2439357469168130064 : True := trivial
theorem whole.tw2448076297453326055 : True := trivial
theorem whole.tw2460162292438193577 : True := trivial
theorem whole.tw2469003464257525574 : True := trivial
theorem whole.tw2474167808764366809 : True := trivial
theorem whole.tw2523112607995495231 : True := trivial
theorem whole.tw2536362301702204066 : True := trivial
theorem whole.tw253782344009268075 : True := trivial
theorem whole.tw254780913952180833 : True := trivial
theorem whole.tw2551288049877987531 : True := trivial
theorem whole.tw2554714600840530319 : True := trivial
theorem whole.tw2558861820686608913 : True := trivial
theorem whole.tw2580061231857448207 : True := trivial
theorem whole.tw2608646628457097981 : True := trivial
theorem whole.tw2626972384719194784 : True := trivial
theorem whole.tw2649048575011448004 : True := trivial
theorem whole.tw2675290096998512546 : True := trivial
theorem whole.tw2719981389479183198 : True := trivial
theorem whole.tw272726447852447103 : True := trivial
theorem whole.tw2733790213765534055 : True := trivial
theorem whole.tw2755977992816859464 : True := trivial
theorem whole.tw2777902329107566167 : True := trivial
theorem whole.tw2783269125865542102 : True := trivial
theorem whole.tw2795459523593423029 : True := trivial
theorem whole.tw280920844665842053 : True := trivial
theorem whole.tw2840240246700292369 : True := trivial
theorem whole.tw285988719286631819 : True := trivial
theorem whole.tw2889258933206107750 : True := trivial
theorem whole.tw2896436902973227457 : True := trivial
theorem whole.tw2897305930938008557 : True := trivial
theorem whole.tw29202618045891971 : True := trivial
theorem whole.tw2936931039037258279 : True := trivial
theorem whole.tw2959683903145980101 : True := trivial
theorem whole.tw2962858822866373933 : True := trivial
theorem whole.tw2989192609971925910 : True := trivial
theorem whole.tw3019031342044709899 : True := trivial
theorem whole.tw302538394102154784 : True := trivial
theorem whole.tw3028004478679740547 : True := trivial
theorem whole.tw3029818731915779892 : True := trivial
theorem whole.tw303830138005106948 : True := trivial
theorem whole.tw3054337557061637223 : True := trivial
theorem whole.tw3085902745639715626 : True := trivial
theorem whole.tw3087226120313871188 : True := trivial
theorem whole.tw3099174332690161747 : True := trivial
theorem whole.tw3099485228618234346 : True := trivial
theorem whole.tw3113020014274006119 : True := trivial
theorem whole.tw3117049408229778687 : True := trivial
theorem whole.tw3118101993129739532 : True := trivial
theorem whole.tw3125283655325999989 : True := trivial
theorem whole.tw3127163415804763599 : True := trivial
theorem whole.tw3141554390599180669 : True := trivial
theorem whole.tw3150075250938504248 : True := trivial
theorem whole.tw3158200523106604942 : True := trivial
theorem whole.tw3162365515331879682 : True := trivial
theorem whole.tw3166543957339863982 : True := trivial
theorem whole.tw3167547055806944370 : True := trivial
theorem whole.tw3168900989282067249 : True := trivial
theorem whole.tw3200025831031697495 : True := trivial
theorem whole.tw3243557710152264731 : True := trivial
theorem whole.tw3266468937900191143 : True := trivial
theorem whole.tw3270133029678145397 : True := trivial
theorem whole.tw3280129329062278201 : True := trivial
theorem whole.tw3306209509626126654 : True := trivial
theorem whole.tw3345019855932357843 : True := trivial
theorem whole.tw3345170683049916347 : True := trivial
theorem whole.tw3345510996311645767 : True := trivial
theorem whole.tw3356658721923332017 : True := trivial
theorem whole.tw3357092870726653058 : True := trivial
theorem whole.tw3357701790753702968 : True := trivial
theorem whole.tw3369746551918469629 : True := trivial
theorem whole.tw3384207784612787380 : True := trivial
theorem whole.tw3386062769394439805 : True := trivial
theorem whole.tw3388183141720772199 : True := trivial
theorem whole.tw340442491454447764 : True := trivial
theorem whole.tw3479739002732855021 : True := trivial
theorem whole.tw3482644124312780496 : True := trivial
theorem whole.tw3510700885661489807 : True := trivial
theorem whole.tw3559878232441866632 : True := trivial
theorem whole.tw356215775963413058 : True := trivial
theorem whole.tw3604371722874584219 : True := trivial
theorem whole.tw3633373589777264862 : True := trivial
theorem whole.tw3677230992596733145 : True := trivial
theorem whole.tw3687826684616867901 : True := trivial
theorem whole.tw369943808078234791 : True := trivial
theorem whole.tw3708987609129729033 : True := trivial
theorem whole.tw3733001107339715835 : True := trivial
theorem whole.tw3733203681221829434 : True := trivial
theorem whole.tw3742335343461010818 : True := trivial
theorem whole.tw3774107025085352999 : True := trivial
theorem whole.tw3798757254938238448 : True := trivial
theorem whole.tw3802398583823018356 : True := trivial
theorem whole.tw381110514646162275 : True := trivial
theorem whole.tw3817958767811374121 : True := trivial
theorem whole.tw3831098155750919189 : True := trivial
theorem whole.tw3831505189881441063 : True := trivial
theorem whole.tw3854589921560446643 : True := trivial
theorem whole.tw3860174431591174066 : True := trivial
theorem whole.tw3869719713472690019 : True := trivial
theorem whole.tw3871852658520080179 : True := trivial
theorem whole.tw3909395182359919685 : True := trivial
theorem whole.tw3911966217894400741 : True := trivial
theorem whole.tw3945383572190744343 : True := trivial
theorem whole.tw3947618128840659280 : True := trivial
theorem whole.tw3971760220004402078 : True := trivial
theorem whole.tw3981194921628995571 : True := trivial
theorem whole.tw3985277232237335871 : True := trivial
theorem whole.tw3995449140538097629 : True := trivial
theorem whole.tw4024587099455181709 : True := trivial
theorem whole.tw4056270910917201831 : True := trivial
theorem whole.tw405740019985443559 : True := trivial
theorem whole.tw4075336105160463354 : True := trivial
theorem whole.tw4086658223068553736 : True := trivial
theorem whole.tw409525538239758689 : True := trivial
theorem whole.tw4107823604484434990 : True := trivial
theorem whole.tw4163455835068889971 : True := trivial
theorem whole.tw4164158186972481368 : True := trivial
theorem whole.tw4180466227808675834 : True := trivial
theorem whole.tw4195589956728777111 : True := trivial
theorem whole.tw4210173837847294953 : True := trivial
theorem whole.tw4221266100470226451 : True := trivial
theorem whole.tw4234479992401935053 : True := trivial
theorem whole.tw427333557424167660 : True := trivial
theorem whole.tw431044224361937856 : True := trivial
theorem whole.tw4324854215712742514 : True := trivial
theorem whole.tw4337987958061720545 : True := trivial
theorem whole.tw4338333698743118245 : True := trivial
theorem whole.tw4346055641746905949 : True := trivial
theorem whole.tw4347982837100205910 : True := trivial
theorem whole.tw435229417069212923 : True := trivial
theorem whole.tw4357746044423742650 : True := trivial
theorem whole.tw43722865635132848 : True := trivial
theorem whole.tw4381508105603032202 : True := trivial
theorem whole.tw4383604606248590591 : True := trivial
theorem whole.tw4390524459887601663 : True := trivial
theorem whole.tw4429454015001785570 : True := trivial
theorem whole.tw4432250331352448483 : True := trivial
theorem whole.tw4441961637666494936 : True := trivial
theorem whole.tw4444701892398472603 : True := trivial
theorem whole.tw4445204285082115520 : True := trivial
theorem whole.tw4447922135398794285 : True := trivial
theorem whole.tw4451085463197068037 : True := trivial
theorem whole.tw4469111808269641240 : True := trivial
theorem whole.tw4478484345807364305 : True := trivial
theorem whole.tw4487652198498899664 : True := trivial
theorem whole.tw4497405343062392443 : True := trivial
theorem whole.tw4499328569734638372 : True := trivial
theorem whole.tw4500174473588537352 : True := trivial
theorem whole.tw4559885085590827626 : True := trivial
theorem whole.tw4599867432513458523 : True := trivial
theorem whole.tw4603890583814415204 : True := trivial
theorem whole.tw46433443316919834 : True := trivial
theorem whole.tw4672207989499910625 : True := trivial
theorem whole.tw4675662640594387302 : True := trivial
theorem whole.tw4689585835679557668 : True := trivial
theorem whole.tw4753389165054817539 : True := trivial
theorem whole.tw4772658413541480157 : True := trivial
theorem whole.tw4779742677757752892 : True := trivial
theorem whole.tw4808684823556612304 : True := trivial
theorem whole.tw482805393138593929 : True := trivial
theorem whole.tw483992730283222753 : True := trivial
theorem whole.tw487143721646681983 : True := trivial
theorem whole.tw4881149852633135710 : True := trivial
theorem whole.tw4895175955093365700 : True := trivial
theorem whole.tw4897329129694005586 : True := trivial
theorem whole.tw4918820536221260690 : True := trivial
theorem whole.tw4934077235998201596 : True := trivial
theorem whole.tw4949270758218711749 : True := trivial
theorem whole.tw49618309497685836 : True := trivial
theorem whole.tw5001923725869043736 : True := trivial
theorem whole.tw5015864234111024480 : True := trivial
theorem whole.tw5049987766257362985 : True := trivial
theorem whole.tw5055955640874334904 : True := trivial
theorem whole.tw5081031077709457048 : True := trivial
theorem whole.tw5099900934548537757 : True := trivial
theorem whole.tw5100489862065503989 : True := trivial
theorem whole.tw5146043315109619605 : True := trivial
theorem whole.tw5150714380194139594 : True := trivial
theorem whole.tw5159705281301196996 : True := trivial
theorem whole.tw5170085318457261871 : True := trivial
theorem whole.tw5171116725156735389 : True := trivial
theorem whole.tw5189780602208921310 : True := trivial
theorem whole.tw5201323674647411954 : True := trivial
theorem whole.tw5219970640105433548 : True := trivial
theorem whole.tw5233578499609466721 : True := trivial
theorem whole.tw5254450366334392284 : True := trivial
theorem whole.tw5272084226273953366 : True := trivial
theorem whole.tw5277582801102665213 : True := trivial
theorem whole.tw5280658894789648532 : True := trivial
theorem whole.tw528442517531419411 : True := trivial
theorem whole.tw5297632933804744799 : True := trivial
theorem whole.tw5301671710893950682 : True := trivial
theorem whole.tw5348631242219561681 : True := trivial
theorem whole.tw5349422690488739272 : True := trivial
theorem whole.tw5360207378560713126 : True := trivial
theorem whole.tw5361092306138085264 : True := trivial
theorem whole.tw536816803628104207 : True := trivial
theorem whole.tw5405151241437436114 : True := trivial
theorem whole.tw5408107943391738 : True := trivial
theorem whole.tw5420612831705146045 : True := trivial
theorem whole.tw5430717269032188674 : True := trivial
theorem whole.tw5433660331597885046 : True := trivial
theorem whole.tw5438831827131416888 : True := trivial
theorem whole.tw5441638125044145263 : True := trivial
theorem whole.tw5444821181176152557 : True := trivial
theorem whole.tw5460680643579594377 : True := trivial
theorem whole.tw5476393818906829930 : True := trivial
theorem whole.tw551006197617951179 : True := trivial
theorem whole.tw5531847113258461380 : True := trivial
theorem whole.tw5532809562029925614 : True := trivial
theorem whole.tw5542149417468696053 : True := trivial
theorem whole.tw5572964892545398623 : True := trivial
theorem whole.tw5584678179193668038 : True := trivial
theorem whole.tw5586392500970708615 : True := trivial
theorem whole.tw5594150777796572440 : True := trivial
theorem whole.tw561600600097829391 : True := trivial
theorem whole.tw5649241889958590350 : True := trivial
theorem whole.tw5662987942479315956 : True := trivial
theorem whole.tw572749868224977959 : True := trivial
theorem whole.tw5728154831901139425 : True := trivial
theorem whole.tw5770726333419700816 : True := trivial
theorem whole.tw5780719067801662900 : True := trivial
theorem whole.tw5790326999694950120 : True := trivial
theorem whole.tw5791068310056048545 : True := trivial
theorem whole.tw5798653541585068671 : True := trivial
theorem whole.tw5803101561360292368 : True := trivial
theorem whole.tw5804886461390523402 : True := trivial
theorem whole.tw5833760311655045577 : True := trivial
theorem whole.tw5852837442982555326 : True := trivial
theorem whole.tw5879479702872096659 : True := trivial
theorem whole.tw5882343337706715899 : True := trivial
theorem whole.tw5902289869349430576 : True := trivial
theorem whole.tw590541238101311183 : True := trivial
theorem whole.tw5930871128768368013 : True := trivial
theorem whole.tw5938623499991607928 : True := trivial
theorem whole.tw5942346508108547180 : True := trivial
theorem whole.tw5957720602838212224 : True := trivial
theorem whole.tw5973460332469706965 : True := trivial
theorem whole.tw5980585785881701215 : True := trivial
theorem whole.tw5997644934508616594 : True := trivial
theorem whole.tw6014040228023658700 : True := trivial
theorem whole.tw6018008695308894833 : True := trivial
theorem whole.tw604856627521478904 : True := trivial
theorem whole.tw6059101297212633470 : True := trivial
theorem whole.tw6067178945074143734 : True := trivial
theorem whole.tw6084657873442493111 : True := trivial
theorem whole.tw6090991400474081933 : True := trivial
theorem whole.tw6095937858554715304 : True := trivial
theorem whole.tw6097748072631727781 : True := trivial
theorem whole.tw6134669277041531837 : True := trivial
theorem whole.tw6159961993279768742 : True := trivial
theorem whole.tw6175221477891461631 : True := trivial
theorem whole.tw6187261993980536492 : True := trivial
theorem whole.tw6197045082498751548 : True := trivial
theorem whole.tw620233503781600244 : True := trivial
theorem whole.tw6233461465355520292 : True := trivial
theorem whole.tw6250799429290313176 : True := trivial
theorem whole.tw6266228650988000492 : True := trivial
theorem whole.tw627836218701940097 : True := trivial
theorem whole.tw6290923202673413122 : True := trivial
theorem whole.tw6300184847947440018 : True := trivial
theorem whole.tw6300749833780909245 : True := trivial
theorem whole.tw6323609867561441924 : True := trivial
theorem whole.tw6327303007010539975 : True := trivial
theorem whole.tw6330323023686639657 : True := trivial
theorem whole.tw6330797023819526829 : True := trivial
theorem whole.tw6356627984389668255 : True := trivial
theorem whole.tw6377287985247879410 : True := trivial
theorem whole.tw6396017553259284124 : True := trivial
theorem whole.tw6398494249180007682 : True := trivial
theorem whole.tw6416634858453334624 : True := trivial
theorem whole.tw6421574377784992043 : True := trivial
theorem whole.tw6429885574394902624 : True := trivial
theorem whole.tw6453619897266653623 : True := trivial
theorem whole.tw6472696656209681604 : True := trivial
theorem whole.tw6496092161831514541 : True := trivial
theorem whole.tw6507163766276112266 : True := trivial
theorem whole.tw6525215580464160042 : True := trivial
theorem whole.tw6531100040246800141 : True := trivial
theorem whole.tw6554874851225637503 : True := trivial
theorem whole.tw6586851211266487494 : True := trivial
theorem whole.tw6590139235508916450 : True := trivial
theorem whole.tw6611469634113759796 : True := trivial
theorem whole.tw6611539377112344024 : True := trivial
theorem whole.tw6612613915786651340 : True := trivial
theorem whole.tw6625591401657005825 : True := trivial
theorem whole.tw6677481401041580341 : True := trivial
theorem whole.tw6679801877992481514 : True := trivial
theorem whole.tw6711224856247384401 : True := trivial
theorem whole.tw6734874506966982255 : True := trivial
theorem whole.tw6750649090777595757 : True := trivial
theorem whole.tw675793542917168019 : True := trivial
theorem whole.tw6758007706158031737 : True := trivial
theorem whole.tw6766658173562982576 : True := trivial
theorem whole.tw6774593797627383584 : True := trivial
theorem whole.tw6774775609766916077 : True := trivial
theorem whole.tw6779701449201555220 : True := trivial
theorem whole.tw679095792406170707 : True := trivial
theorem whole.tw6795950696382679116 : True := trivial
theorem whole.tw6823266097380344784 : True := trivial
theorem whole.tw6831798877050662096 : True := trivial
theorem whole.tw6866068747796929802 : True := trivial
theorem whole.tw6888942637506950926 : True := trivial
theorem whole.tw6891315699540082446 : True := trivial
theorem whole.tw6896427876366098391 : True := trivial
theorem whole.tw6898337765569743076 : True := trivial
theorem whole.tw6915089677183239634 : True := trivial
theorem whole.tw691963410350683225 : True := trivial
theorem whole.tw6971620397769500929 : True := trivial
theorem whole.tw697334722855355308 : True := trivial
theorem whole.tw7056001396292377188 : True := trivial
theorem whole.tw7125036137928297414 : True := trivial
theorem whole.tw7125152430604801395 : True := trivial
theorem whole.tw7154100213019291727 : True := trivial
theorem whole.tw7154186093448923958 : True := trivial
theorem whole.tw7158488753437644409 : True := trivial
theorem whole.tw7181214704614307865 : True := trivial
theorem whole.tw7187317218736086229 : True := trivial
theorem whole.tw7248877203947682478 : True := trivial
theorem whole.tw7276013540153241084 : True := trivial
theorem whole.tw7280849871689594849 : True := trivial
theorem whole.tw7315993881563675004 : True := trivial
theorem whole.tw7359820020820443890 : True := trivial
theorem whole.tw7368006489180217709 : True := trivial
theorem whole.tw7386391073671214752 : True := trivial
theorem whole.tw7391549574342816922 : True := trivial
theorem whole.tw7435482016451815233 : True := trivial
theorem whole.tw7440899508696716974 : True := trivial
theorem whole.tw7452821578398259720 : True := trivial
theorem whole.tw7458241435200440592 : True := trivial
theorem whole.tw7470591436984971617 : True := trivial
theorem whole.tw7478749709654694138 : True := trivial
theorem whole.tw7488145167202986158 : True := trivial
theorem whole.tw7499365098147365621 : True := trivial
theorem whole.tw7545590854473540767 : True := trivial
theorem whole.tw7545654013535254480 : True := trivial
theorem whole.tw7576292583959916747 : True := trivial
theorem whole.tw7582116766257987118 : True := trivial
theorem whole.tw7582900045019172013 : True := trivial
theorem whole.tw7601072278947682838 : True := trivial
theorem whole.tw7645621925510333512 : True := trivial
theorem whole.tw7669669677095693358 : True := trivial
theorem whole.tw7689902935678670512 : True := trivial
theorem whole.tw772474843232632690 : True := trivial
theorem whole.tw7732644098369870955 : True := trivial
theorem whole.tw7749459868594991737 : True := trivial
theorem whole.tw7762256720603616171 : True := trivial
theorem whole.tw7787721845942389556 : True := trivial
theorem whole.tw7825112549076731031 : True := trivial
theorem whole.tw7856580471358416282 : True := trivial
theorem whole.tw7877845480710146401 : True := trivial
theorem whole.tw7885708016979292634 : True := trivial
theorem whole.tw7892903329919386008 : True := trivial
theorem whole.tw789556265725282662 : True := trivial
theorem whole.tw7904391299487568608 : True := trivial
theorem whole.tw7906611734251618119 : True := trivial
theorem whole.tw7908757660487913279 : True := trivial
theorem whole.tw7910221479046277610 : True := trivial
theorem whole.tw7925426705801168976 : True := trivial
theorem whole.tw7936284996118199345 : True := trivial
theorem whole.tw7952383044827225310 : True := trivial
theorem whole.tw7967871255840070022 : True := trivial
theorem whole.tw7978788361824508945 : True := trivial
theorem whole.tw7991549193987937947 : True := trivial
theorem whole.tw8011658993158656957 : True := trivial
theorem whole.tw801756464798357831 : True := trivial
theorem whole.tw803728761352460389 : True := trivial
theorem whole.tw8055778532778380201 : True := trivial
theorem whole.tw8077329512025694350 : True := trivial
theorem whole.tw8101450032967502455 : True := trivial
theorem whole.tw8102634817939251817 : True := trivial
theorem whole.tw8109663874093803249 : True := trivial
theorem whole.tw8181180424491326830 : True := trivial
theorem whole.tw8197379950578934166 : True := trivial
theorem whole.tw8203973303204277656 : True := trivial
theorem whole.tw8243020233432551205 : True := trivial
theorem whole.tw8257274053009572390 : True := trivial
theorem whole.tw8258574867067344367 : True := trivial
theorem whole.tw8259948450988206280 : True := trivial
theorem whole.tw8271556485288271006 : True := trivial
theorem whole.tw8289003193492261950 : True := trivial
theorem whole.tw8290753245796111759 : True := trivial
theorem whole.tw8309436690622926411 : True := trivial
theorem whole.tw8317765265413902994 : True := trivial
theorem whole.tw8341004590406740810 : True := trivial
theorem whole.tw8350250358471643572 : True := trivial
theorem whole.tw8351164730277109312 : True := trivial
theorem whole.tw8389592306716628391 : True := trivial
theorem whole.tw8403751301525005671 : True := trivial
theorem whole.tw842793390314483620 : True := trivial
theorem whole.tw843396670912023852 : True := trivial
theorem whole.tw8443025263604155638 : True := trivial
theorem whole.tw8444963059077079450 : True := trivial
theorem whole.tw8495578030972149916 : True := trivial
theorem whole.tw8496900606834724182 : True := trivial
theorem whole.tw8523286992835677893 : True := trivial
theorem whole.tw8528393544030916507 : True := trivial
theorem whole.tw8572516506043022915 : True := trivial
theorem whole.tw8579301627154863199 : True := trivial
theorem whole.tw8602141644225615130 : True := trivial
theorem whole.tw8615399842404961663 : True := trivial
theorem whole.tw8684032485159981719 : True := trivial
theorem whole.tw8719548228035378133 : True := trivial
theorem whole.tw8789054386453842027 : True := trivial
theorem whole.tw8799044985600393684 : True := trivial
theorem whole.tw8833083909733516365 : True := trivial
theorem whole.tw8868806382682364411 : True := trivial
theorem whole.tw8884531897199943920 : True := trivial
theorem whole.tw8894826161267586577 : True := trivial
theorem whole.tw8958426612096339740 : True := trivial
theorem whole.tw8961415085178454156 : True := trivial
theorem whole.tw8965215075514910880 : True := trivial
theorem whole.tw8983667203327932493 : True := trivial
theorem whole.tw9000908037299752229 : True := trivial
theorem whole.tw9016846152696716638 : True := trivial
theorem whole.tw9017100224179172412 : True := trivial
theorem whole.tw9018635070940762159 : True := trivial
theorem whole.tw9024608533772062355 : True := trivial
theorem whole.tw9033953771586226978 : True := trivial
theorem whole.tw9035394219717786629 : True := trivial
theorem whole.tw9036960110271754778 : True := trivial
theorem whole.tw9043093919020774792 : True := trivial
theorem whole.tw9046693723037758376 : True := trivial
theorem whole.tw905634021204347684 : True := trivial
theorem whole.tw9063790561628003831 : True := trivial
theorem whole.tw9070123692017013846 : True := trivial
theorem whole.tw9081442686682602634 : True := trivial
theorem whole.tw9088682870026954680 : True := trivial
theorem whole.tw9095261259357604559 : True := trivial
theorem whole.tw9109949925144535516 : True := trivial
theorem whole.tw9121730484126507938 : True := trivial
theorem whole.tw9142887217227649140 : True := trivial
theorem whole.tw9154937567484334560 : True := trivial
theorem whole.tw9170513070990267023 : True := trivial
theorem whole.tw9189751539129569556 : True := trivial
theorem whole.tw9200330197067421115 : True := trivial
theorem whole.tw9212966250080664162 : True := trivial
theorem whole.tw9227647233554483089 : True := trivial
theorem whole.tw9240418933035676598 : True := trivial
theorem whole.tw9242471422690250210 : True := trivial
theorem whole.tw9263590555730510648 : True := trivial
theorem whole.tw9275448389876633987 : True := trivial
theorem whole.tw9301873983451068159 : True := trivial
theorem whole.tw931279895210919617 : True := trivial
theorem whole.tw9315315907157715723 : True := trivial
theorem whole.tw9372551899067078669 : True := trivial
theorem whole.tw9385414077733418526 : True := trivial
theorem whole.tw9405643044250211355 : True := trivial
theorem whole.tw9406530864695525851 : True := trivial
theorem whole.tw9446046918361872579 : True := trivial
theorem whole.tw9449955787129754595 : True := trivial
theorem whole.tw9457907337654371817 : True := trivial
theorem whole.tw9464417701048127947 : True := trivial
theorem whole.tw948704589612583740 : True := trivial
theorem whole.tw949743934663060849 : True := trivial
theorem whole.tw9501391760213346845 : True := trivial
theorem whole.tw9507328141908164564 : True := trivial
theorem whole.tw9511164804395500317 : True := trivial
theorem whole.tw9519799797704210914 : True := trivial
theorem whole.tw9520642938864585524 : True := trivial
theorem whole.tw9614074434444955867 : True := trivial
theorem whole.tw962308168445528557 : True := trivial
theorem whole.tw9625973628771424018 : True := trivial
theorem whole.tw964911493779461333 : True := trivial
theorem whole.tw9649613761386221421 : True := trivial
theorem whole.tw9654072969724333583 : True := trivial
theorem whole.tw9685896690342822935 : True := trivial
theorem whole.tw969329471758531242 : True := trivial
theorem whole.tw9707250908836423824 : True := trivial
theorem whole.tw9722750020625992282 : True := trivial
theorem whole.tw9725988738643398560 : True := trivial
theorem whole.tw9733464779038806419 : True := trivial
theorem whole.tw974242676711936875 : True := trivial
theorem whole.tw9748834850448372353 : True := trivial
theorem whole.tw9753940524135748638 : True := trivial
theorem whole.tw978456291528864041 : True := trivial
theorem whole.tw9818944310502328695 : True := trivial
theorem whole.tw9838295914634562783 : True := trivial
theorem whole.tw9851385603074314742 : True := trivial
theorem whole.tw9884847805657258340 : True := trivial
theorem whole.tw9907439585923661828 : True := trivial
theorem whole.tw9945681253131214307 : True := trivial
theorem whole.tw9951143050096045611 : True := trivial
theorem whole.tw9988426361468213469 : True := trivial
theorem whole.tw9994479494313819776 : True := trivial
theorem whole.tw1993313380534732625 : True := trivial
theorem whole.tw9696679447291473457 : True := trivial
theorem rows44 : True := by
  w_top off
  (k_with "UnrEnd" => ((k_dflt (refine' unr_end0 ?F ?N ?hI ?_; (case F => k_asm); (case N => k_asm); (case hI => k_mem)); walk_say "TURN")))
  (k_with "compareOp NotEq str str" => ((k_here; (first | refine ne_own ?_ | refine ne_as ord112 ?_ | refine ne_as ord3 ?_); walk_say "OWN")))
  (k_with "call ref" => ((k_here; (with_reducible show wpAny _ _ (call (Value.ref 1012) [Value.ref _]) _ _ _); k_dflt (refine' right_use right_all ?k1 ?k2 ?k3 ?k4 ?k5 ?kK ?kp ?ko ?kr ?kd ?ku ?_; (case k2 => k_asm); (case k1 => k_asm); (case k3 => k_asm); (case k4 => k_asm); (case k5 => k_asm); (case kK => first | exact rfl | assumption); (case kp => k_mem); (case ko => first | with_reducible assumption | (refine ⟨_, _, _, _, _, rfl, ?_, ?_, ?_⟩ <;> first | exact big_ok _ _ | exact fmod_lo _ (by decide) | exact fmod_hi _ (by decide) | omega)); (case kr => k_all); (case kd => ktr_room); (case ku => ktr_units); k_whole); intro o' h' tk' hso' F' N'; (try k_sweep); (try k_fold); (try dsimp only); walk_say "RIGHT")))
  trivial
set_option maxHeartbeats 40000000 in
set_option Elab.async true in
theorem whole : PySem.Challenge.rw_xm0767_01.Holds := by
  w_on; o_law; k_head; (case hw => w_witness2)
  w_strict k_go0
  all_goals (try k_fold)
  rename Frag.In _ _ => KX9
  have KY9 : (Mine.kept.heap_1 _).In _ := KX9
  clear KX9
  all_goals k_steps
end
end Mine
theorem PySem.Challenge.cw_xm0767_01_holds : PySem.Challenge.rw_xm0767_01.Holds :=
  Mine.whole
