import PyProof.Rows.All
import Wide.All
import OpenK.KSplit
import OpenK.KNot
import OpenK.KApp
import KE.KPop
import KE.KListMore
import KE.RegKMod
import KE.KDictOf
import KE.KDictMeth
import KE.KEqSeq
import KE.KSlice
import KE.GnPush
import KE.KSorted
import KE.KJoinElse
import KE.RegTryLedger
import KE.KTops
import KE.RegKSuper
import KE.KSort
import KE.KDictLoop
import KE.RegLcTurns
import KE.RegLcAnyAll
import KE.KCat
import KE.KTemps
import KE.KTup
import KE.KxMul
import KE.KxSplit
import KE.KxIndex
import KE.KxText
import KE.KCells
import KE.KPassesOwn
import KE.RegKIsNot
import KE.KTempsTwo
import KE.KSetInts
import KE.KSortedL
import KE.KxBytes
import KE.KClos
import KE.KNestStore
import KE.KOwnIter
import KE.KStopIter
import KE.RegKBase
import KE.KDictOne
import KE.RegKMathG
import KE.KDictAny
import KE.RegKCallOwn
import KE.KSliceW
import KE.KxDecode
import KE.RegKMathGB
import KE.KLam
import KE.KDictBranch
import KE.KTree
import KE.KTreeB
import KE.KNestM
import KE.KDflt
import KE.KOwnIterCall
import KE.KSortedM
import KE.KTurns
import KE.KEqText
import KE.KxLen
import KE.RegKMathGC
import KE.KIsClose
import KE.KEqDict
import KE.KDisp
import KE.KDictAnyGet
import KE.KDictObj
import KE.KSetIn
import KE.KRevSl
import KE.KEqDeep
import KE.KAnyBase
import KE.KBoundM
import KE.KWhile
import KE.KRevIter
import KE.KCount
import KE.KTreeR
import KE.KxStill
import KE.KFinally
import KE.KTopLam
import KE.KWithOwn
import KE.KCases
import KE.KOpsOwn
import KE.KDictNew
import KE.KDictList
import KE.KDictIter
import KE.RegKUnpackStar
import KE.KSortAsk
import KE.KWhileD
import KE.KLcTest
import KE.KSumEnd
import KE.KPopAny
import KE.KGrown
import KE.KItemAt
import KE.KTextLit
import KE.KTupDict
import KE.KFmtOwn
import KE.KUnrMore
import KE.KMinKey
import KE.KTurnsDict
import KE.KExtendNil
import KE.KMethU
import KE.BytesMul
import KE.KCompFold
import KE.KDictSum
import KE.KDictName
import KE.KDictSym
import KE.KTurnsAny
import KE.KDictAnyTail
import KE.RegKStar
import KE.RegKParD
import KE.RegKTupTruth
import KE.RegKTupSum
import KE.KCallJoin
import KE.KMethJoin
import KE.KPathRangeEnd
import KE.KStateW
import KE.RegKParC
import KE.KxWritten
import KE.KxAdd
import KE.KxAffix
import KE.KxField
import KE.RegKIsAll
import KE.RegKMatchCls
import KE.KLcPair
import KE.RegKTryDeep
import KE.KJoinL
import KE.RegKNeg
import KE.KxPercentT
import KE.KBytesCut
import KE.KCellOne
import KE.KCompIf
import KE.KMenu
import KE.KxFormat
import KE.KTypeName
import KE.KCompText
import KE.BytesMulAny
import KE.KDictSymLen
import KE.KSortTup
import KE.KPairAssign
import KE.KTypeOf
import KE.KFinEnd
import KE.KMulAny
import KE.KBytesMenu
import KE.KTextDict
import KE.KPathShort
import KE.KSplitRange
import KE.KKinds
import KE.KxPart
import KE.KRangeItem
import KE.KDictLetter
import KE.KRangeNest
import KE.KSetAt
import KE.KWords
import KE.KxTruthy
import KE.KPairRows
import KE.KBytesMore
import KE.RegKStateDown
import KE.KItemsList
import KE.KRangePlain
import KE.KStateGiven
import KE.KBitsMul
import KE.KTextTable
import KE.KForList
import KE.KIdxIf
import KE.KAssignIn
import KE.KFirstTurn
import KE.KOwnRange
import KE.KLooksOwn
import KE.KDictWord
import KE.KStrOpen
import KE.KTurnsGround
import KE.KListEnd
import KE.KSearch
import KE.KFinFacts
import KE.RegKTryOn
import KE.KCenter
import KE.KStrWords
import KE.KStateTextK
import KE.KBools
import KE.KStateWGiven
import KE.KData
import KE.KCallTup
import KE.KTreeD
import KE.KTreeF
import KE.KEndWord
import KE.KStateBytes
import KE.KRangeEnd
import KE.KOf
import KE.KRepItem
import KE.KListLetter
import KE.KSliceSign
import KE.KCallBy
import KE.KToBytes
import KE.KPathText
import KE.KMinBuiltin
import KE.KFromBytes
import KE.KEqDat
import KE.KBytesUnr
import KE.KIsBytes
import KE.KCallRec
import KE.KEndW
import KE.RegLGe
import KE.RegLGeC
import Wide.FinOn
import PySem.Challenge.RW_pc0069_01
open PySem PySem.W PySem.Calls PyProof.Rows
set_option Elab.async false
set_option linter.all false
namespace Mine
local macro_rules | `(tactic| walk_at $s:str) => `(tactic| k_extra $s)
section -- Hd
theorem rst_Hd : True := by
  w_top off
  trivial
open PySem PySem.W PyProof.Rows
/-- all but the places 0, 34, 53 of a list -/
noncomputable def take3 {α : Type} (l : List α) : List α := (l.drop 1).take 33 ++ ((l.drop 35).take 18 ++ l.drop 54)
set_option maxRecDepth 100000 in
/-- the row's program without its rows that name the module -/
noncomputable def vwS : { q : Program // q = { PySem.Challenge.pw_pc0069_01 with main := { PySem.Challenge.pw_pc0069_01.main with body := take3 PySem.Challenge.pw_pc0069_01.main.body } } } := by
  refine ⟨?q, ?h⟩
  case h =>
    delta PySem.Challenge.pw_pc0069_01
    dsimp only [take3, List.take, List.drop, List.append, List.cons_append, List.nil_append]
    exact rfl
noncomputable def vw : Program := vwS.1
noncomputable abbrev loose3 : List Str := [Str.ofString "AHEAD", Str.ofString "MONTHS", Str.ofString "WEEK_DAYS"]
/-- names the head's goal: proves nothing by itself -/
theorem p0 {r : OpenRow} {q : Program} {loose : List Str} {d : DefRec} {kwd : List (Str × Expr)} (H : Hook) (hdef : defOf q r.name = some (d, kwd)) (hw : r.toRowW.promised)
    (hc : WalkO q loose (XL q []) H.says r.toRowW d kwd (fun f vs => PySem.call f vs) ∧ r.Holds) : r.Holds := hc.2
noncomputable def TofW {B C D : Prop} (_ : B ∧ C → D) : Prop := B
section
local macro_rules | `(tactic| o_head $H) => `(tactic| refine p0 (q := vw) (loose := loose3) $H (by rfl) ?hw ?hc)
set_option maxRecDepth 100000 in
set_option maxHeartbeats 0 in
open_top hd for PySem.Challenge.rw_pc0069_01.row
end
end

section -- A0
theorem rst_A0 : True := by
  w_top off
  trivial
open PySem PySem.W PySem.Calls PyProof.Rows
noncomputable abbrev PP : Program := PySem.Challenge.rw_pc0069_01.row.prog
noncomputable abbrev LZ : List Str := looseW vw loose3

noncomputable abbrev Led : Type := List (Addr × Obj)
noncomputable def intv (i : Int) (r : Value) : Prop := ∃ t, r = .int i t
noncomputable def strv (x : Str) (r : Value) : Prop := ∃ t, r = .str x t
/-- where a call stands: a function's frame, at most n calls deep from here -/
noncomputable def Pl (w : World) (n : Nat) (A : Around) (h₀ : Heap) (L : Addr) : Prop :=
  ∃ (mean : ExcName → Option Value) (mg mb : Str → Option Value) (dp un : Nat) (gd : Option (List Code)) (cn : Str) (cs : Scope) (a : Addr) (ccd : Value) (cl : List (Str × Addr)) (outer : List Env) (A₀ : Around) (base : Heap),
    A = ktrTop dp un gd cn cs L a ccd cl outer ∧ Below A₀ base outer h₀ ∧ (hd.heap_1 w.params).In h₀ ∧ Top vw LZ mean mg mb h₀ ∧ cs.kind = .function ∧ dp + n < recursionLimit ∧ un + 8 * n + 200 < cLine
theorem Pl.le {w : World} {n k : Nat} {A : Around} {h₀ : Heap} {L : Addr} (G : Pl w k A h₀ L) (hn : Nat.ble n k = true) : Pl w n A h₀ L := by
  have hn := Nat.le_of_ble_eq_true hn
  obtain ⟨mean, mg, mb, dp, un, gd, cn, cs, a, ccd, cl, outer, A₀, base, e, B, X, T, hk, hd, hu⟩ := G
  exact ⟨mean, mg, mb, dp, un, gd, cn, cs, a, ccd, cl, outer, A₀, base, e, B, X, T, hk, by (first | lia | omega), by (first | lia | omega)⟩
theorem Pl.in {w : World} {n : Nat} {A : Around} {h₀ : Heap} {L : Addr} (G : Pl w n A h₀ L) : (hd.heap_1 w.params).In h₀ := by
  obtain ⟨mean, mg, mb, dp, un, gd, cn, cs, a, ccd, cl, outer, A₀, base, e, B, X, T, hk, hd, hu⟩ := G
  exact X
theorem pl_step {w : World} {n dp un : Nat} {gd : Option (List Code)} {cn qual : Str} {cs scope : Scope} {L L' a f : Addr} {ccd cdv : Value} {cl cl' : List (Str × Addr)} {outer : List Env} {base g : Heap} {mean : ExcName → Option Value} {mg mb : Str → Option Value}
    (B : Below (ktrTop dp un gd cn cs L a ccd cl outer) base (envX cn cs L a ccd cl :: outer) g) (X : (hd.heap_1 w.params).In g) (T : Top vw LZ mean mg mb g) (hk : scope.kind = .function) (hd : dp + (n + 1) < recursionLimit) (hu : un + 8 * (n + 1) + 200 < cLine) :
    Pl w n (Around.deeper (ktrTop dp un gd cn cs L a ccd cl outer) (envX qual scope L' f cdv cl')) g L' :=
  ⟨mean, mg, mb, dp + 1, un + 3, gd, qual, scope, f, cdv, cl', envX cn cs L a ccd cl :: outer, _, base, rfl, B, X, T, hk, by (first | lia | omega), by (first | lia | omega)⟩
/-- a call of the def at f that stands in the ledger news -/
noncomputable def CtG (w : World) (f : Addr) (n : Nat) (vs : List Value) (news : Led) (P : Value → Led → Prop) : Prop :=
  ∀ (A : Around) (h₀ : Heap) (L : Addr) (m : Str → Option Value) (h : Heap) (g : Array GenState) (d : Drawn) (k : Nat) (o : OsState) (Q E : Value → Shared → Prop), Pl w n A h₀ L → Fr h₀ L h m → News h₀ L h news →
    (∀ r h' k' n', P r n' → Fr h₀ L h' m → News h₀ L h' n' → Q r ⟨h', g, d, k', o⟩) → wpAny (model PP w) A (call (.ref f) vs) Q E ⟨h, g, d, k, o⟩
/-- a call of the def at f, from any state: what comes back is told, the ledger stands -/
noncomputable def Ctr (w : World) (f : Addr) (n : Nat) (vs : List Value) (P : Value → Prop) : Prop := ∀ news, CtG w f n vs news (fun r n' => P r ∧ n' = news)
/-- the call behind its arguments -/
noncomputable def CallK (w : World) (A : Around) (f : Value) (vs : List Value) (Q E : Value → Shared → Prop) (s : Shared) : Prop := (hd.heap_1 w.params).In s.heap ∧ wpAny (model PP w) A (call f vs) Q E s
theorem use_g {w : World} {f : Addr} {n k : Nat} {vs : List Value} {news : Led} {P : Value → Led → Prop} {A : Around} {h₀ h : Heap} {L : Addr} {m : Str → Option Value} {g : Array GenState} {d : Drawn} {tk : Nat} {o : OsState} {Q E : Value → Shared → Prop}
    (C : CtG w f n vs news P) (G : Pl w k A h₀ L) (hn : Nat.ble n k = true) (F : Fr h₀ L h m) (N : News h₀ L h news)
    (hret : ∀ r h' k' n', P r n' → Fr h₀ L h' m → News h₀ L h' n' → Q r ⟨h', g, d, k', o⟩) : CallK w A (.ref f) vs Q E ⟨h, g, d, tk, o⟩ :=
  ⟨G.in.keeps F.keep, C _ _ _ _ _ _ _ _ _ _ _ (G.le hn) F N hret⟩
section
variable {w : World} {f : Addr} {n k : Nat} {vs : List Value} {news : Led} {A : Around} {h₀ h : Heap} {L : Addr} {m : Str → Option Value} {g : Array GenState} {d : Drawn} {tk : Nat} {o : OsState} {Q E : Value → Shared → Prop}
theorem use_ctr {P : Value → Prop} (C : Ctr w f n vs P) (G : Pl w k A h₀ L) (hn : Nat.ble n k = true) (F : Fr h₀ L h m) (N : News h₀ L h news)
    (hret : ∀ (r : Value) (h' : Heap) (tk' : Nat), P r → Fr h₀ L h' m → News h₀ L h' news → Q r ⟨h', g, d, tk', o⟩) : CallK w A (.ref f) vs Q E ⟨h, g, d, tk, o⟩ :=
  use_g (C news) G hn F N (fun r h' k' n' hp F N => hret r h' k' hp.1 F (hp.2 ▸ N))
theorem use_ctrX {V : Tok → Value} (C : Ctr w f n vs (fun r => ∃ t, r = V t)) (G : Pl w k A h₀ L) (hn : Nat.ble n k = true) (F : Fr h₀ L h m) (N : News h₀ L h news)
    (hret : ∀ (t : Tok) (h' : Heap) (tk' : Nat), Fr h₀ L h' m → News h₀ L h' news → Q (V t) ⟨h', g, d, tk', o⟩) : CallK w A (.ref f) vs Q E ⟨h, g, d, tk, o⟩ :=
  use_ctr C G hn F N (fun r h tk hp => by obtain ⟨t, rfl⟩ := hp; exact hret t h tk)
theorem use_ctrV {v : Value} (C : Ctr w f n vs (fun r => r = v)) (G : Pl w k A h₀ L) (hn : Nat.ble n k = true) (F : Fr h₀ L h m) (N : News h₀ L h news)
    (hret : ∀ (h' : Heap) (tk' : Nat), Fr h₀ L h' m → News h₀ L h' news → Q v ⟨h', g, d, tk', o⟩) : CallK w A (.ref f) vs Q E ⟨h, g, d, tk, o⟩ :=
  use_ctr C G hn F N (fun r h tk hp => by subst hp; exact hret h tk)
end
theorem code_defA {prog : Program} {p : Program} {loose : List Str} {mean : ExcName → Option Value} {mg mb : Str → Option Value} {w : World} {A₀ A : Around} {s : Shared} {base h₀ : Heap} {L : Addr} {m : Str → Option Value} {K : Frag} {news : List (Addr × Obj)}
    {env : Env} {outer : List Env} {R : Result → Shared → Prop} {name qual : Str} {params : Arguments} {body : List Stmt} {scope : Scope} {dV kV doc pm cdv ct oc : Value} {an od : Option Addr} {osl : Array (Option Value)} {f : Addr} {args : Args} {binds : List (Str × Value)}
    (B : Below A₀ base outer h₀) (F : Fr h₀ L s.heap m) (X₀ : K.In h₀) (N : News h₀ L s.heap news) (T : Top p loose mean mg mb h₀) (hA : A.frames = some (env :: outer)) (hf : env.frame = some L) (hke : env.scope.kind = .function)
    (ho : K.lookup f = some ⟨oc, od, .func (fnOf name qual params body scope dV kV doc pm an cdv ct), osl⟩) (hcd : codeIn K cdv qual = true) (hroom : A.depth < recursionLimit)
    (hbind : BindsTo s (fnOf name qual params body scope dV kV doc pm an cdv ct) args binds) (hloc : ∀ y ∈ binds, scope.names.lookup y.1 = some .local)
    (h : ∀ g L' h₁, (∀ b o, b ∉ news.map (·.1) → s.heap.get? b = some o → g.get? b = some o) → Fr h₀ L g m → Fr g L' h₁ (fun y => binds.reverse.lookup y) → News g L' h₁ news → Below A base (env :: outer) g → K.In g → Top p loose mean mg mb g →
      wpAny (model prog w) (A.deeper (envOf qual scope L' f cdv)) (execs body (envOf qual scope L' f cdv))
        (fun fl s' => LeaveK h₀ L m g R (match fl with | .ret v => v | _ => .none) s')
        (fun e s' => wpAny (model prog w) (A.deeper (envOf qual scope L' f cdv)) (leaving (envOf qual scope L' f cdv) e) (fun _ s'' => R (.error e) s'') (fun e' s'' => R (.error e') s'') s')
        { s with heap := h₁, toks := s.toks + binds.length })
    (hco : scope.isCoroutine = false) (hgen : scope.isGenerator = false) (hk : scope.kind = .function)
    (hcell : ∀ x ∈ scope.names, x.2 ≠ .cell) : codeAny (model prog w) A (.call (.ref f) args) R s := by
  obtain ⟨FG, BG, st, lv⟩ := groundX (R := R) B F N hA hf hke
  refine codeAny_call_def (fd := fnX name qual params body scope [] dV kV doc pm an cdv ct) (body := body) (binds := binds) hroom ((X₀.keeps F.keep) _ _ ho) rfl (T.nolimit.keeps F.keep) (codeRec_of (X₀.keeps F.keep) hcd) rfl hbind hcell hloc (fun h₁ hns hk₁ => ?_) hco hgen hk
  exact wpAny_mono (h _ s.heap.objs.size h₁ (fun b o n e => hideAll_get _ e n) FG ⟨hns, fun b o e => hk₁ b o (of_hideAll _ e), Nat.le_of_eq (hideAll_size _ _)⟩
    (fun p hp => ⟨hk₁ _ _ (N p hp).1, Nat.ne_of_lt (Heap.lt_size (N p hp).1), hideAll_none _ (List.mem_map_of_mem hp)⟩) BG (X₀.keeps st) (T.keeps st)) (fun fl s' hl => lv _ _ hl) fun _ _ y => y
theorem ctg_enter {w : World} {f : Addr} {n : Nat} {vs : List Value} {name qual : Str} {params : Arguments} {body : List Stmt} {scope : Scope} {dV kV doc pm cdv ct oc : Value} {an od : Option Addr} {osl : Array (Option Value)} {binds bs : List (Str × Value)} {own : Led} {A : Around} {h₀ : Heap} {L0 : Addr} {m0 : Str → Option Value} {hh : Heap} {gs : Array GenState} {d : Drawn} {k : Nat} {o : OsState} {Q0 E0 : Value → Shared → Prop}
    (ho : (hd.heap_1 w.params).lookup f = some ⟨oc, od, .func (fnOf name qual params body scope dV kV doc pm an cdv ct), osl⟩) (hcd : codeIn (hd.heap_1 w.params) cdv qual = true)
    (hbind : bindArgs (fnOf name qual params body scope dV kV doc pm an cdv ct) ⟨vs, []⟩ = pure binds) (hloc : (binds.all fun x => decide (scope.names.lookup x.1 = some .local)) = true) (hbs : binds.reverse = bs)
    (hco : scope.isCoroutine = false) (hgen : scope.isGenerator = false) (hk : scope.kind = .function) (hcell : ∀ x ∈ scope.names, x.2 ≠ .cell) (G : Pl w (n + 1) A h₀ L0) (F0 : Fr h₀ L0 hh m0) (N0 : News h₀ L0 hh own)
    (hw : ∀ (mean : ExcName → Option Value) (mg mb : Str → Option Value) (dp un : Nat) (gd : Option (List Code)) (outer : List Env) (A₀ : Around) (base g : Heap) (L : Addr) (h : Heap) (tk : Nat) (Q : Flow → Shared → Prop),
      let A9 := ktrTop dp un gd qual scope L f cdv [] outer
      Pl w n A9 g L → A9.units + 64 < cLine → Below A₀ base outer g → Fr g L h (fun y => List.lookup y bs) → (hd.heap_1 w.params).In g → News g L h own → Top vw LZ mean mg mb g → dp + n < recursionLimit → un + 8 * n + 200 < cLine → (∀ b ob, b ∉ own.map (·.1) → hh.get? b = some ob → g.get? b = some ob) →
      (∀ fl h' k' n' m', Fr g L h' m' → News g L h' n' → (Fr h₀ L0 h' m0 → News h₀ L0 h' n' → Q0 (match fl with | .ret v => v | _ => .none) ⟨h', gs, d, k', o⟩) → Q fl ⟨h', gs, d, k', o⟩) →
      wpAny (model PP w) A9 (execs body (envX qual scope L f cdv [])) Q (fun _ _ => False) ⟨h, gs, d, tk, o⟩) :
    wpAny (model PP w) A (call (.ref f) vs) Q0 E0 ⟨hh, gs, d, k, o⟩ := by
  obtain ⟨mean, mg, mb, dp, un, gd, cn, cs, a, ccd, cl, outer, A₀, base, rfl, B, X, T, hks, hdp, hun⟩ := G
  refine wpAny_call (code_defA (s := ⟨hh, gs, d, k, o⟩) (env := envX cn cs L0 a ccd cl) (outer := outer) B F0 X N0 T rfl rfl hks ho hcd (show dp < recursionLimit by (first | lia | omega)) (BindsTo.of_eq hbind) (locs hloc) (fun g L' h1 hfr FG F' N' B' X' T' => ?_) hco hgen hk hcell)
  subst hbs
  refine wpAny_mono (hw mean mg mb (dp + 1) (un + 3) gd _ _ base g L' h1 _ _ (pl_step B' X' T' hk hdp hun) (show un + 3 + 64 < cLine by (first | lia | omega)) B' F' X' N' T' (by (first | lia | omega)) (by (first | lia | omega)) hfr ?_) (fun _ _ q => q) (fun _ _ q => q.elim)
  exact fun fl h' k' n' m' F9 N9 hq => leaveK_ F9 N9 hq
theorem ctr_enter {w : World} {f : Addr} {n : Nat} {vs : List Value} {name qual : Str} {params : Arguments} {body : List Stmt} {scope : Scope} {dV kV doc pm cdv ct oc : Value} {an od : Option Addr} {osl : Array (Option Value)} {binds bs : List (Str × Value)} {P : Value → Prop}
    (ho : (hd.heap_1 w.params).lookup f = some ⟨oc, od, .func (fnOf name qual params body scope dV kV doc pm an cdv ct), osl⟩) (hcd : codeIn (hd.heap_1 w.params) cdv qual = true)
    (hbind : bindArgs (fnOf name qual params body scope dV kV doc pm an cdv ct) ⟨vs, []⟩ = pure binds) (hloc : (binds.all fun x => decide (scope.names.lookup x.1 = some .local)) = true) (hbs : binds.reverse = bs)
    (hco : scope.isCoroutine = false) (hgen : scope.isGenerator = false) (hk : scope.kind = .function) (hcell : ∀ x ∈ scope.names, x.2 ≠ .cell)
    (hw : ∀ (mean : ExcName → Option Value) (mg mb : Str → Option Value) (dp un : Nat) (gd : Option (List Code)) (outer : List Env) (A₀ : Around) (base g : Heap) (L : Addr) (h : Heap) (gs : Array GenState) (d : Drawn) (tk : Nat) (o : OsState) (Q : Flow → Shared → Prop),
      let A9 := ktrTop dp un gd qual scope L f cdv [] outer
      Pl w n A9 g L → A9.units + 64 < cLine → Below A₀ base outer g → Fr g L h (fun y => List.lookup y bs) → (hd.heap_1 w.params).In g → News g L h [] → Top vw LZ mean mg mb g → dp + n < recursionLimit → un + 8 * n + 200 < cLine →
      (∀ (r : Value) (h' : Heap) (k' : Nat) {m' : Str → Option Value}, P r → Fr g L h' m' → Q (.ret r) ⟨h', gs, d, k', o⟩) →
      wpAny (model PP w) A9 (execs body (envX qual scope L f cdv [])) Q (fun _ _ => False) ⟨h, gs, d, tk, o⟩) : Ctr w f (n + 1) vs P :=
  fun news A h₀ L0 m0 hh gs d k o Q0 E0 G F N hret => ctg_enter ho hcd hbind hloc hbs hco hgen hk hcell G F News.nil (fun mean mg mb dp un gd outer A₀ base g L h tk Q G9 U B F9 X N9 T hd hu hfr r1 => hw mean mg mb dp un gd outer A₀ base g L h gs d tk o Q G9 U B F9 X N9 T hd hu
    (fun r h' k' m' hp F' => r1 (.ret r) h' k' [] m' F' News.nil (fun kF _ => hret r h' k' news ⟨hp, rfl⟩ kF (fun p hp => ⟨F'.keep _ _ (hfr _ _ (fun q => nomatch q) (N p hp).1), (N p hp).2⟩))))
theorem back_nil {h₀ hh g h' : Heap} {L0 L : Addr} {m' : Str → Option Value} {news : Led} (hfr : ∀ b ob, b ∉ ([] : Led).map (·.1) → hh.get? b = some ob → g.get? b = some ob) (F' : Fr g L h' m') (N : News h₀ L0 hh news) : News h₀ L0 h' news :=
  fun p hp => ⟨F'.keep _ _ (hfr _ _ (fun q => nomatch q) (N p hp).1), (N p hp).2⟩
theorem back_one {h₀ hh g h' : Heap} {L0 L : Addr} {m' : Str → Option Value} {news : Led} {p : Addr × Obj} (hfr : ∀ b ob, b ∉ [p].map (·.1) → hh.get? b = some ob → g.get? b = some ob) (F' : Fr g L h' m') (N : News h₀ L0 hh news) (hp : p ∈ news) (N1 : News h₀ L0 h' [p]) : News h₀ L0 h' news := fun q hq => by
  by_cases e : q.1 = p.1
  · have a := (N q hq).1
    have b := (N p hp).1
    rw [e, b] at a
    have c : q = p := Prod.ext e (Option.some.inj a).symm
    rw [c]; exact N1 p (List.mem_singleton.mpr rfl)
  · exact ⟨F'.keep _ _ (hfr _ _ (by simpa using e) (N q hq).1), (N q hq).2⟩
theorem app_news {h₀ h : Heap} {L : Addr} {a b : Led} (N : News h₀ L h a) (M : News h₀ L h b) : News h₀ L h (a ++ b) := fun p hp => (List.mem_append.mp hp).elim (N p) (M p)
theorem one_news {h₀ h : Heap} {L : Addr} {news : Led} {p : Addr × Obj} (N : News h₀ L h news) (hp : p ∈ news) : News h₀ L h [p] := fun q hq => by rw [List.mem_singleton.mp hq]; exact N _ hp
/-- a call that comes back with new objects -/
noncomputable def CtrN (w : World) (f : Addr) (n : Nat) (vs : List Value) (P : Value → Led → Prop) : Prop := ∀ news, CtG w f n vs news (fun r n' => ∃ add, P r add ∧ n' = add ++ news)
theorem use_ctrN {w : World} {f : Addr} {n k : Nat} {vs : List Value} {news : Led} {A : Around} {h₀ h : Heap} {L : Addr} {m : Str → Option Value} {g : Array GenState} {d : Drawn} {tk : Nat} {o : OsState} {Q E : Value → Shared → Prop} {P : Value → Led → Prop}
    (C : CtrN w f n vs P) (G : Pl w k A h₀ L) (hn : Nat.ble n k = true) (F : Fr h₀ L h m) (N : News h₀ L h news)
    (hret : ∀ (r : Value) (add : Led) (h' : Heap) (tk' : Nat), P r add → Fr h₀ L h' m → News h₀ L h' (add ++ news) → Q r ⟨h', g, d, tk', o⟩) : CallK w A (.ref f) vs Q E ⟨h, g, d, tk, o⟩ :=
  use_g (C news) G hn F N (fun r h' k' n' hp F N => by obtain ⟨add, hp, rfl⟩ := hp; exact hret r add h' k' hp F N)
/-- a call that reads one object of the ledger -/
noncomputable def CtrM (w : World) (f : Addr) (n : Nat) (vs : List Value) (q : Addr) (ob : Obj) (P : Value → Prop) : Prop := ∀ news, (q, ob) ∈ news → CtG w f n vs news (fun r n' => P r ∧ n' = news)
section
variable {w : World} {f : Addr} {n k : Nat} {vs : List Value} {q : Addr} {ob : Obj} {news : Led} {A : Around} {h₀ h : Heap} {L : Addr} {m : Str → Option Value} {g : Array GenState} {d : Drawn} {tk : Nat} {o : OsState} {Q E : Value → Shared → Prop}
theorem use_ctrMX {V : Tok → Value} (C : CtrM w f n vs q ob (fun r => ∃ t, r = V t)) (G : Pl w k A h₀ L) (hn : Nat.ble n k = true) (F : Fr h₀ L h m) (N : News h₀ L h news) (hq : (q, ob) ∈ news)
    (hret : ∀ (t : Tok) (h' : Heap) (tk' : Nat), Fr h₀ L h' m → News h₀ L h' news → Q (V t) ⟨h', g, d, tk', o⟩) : CallK w A (.ref f) vs Q E ⟨h, g, d, tk, o⟩ :=
  use_g (C news hq) G hn F N (fun r h' k' n' hp F' N' => by obtain ⟨⟨t, rfl⟩, rfl⟩ := hp; exact hret t h' k' F' N')
theorem use_ctrMV {v : Value} (C : CtrM w f n vs q ob (fun r => r = v)) (G : Pl w k A h₀ L) (hn : Nat.ble n k = true) (F : Fr h₀ L h m) (N : News h₀ L h news) (hq : (q, ob) ∈ news)
    (hret : ∀ (h' : Heap) (tk' : Nat), Fr h₀ L h' m → News h₀ L h' news → Q v ⟨h', g, d, tk', o⟩) : CallK w A (.ref f) vs Q E ⟨h, g, d, tk, o⟩ :=
  use_g (C news hq) G hn F N (fun r h' k' n' hp F' N' => by obtain ⟨rfl, rfl⟩ := hp; exact hret h' k' F' N')
end
theorem ctrN_enter {w : World} {f : Addr} {n : Nat} {vs : List Value} {name qual : Str} {params : Arguments} {body : List Stmt} {scope : Scope} {dV kV doc pm cdv ct oc : Value} {an od : Option Addr} {osl : Array (Option Value)} {binds bs : List (Str × Value)} {P : Value → Led → Prop}
    (ho : (hd.heap_1 w.params).lookup f = some ⟨oc, od, .func (fnOf name qual params body scope dV kV doc pm an cdv ct), osl⟩) (hcd : codeIn (hd.heap_1 w.params) cdv qual = true)
    (hbind : bindArgs (fnOf name qual params body scope dV kV doc pm an cdv ct) ⟨vs, []⟩ = pure binds) (hloc : (binds.all fun x => decide (scope.names.lookup x.1 = some .local)) = true) (hbs : binds.reverse = bs)
    (hco : scope.isCoroutine = false) (hgen : scope.isGenerator = false) (hk : scope.kind = .function) (hcell : ∀ x ∈ scope.names, x.2 ≠ .cell)
    (hw : ∀ (mean : ExcName → Option Value) (mg mb : Str → Option Value) (dp un : Nat) (gd : Option (List Code)) (outer : List Env) (A₀ : Around) (base g : Heap) (L : Addr) (h : Heap) (gs : Array GenState) (d : Drawn) (tk : Nat) (o : OsState) (Q : Flow → Shared → Prop),
      let A9 := ktrTop dp un gd qual scope L f cdv [] outer
      Pl w n A9 g L → A9.units + 64 < cLine → Below A₀ base outer g → Fr g L h (fun y => List.lookup y bs) → (hd.heap_1 w.params).In g → News g L h [] → Top vw LZ mean mg mb g → dp + n < recursionLimit → un + 8 * n + 200 < cLine →
      (∀ (r : Value) (add : Led) (h' : Heap) (k' : Nat) {m' : Str → Option Value}, P r add → Fr g L h' m' → News g L h' add → Q (.ret r) ⟨h', gs, d, k', o⟩) →
      wpAny (model PP w) A9 (execs body (envX qual scope L f cdv [])) Q (fun _ _ => False) ⟨h, gs, d, tk, o⟩) : CtrN w f (n + 1) vs P :=
  fun news A h₀ L0 m0 hh gs d k o Q0 E0 G F N hret => ctg_enter ho hcd hbind hloc hbs hco hgen hk hcell G F News.nil (fun mean mg mb dp un gd outer A₀ base g L h tk Q G9 U B F9 X N9 T hd hu hfr r1 => hw mean mg mb dp un gd outer A₀ base g L h gs d tk o Q G9 U B F9 X N9 T hd hu
    (fun r add h' k' m' hp F' N' => r1 (.ret r) h' k' add m' F' N' (fun kF kN => hret r h' k' _ ⟨add, hp, rfl⟩ kF (app_news kN (back_nil hfr F' N)))))
theorem ctrM_enter {w : World} {f : Addr} {n : Nat} {vs : List Value} {name qual : Str} {params : Arguments} {body : List Stmt} {scope : Scope} {dV kV doc pm cdv ct oc : Value} {an od : Option Addr} {osl : Array (Option Value)} {binds bs : List (Str × Value)} {q : Addr} {ob : Obj} {P : Value → Prop}
    (ho : (hd.heap_1 w.params).lookup f = some ⟨oc, od, .func (fnOf name qual params body scope dV kV doc pm an cdv ct), osl⟩) (hcd : codeIn (hd.heap_1 w.params) cdv qual = true)
    (hbind : bindArgs (fnOf name qual params body scope dV kV doc pm an cdv ct) ⟨vs, []⟩ = pure binds) (hloc : (binds.all fun x => decide (scope.names.lookup x.1 = some .local)) = true) (hbs : binds.reverse = bs)
    (hco : scope.isCoroutine = false) (hgen : scope.isGenerator = false) (hk : scope.kind = .function) (hcell : ∀ x ∈ scope.names, x.2 ≠ .cell)
    (hw : ∀ (mean : ExcName → Option Value) (mg mb : Str → Option Value) (dp un : Nat) (gd : Option (List Code)) (outer : List Env) (A₀ : Around) (base g : Heap) (L : Addr) (h : Heap) (gs : Array GenState) (d : Drawn) (tk : Nat) (o : OsState) (Q : Flow → Shared → Prop),
      let A9 := ktrTop dp un gd qual scope L f cdv [] outer
      Pl w n A9 g L → A9.units + 64 < cLine → Below A₀ base outer g → Fr g L h (fun y => List.lookup y bs) → (hd.heap_1 w.params).In g → News g L h [(q, ob)] → Top vw LZ mean mg mb g → dp + n < recursionLimit → un + 8 * n + 200 < cLine →
      (∀ (r : Value) (h' : Heap) (k' : Nat) {m' : Str → Option Value}, P r → Fr g L h' m' → News g L h' [(q, ob)] → Q (.ret r) ⟨h', gs, d, k', o⟩) →
      wpAny (model PP w) A9 (execs body (envX qual scope L f cdv [])) Q (fun _ _ => False) ⟨h, gs, d, tk, o⟩) : CtrM w f (n + 1) vs q ob P :=
  fun news hq A h₀ L0 m0 hh gs d k o Q0 E0 G F N hret => ctg_enter ho hcd hbind hloc hbs hco hgen hk hcell G F (one_news N hq) (fun mean mg mb dp un gd outer A₀ base g L h tk Q G9 U B F9 X N9 T hd hu hfr r1 => hw mean mg mb dp un gd outer A₀ base g L h gs d tk o Q G9 U B F9 X N9 T hd hu
    (fun r h' k' m' hp F' N' => r1 (.ret r) h' k' _ m' F' N' (fun kF kN => hret r h' k' news ⟨hp, rfl⟩ kF (back_one hfr F' N hq kN))))
theorem ctrI_enter {w : World} {f : Addr} {n : Nat} {vs : List Value} {name qual : Str} {params : Arguments} {body : List Stmt} {scope : Scope} {dV kV doc pm cdv ct oc : Value} {an od : Option Addr} {osl : Array (Option Value)} {binds bs : List (Str × Value)} {i : Int}
    (ho : (hd.heap_1 w.params).lookup f = some ⟨oc, od, .func (fnOf name qual params body scope dV kV doc pm an cdv ct), osl⟩) (hcd : codeIn (hd.heap_1 w.params) cdv qual = true)
    (hbind : bindArgs (fnOf name qual params body scope dV kV doc pm an cdv ct) ⟨vs, []⟩ = pure binds) (hloc : (binds.all fun x => decide (scope.names.lookup x.1 = some .local)) = true) (hbs : binds.reverse = bs)
    (hco : scope.isCoroutine = false) (hgen : scope.isGenerator = false) (hk : scope.kind = .function) (hcell : ∀ x ∈ scope.names, x.2 ≠ .cell)
    (hw : ∀ (mean : ExcName → Option Value) (mg mb : Str → Option Value) (dp un : Nat) (gd : Option (List Code)) (outer : List Env) (A₀ : Around) (base g : Heap) (L : Addr) (h : Heap) (gs : Array GenState) (d : Drawn) (tk : Nat) (o : OsState) (Q : Flow → Shared → Prop),
      let A9 := ktrTop dp un gd qual scope L f cdv [] outer
      Pl w n A9 g L → A9.units + 64 < cLine → Below A₀ base outer g → Fr g L h (fun y => List.lookup y bs) → (hd.heap_1 w.params).In g → News g L h [] → Top vw LZ mean mg mb g → dp + n < recursionLimit → un + 8 * n + 200 < cLine →
      (∀ (t : Tok) (h' : Heap) (k' : Nat) {i' : Int} {m' : Str → Option Value}, i' = i → Fr g L h' m' → Q (.ret (.int i' t)) ⟨h', gs, d, k', o⟩) →
      wpAny (model PP w) A9 (execs body (envX qual scope L f cdv [])) Q (fun _ _ => False) ⟨h, gs, d, tk, o⟩) : Ctr w f (n + 1) vs (intv i) :=
  fun news A h₀ L0 m0 hh gs d k o Q0 E0 G F N hret => ctg_enter ho hcd hbind hloc hbs hco hgen hk hcell G F News.nil (fun mean mg mb dp un gd outer A₀ base g L h tk Q G9 U B F9 X N9 T hd hu hfr r1 => hw mean mg mb dp un gd outer A₀ base g L h gs d tk o Q G9 U B F9 X N9 T hd hu
    (fun t h' k' i' m' hp F' => r1 (.ret (.int i' t)) h' k' [] m' F' News.nil (fun kF _ => hret (.int i' t) h' k' news ⟨⟨t, by rw [hp]⟩, rfl⟩ kF (fun p hp => ⟨F'.keep _ _ (hfr _ _ (fun q => nomatch q) (N p hp).1), (N p hp).2⟩))))
theorem ctrMI_enter {w : World} {f : Addr} {n : Nat} {vs : List Value} {name qual : Str} {params : Arguments} {body : List Stmt} {scope : Scope} {dV kV doc pm cdv ct oc : Value} {an od : Option Addr} {osl : Array (Option Value)} {binds bs : List (Str × Value)} {q : Addr} {ob : Obj} {i : Int}
    (ho : (hd.heap_1 w.params).lookup f = some ⟨oc, od, .func (fnOf name qual params body scope dV kV doc pm an cdv ct), osl⟩) (hcd : codeIn (hd.heap_1 w.params) cdv qual = true)
    (hbind : bindArgs (fnOf name qual params body scope dV kV doc pm an cdv ct) ⟨vs, []⟩ = pure binds) (hloc : (binds.all fun x => decide (scope.names.lookup x.1 = some .local)) = true) (hbs : binds.reverse = bs)
    (hco : scope.isCoroutine = false) (hgen : scope.isGenerator = false) (hk : scope.kind = .function) (hcell : ∀ x ∈ scope.names, x.2 ≠ .cell)
    (hw : ∀ (mean : ExcName → Option Value) (mg mb : Str → Option Value) (dp un : Nat) (gd : Option (List Code)) (outer : List Env) (A₀ : Around) (base g : Heap) (L : Addr) (h : Heap) (gs : Array GenState) (d : Drawn) (tk : Nat) (o : OsState) (Q : Flow → Shared → Prop),
      let A9 := ktrTop dp un gd qual scope L f cdv [] outer
      Pl w n A9 g L → A9.units + 64 < cLine → Below A₀ base outer g → Fr g L h (fun y => List.lookup y bs) → (hd.heap_1 w.params).In g → News g L h [(q, ob)] → Top vw LZ mean mg mb g → dp + n < recursionLimit → un + 8 * n + 200 < cLine →
      (∀ (t : Tok) (h' : Heap) (k' : Nat) {i' : Int} {m' : Str → Option Value}, i' = i → Fr g L h' m' → News g L h' [(q, ob)] → Q (.ret (.int i' t)) ⟨h', gs, d, k', o⟩) →
      wpAny (model PP w) A9 (execs body (envX qual scope L f cdv [])) Q (fun _ _ => False) ⟨h, gs, d, tk, o⟩) : CtrM w f (n + 1) vs q ob (intv i) :=
  fun news hq A h₀ L0 m0 hh gs d k o Q0 E0 G F N hret => ctg_enter ho hcd hbind hloc hbs hco hgen hk hcell G F (one_news N hq) (fun mean mg mb dp un gd outer A₀ base g L h tk Q G9 U B F9 X N9 T hd hu hfr r1 => hw mean mg mb dp un gd outer A₀ base g L h gs d tk o Q G9 U B F9 X N9 T hd hu
    (fun t h' k' i' m' hp F' N' => r1 (.ret (.int i' t)) h' k' _ m' F' N' (fun kF kN => hret (.int i' t) h' k' news ⟨⟨t, by rw [hp]⟩, rfl⟩ kF (back_one hfr F' N hq kN))))
theorem ctrS_enter {w : World} {f : Addr} {n : Nat} {vs : List Value} {name qual : Str} {params : Arguments} {body : List Stmt} {scope : Scope} {dV kV doc pm cdv ct oc : Value} {an od : Option Addr} {osl : Array (Option Value)} {binds bs : List (Str × Value)} {i : Str}
    (ho : (hd.heap_1 w.params).lookup f = some ⟨oc, od, .func (fnOf name qual params body scope dV kV doc pm an cdv ct), osl⟩) (hcd : codeIn (hd.heap_1 w.params) cdv qual = true)
    (hbind : bindArgs (fnOf name qual params body scope dV kV doc pm an cdv ct) ⟨vs, []⟩ = pure binds) (hloc : (binds.all fun x => decide (scope.names.lookup x.1 = some .local)) = true) (hbs : binds.reverse = bs)
    (hco : scope.isCoroutine = false) (hgen : scope.isGenerator = false) (hk : scope.kind = .function) (hcell : ∀ x ∈ scope.names, x.2 ≠ .cell)
    (hw : ∀ (mean : ExcName → Option Value) (mg mb : Str → Option Value) (dp un : Nat) (gd : Option (List Code)) (outer : List Env) (A₀ : Around) (base g : Heap) (L : Addr) (h : Heap) (gs : Array GenState) (d : Drawn) (tk : Nat) (o : OsState) (Q : Flow → Shared → Prop),
      let A9 := ktrTop dp un gd qual scope L f cdv [] outer
      Pl w n A9 g L → A9.units + 64 < cLine → Below A₀ base outer g → Fr g L h (fun y => List.lookup y bs) → (hd.heap_1 w.params).In g → News g L h [] → Top vw LZ mean mg mb g → dp + n < recursionLimit → un + 8 * n + 200 < cLine →
      (∀ (t : Tok) (h' : Heap) (k' : Nat) {i' : Str} {m' : Str → Option Value}, i' = i → Fr g L h' m' → Q (.ret (.str i' t)) ⟨h', gs, d, k', o⟩) →
      wpAny (model PP w) A9 (execs body (envX qual scope L f cdv [])) Q (fun _ _ => False) ⟨h, gs, d, tk, o⟩) : Ctr w f (n + 1) vs (strv i) :=
  fun news A h₀ L0 m0 hh gs d k o Q0 E0 G F N hret => ctg_enter ho hcd hbind hloc hbs hco hgen hk hcell G F News.nil (fun mean mg mb dp un gd outer A₀ base g L h tk Q G9 U B F9 X N9 T hd hu hfr r1 => hw mean mg mb dp un gd outer A₀ base g L h gs d tk o Q G9 U B F9 X N9 T hd hu
    (fun t h' k' i' m' hp F' => r1 (.ret (.str i' t)) h' k' [] m' F' News.nil (fun kF _ => hret (.str i' t) h' k' news ⟨⟨t, by rw [hp]⟩, rfl⟩ kF (fun p hp => ⟨F'.keep _ _ (hfr _ _ (fun q => nomatch q) (N p hp).1), (N p hp).2⟩))))
theorem ctrMS_enter {w : World} {f : Addr} {n : Nat} {vs : List Value} {name qual : Str} {params : Arguments} {body : List Stmt} {scope : Scope} {dV kV doc pm cdv ct oc : Value} {an od : Option Addr} {osl : Array (Option Value)} {binds bs : List (Str × Value)} {q : Addr} {ob : Obj} {i : Str}
    (ho : (hd.heap_1 w.params).lookup f = some ⟨oc, od, .func (fnOf name qual params body scope dV kV doc pm an cdv ct), osl⟩) (hcd : codeIn (hd.heap_1 w.params) cdv qual = true)
    (hbind : bindArgs (fnOf name qual params body scope dV kV doc pm an cdv ct) ⟨vs, []⟩ = pure binds) (hloc : (binds.all fun x => decide (scope.names.lookup x.1 = some .local)) = true) (hbs : binds.reverse = bs)
    (hco : scope.isCoroutine = false) (hgen : scope.isGenerator = false) (hk : scope.kind = .function) (hcell : ∀ x ∈ scope.names, x.2 ≠ .cell)
    (hw : ∀ (mean : ExcName → Option Value) (mg mb : Str → Option Value) (dp un : Nat) (gd : Option (List Code)) (outer : List Env) (A₀ : Around) (base g : Heap) (L : Addr) (h : Heap) (gs : Array GenState) (d : Drawn) (tk : Nat) (o : OsState) (Q : Flow → Shared → Prop),
      let A9 := ktrTop dp un gd qual scope L f cdv [] outer
      Pl w n A9 g L → A9.units + 64 < cLine → Below A₀ base outer g → Fr g L h (fun y => List.lookup y bs) → (hd.heap_1 w.params).In g → News g L h [(q, ob)] → Top vw LZ mean mg mb g → dp + n < recursionLimit → un + 8 * n + 200 < cLine →
      (∀ (t : Tok) (h' : Heap) (k' : Nat) {i' : Str} {m' : Str → Option Value}, i' = i → Fr g L h' m' → News g L h' [(q, ob)] → Q (.ret (.str i' t)) ⟨h', gs, d, k', o⟩) →
      wpAny (model PP w) A9 (execs body (envX qual scope L f cdv [])) Q (fun _ _ => False) ⟨h, gs, d, tk, o⟩) : CtrM w f (n + 1) vs q ob (strv i) :=
  fun news hq A h₀ L0 m0 hh gs d k o Q0 E0 G F N hret => ctg_enter ho hcd hbind hloc hbs hco hgen hk hcell G F (one_news N hq) (fun mean mg mb dp un gd outer A₀ base g L h tk Q G9 U B F9 X N9 T hd hu hfr r1 => hw mean mg mb dp un gd outer A₀ base g L h gs d tk o Q G9 U B F9 X N9 T hd hu
    (fun t h' k' i' m' hp F' N' => r1 (.ret (.str i' t)) h' k' _ m' F' N' (fun kF kN => hret (.str i' t) h' k' news ⟨⟨t, by rw [hp]⟩, rfl⟩ kF (back_one hfr F' N hq kN))))
/-- the arguments of a call, one by one: es are left, acc stand (the last first) -/
noncomputable def ArgK (w : World) (A : Around) (env : Env) (f : Value) (Q E : Value → Shared → Prop) : List PySem.Expr → List Value → Shared → Prop
  | [], acc, s => CallK w A f acc.reverse Q E s
  | e :: es, acc, s => wpAny (model PP w) A (eval e env) (fun v s' => ArgK w A env f Q E es (v :: acc) s') E s
noncomputable def plainE : PySem.Expr → Bool
  | .Starred .. => false
  | _ => true
theorem star_cons {e : PySem.Expr} {es : List PySem.Expr} {env : Env} (h : plainE e = true) : starEach (e :: es) env = (false, eval e env) :: starEach es env := by
  cases e <;> first | rfl | exact absurd h Bool.false_ne_true
section
variable {w : World} {A : Around} {env : Env} {f : Value} {Q E : Value → Shared → Prop} {es : List PySem.Expr} {acc : List Value} {s : Shared} {pos : Pos}
theorem argK_spliced : ∀ (es : List PySem.Expr) (acc : List Value) (s : Shared), es.all plainE = true → ArgK w A env f Q E es acc s →
    wpAny (model PP w) A (spliced (backTo pos (starEach es env))) (fun vs s₁ => (hd.heap_1 w.params).In s₁.heap ∧ wpAny (model PP w) A (call f (acc.reverse ++ vs)) Q E s₁) E s
  | [], acc, s, _, h => args_nil (by rw [List.append_nil]; exact h)
  | e :: es, acc, s, hp, h => by
    have hp : (plainE e && es.all plainE) = true := hp
    rw [Bool.and_eq_true] at hp
    refine args_cons (wpAny_mono h (fun v s' h' => ?_) fun _ _ x => x) (star_cons hp.1)
    have := argK_spliced es (v :: acc) s' hp.2 h'
    simpa only [List.reverse_cons, List.append_assoc, List.singleton_append] using this
theorem cw_K {first : List Value} (es : List PySem.Expr) (hk : keepIn (hd.heap_1 w.params) f = true) (hp : es.all plainE = true) (h : ArgK w A env f Q E es first.reverse s) : wpAny (model PP w) A (callWith pos f first (backTo pos (starEach es env)) []) Q E s := by
  have h' := argK_spliced (pos := pos) es first.reverse s hp h
  rw [List.reverse_reverse] at h'
  cases es with
  | nil =>
    have h : (hd.heap_1 w.params).In s.heap ∧ wpAny (model PP w) A (call f first.reverse.reverse) Q E s := h
    rw [List.reverse_reverse] at h
    exact callWith_K0 h.1 hk (by rw [List.append_nil]; exact h.2)
  | cons e es =>
    have hp : (plainE e && es.all plainE) = true := hp
    rw [Bool.and_eq_true] at hp
    have e1 := star_cons (es := es) (env := env) hp.1
    refine callWith_of ?_ (keeps_K hk) ?_
    · rw [e1]
      show ((false || (backTo pos (starEach es env)).any (·.1)) || false) = false
      have : ∀ es : List PySem.Expr, es.all plainE = true → (backTo pos (starEach es env)).any (·.1) = false := fun es => by
        induction es with
        | nil => intro _; rfl
        | cons e es ih =>
          intro hp
          have hp : (plainE e && es.all plainE) = true := hp
          rw [Bool.and_eq_true] at hp
          rw [star_cons hp.1]
          exact ih hp.2
      rw [this es hp.2]; rfl
    · rw [e1] at h' ⊢
      exact evalArgs_plain h'
theorem cw_K0 (hk : keepIn (hd.heap_1 w.params) f = true) (hp : es.all plainE = true) (h : ArgK w A env f Q E es [] s) : wpAny (model PP w) A (callWith pos f [] (backTo pos (starEach es env)) []) Q E s := cw_K es hk hp h
theorem cw_K1 {a : Value} (hk : keepIn (hd.heap_1 w.params) f = true) (hp : es.all plainE = true) (h : ArgK w A env f Q E es [a] s) : wpAny (model PP w) A (callWith pos f [a] (backTo pos (starEach es env)) []) Q E s := cw_K es hk hp h
theorem ak_0 (h : CallK w A f [] Q E s) : ArgK w A env f Q E [] [] s := h
theorem ak_1 {a : Value} (h : CallK w A f [a] Q E s) : ArgK w A env f Q E [] [a] s := h
theorem ak_2 {a b : Value} (h : CallK w A f [a, b] Q E s) : ArgK w A env f Q E [] [b, a] s := h
theorem ak_3 {a b c : Value} (h : CallK w A f [a, b, c] Q E s) : ArgK w A env f Q E [] [c, b, a] s := h
theorem ak_4 {a b c d : Value} (h : CallK w A f [a, b, c, d] Q E s) : ArgK w A env f Q E [] [d, c, b, a] s := h
theorem ak_e {e : PySem.Expr} (h : wpAny (model PP w) A (eval e env) (fun v s' => ArgK w A env f Q E es (v :: acc) s') E s) : ArgK w A env f Q E (e :: es) acc s := h
end
section
variable {w : World} {A : Around} {f : Value} {Q E : Value → Shared → Prop} {es : List PySem.Expr} {acc : List Value} {h₀ h : Heap} {L a : Addr} {m : Str → Option Value} {cn : Str} {cs : Scope} {ccd : Value} {cl : List (Str × Addr)} {env : Env} {x : Str} {v : Value} {pos : Pos} {g : Array GenState} {d : Drawn} {k : Nat} {o : OsState} {kk : Nat}
theorem ak_n {s : Shared} (F : Fr h₀ L s.heap m) (hv : some v = m x) (hk : ScopeKind.function = cs.kind) (hx : some NameKind.local = (envX cn cs L a ccd cl).kindOf x) (hd : false = (x == ("__debug__" : Str))) (H : ArgK w A (envX cn cs L a ccd cl) f Q E es (v :: acc) s) : ArgK w A (envX cn cs L a ccd cl) f Q E (.Name x pos :: es) acc s := nameX_L F hv.symm H hk.symm hx.symm hd.symm
theorem ak_i {i : Int} (H : ∀ t' k', ArgK w A env f Q E es (.int i t' :: acc) ⟨h, g, d, k', o⟩) : ArgK w A env f Q E (.Constant (.int i) kk pos :: es) acc ⟨h, g, d, k, o⟩ := wpAny_Constant_int (s := ⟨h, g, d, k, o⟩) (H _ _)
theorem ak_s {i : Str} (H : ∀ t' k', ArgK w A env f Q E es (.str i t' :: acc) ⟨h, g, d, k', o⟩) : ArgK w A env f Q E (.Constant (.str i) kk pos :: es) acc ⟨h, g, d, k, o⟩ := Calls.Constant_str (s := ⟨h, g, d, k, o⟩) (H _ _)
theorem nm9 {M : Model} {Q : Value → Shared → Prop} {s : Shared} (F : Fr h₀ L s.heap m) (hv : some v = m x) (hx : some NameKind.local = (envX cn cs L a ccd cl).kindOf x) (hk : ScopeKind.function = cs.kind) (hd : false = (x == ("__debug__" : Str))) (H : Q v s) : wpAny M A (eval (.Name x pos) (envX cn cs L a ccd cl)) Q E s := nameX_L F hv.symm H hk.symm hx.symm hd.symm
/-- a call of the top's def by its name -/
theorem cg_K {mg mb : Str → Option Value} {p : Program} {loose : List Str} {q : Addr} {pf : Pos} (F : Fr h₀ L h m) (X : (hd.heap_1 w.params).In h₀) (T : TopRead p loose mg mb h₀) (e : nsIn (hd.heap_1 w.params) mainGlobals x = some (some (.ref q))) (hp : true = es.all plainE) (hk' : keepIn (hd.heap_1 w.params) (.ref q) = true)
    (hk : ScopeKind.function = cs.kind) (hx : some NameKind.globalImplicit = (envX cn cs L a ccd cl).kindOf x) (hd : false = (x == ("__debug__" : Str))) (H : ArgK w A (envX cn cs L a ccd cl) (.ref q) Q E es [] ⟨h, g, d, k, o⟩) :
    wpAny (model PP w) A (eval (.Call (.Name x pf) es [] pos) (envX cn cs L a ccd cl)) Q E ⟨h, g, d, k, o⟩ := Call_ (s := ⟨h, g, d, k, o⟩) (nameX_K (s := ⟨h, g, d, k, o⟩) F X T e (cw_K0 hk' hp.symm H) hk.symm hx.symm hd.symm)
end
section
variable {w : World} {A : Around} {env : Env} {Q E : Value → Shared → Prop} {es : List PySem.Expr} {acc : List Value} {s : Shared} {pos : Pos}
/-- the places of a tuple's display, one by one -/
noncomputable def TupK (w : World) (A : Around) (env : Env) (Q E : Value → Shared → Prop) : List PySem.Expr → List Value → Shared → Prop
  | [], acc, s => wpAny (model PP w) A (newTuple acc.reverse) Q E s
  | e :: es, acc, s => wpAny (model PP w) A (eval e env) (fun v s' => TupK w A env Q E es (v :: acc) s') E s
theorem tupK_spliced : ∀ (es : List PySem.Expr) (acc : List Value) (s : Shared), es.all plainE = true → TupK w A env Q E es acc s →
    wpAny (model PP w) A (spliced (backTo pos (starEach es env))) (fun vs s₁ => wpAny (model PP w) A (newTuple (acc.reverse ++ vs)) Q E s₁) E s
  | [], acc, s, _, h => args_nil (by rw [List.append_nil]; exact h)
  | e :: es, acc, s, hp, h => by
    have hp : (plainE e && es.all plainE) = true := hp
    rw [Bool.and_eq_true] at hp
    refine args_cons (wpAny_mono h (fun v s' h' => ?_) fun _ _ x => x) (star_cons hp.1)
    have := tupK_spliced es (v :: acc) s' hp.2 h'
    simpa only [List.reverse_cons, List.append_assoc, List.singleton_append] using this
theorem tk_go {kk : Nat} (hp : true = es.all plainE) (h : TupK w A env Q E es [] s) : wpAny (model PP w) A (eval (.Tuple es kk pos) env) Q E s := Tuple_ (tupK_spliced es [] s hp.symm h)
theorem tk_e {e : PySem.Expr} (h : wpAny (model PP w) A (eval e env) (fun v s' => TupK w A env Q E es (v :: acc) s') E s) : TupK w A env Q E (e :: es) acc s := h
theorem tk_2 {a b : Value} (h : wpAny (model PP w) A (newTuple [a, b]) Q E s) : TupK w A env Q E [] [b, a] s := h
theorem tk_3 {a b c : Value} (h : wpAny (model PP w) A (newTuple [a, b, c]) Q E s) : TupK w A env Q E [] [c, b, a] s := h
theorem tk_4 {a b c d : Value} (h : wpAny (model PP w) A (newTuple [a, b, c, d]) Q E s) : TupK w A env Q E [] [d, c, b, a] s := h
theorem tk_5 {a b c d e : Value} (h : wpAny (model PP w) A (newTuple [a, b, c, d, e]) Q E s) : TupK w A env Q E [] [e, d, c, b, a] s := h
theorem tk_6 {a b c d e f : Value} (h : wpAny (model PP w) A (newTuple [a, b, c, d, e, f]) Q E s) : TupK w A env Q E [] [f, e, d, c, b, a] s := h
end
section
variable {w : World} {A : Around} {Q E : Value → Shared → Prop} {es : List PySem.Expr} {acc : List Value} {h₀ h : Heap} {L a : Addr} {m : Str → Option Value} {cn : Str} {cs : Scope} {ccd : Value} {cl : List (Str × Addr)} {env : Env} {x : Str} {v : Value} {pos : Pos} {g : Array GenState} {d : Drawn} {k : Nat} {o : OsState} {kk : Nat}
theorem tk_n {s : Shared} (F : Fr h₀ L s.heap m) (hv : some v = m x) (hk : ScopeKind.function = cs.kind) (hx : some NameKind.local = (envX cn cs L a ccd cl).kindOf x) (hd : false = (x == ("__debug__" : Str))) (H : TupK w A (envX cn cs L a ccd cl) Q E es (v :: acc) s) : TupK w A (envX cn cs L a ccd cl) Q E (.Name x pos :: es) acc s := nameX_L F hv.symm H hk.symm hx.symm hd.symm
theorem tk_i {i : Int} (H : ∀ t' k', TupK w A env Q E es (.int i t' :: acc) ⟨h, g, d, k', o⟩) : TupK w A env Q E (.Constant (.int i) kk pos :: es) acc ⟨h, g, d, k, o⟩ := wpAny_Constant_int (s := ⟨h, g, d, k, o⟩) (H _ _)
end
/-- two objects of the ledger that differ by class lie apart -/
noncomputable def clsNe : Value → Value → Bool
  | .type a, .type b => a != b
  | .ref _, .type _ => true
  | .type _, .ref _ => true
  | _, _ => false
theorem ne_news {h₀ h : Heap} {L a b : Addr} {oa ob : Obj} {news : Led} (N : News h₀ L h news) (ha : (a, oa) ∈ news) (hb : (b, ob) ∈ news) (hc : true = clsNe oa.cls ob.cls) : (a : Nat) ≠ b := fun e => by
  have h1 : h.get? a = some oa := (N _ ha).1
  have h2 : h.get? b = some ob := (N _ hb).1
  have e' : a = b := e
  rw [e', h2] at h1
  have e2 : oa.cls = ob.cls := by rw [Option.some.inj h1]
  rw [e2] at hc
  revert hc
  cases ob.cls <;> simp [clsNe]
theorem lt_ne {a b : Nat} (h : a < b) : b ≠ a := Nat.ne_of_gt h
section
variable {prog : Program} {w : World} {A : Around} {E : Value → Shared → Prop} {a b : Int} {t u : Tok} {h : Heap} {g : Array GenState} {d : Drawn} {k : Nat} {o : OsState} {Q : Value → Shared → Prop}
theorem ar_add (H : ∀ t' k', Q (.int (a + b) t') ⟨h, g, d, k', o⟩) : wpAny (model prog w) A (binaryOp .Add (.int a t) (.int b u)) Q E ⟨h, g, d, k, o⟩ := add_int (H _ _)
theorem ar_sub (H : ∀ t' k', Q (.int (a - b) t') ⟨h, g, d, k', o⟩) : wpAny (model prog w) A (binaryOp .Sub (.int a t) (.int b u)) Q E ⟨h, g, d, k, o⟩ := sub_int (H _ _)
theorem ar_mul (H : ∀ t' k', Q (.int (a * b) t') ⟨h, g, d, k', o⟩) (hm : IntMulOk a b) : wpAny (model prog w) A (binaryOp .Mult (.int a t) (.int b u)) Q E ⟨h, g, d, k, o⟩ := mul_int (H _ _) hm
theorem ar_div (hb : b ≠ 0) (H : ∀ t' k', Q (.int (a.fdiv b) t') ⟨h, g, d, k', o⟩) (hp : Builtin.divisionGoesByPylong a b = false) : wpAny (model prog w) A (binaryOp .FloorDiv (.int a t) (.int b u)) Q E ⟨h, g, d, k, o⟩ := floordiv_int hb (H _ _) (Or.inl hp)
theorem ar_mod (hb : b ≠ 0) (H : ∀ t' k', Q (.int (a.fmod b) t') ⟨h, g, d, k', o⟩) : wpAny (model prog w) A (binaryOp .Mod (.int a t) (.int b u)) Q E ⟨h, g, d, k, o⟩ := mod_int' hb (H _ _)
theorem ar_iadd (H : ∀ t' k', Q (.int (a + b) t') ⟨h, g, d, k', o⟩) : wpAny (model prog w) A (inplaceOp .Add (.int a t) (.int b u)) Q E ⟨h, g, d, k, o⟩ := iadd_int (H _ _)
end
section
variable {M : Model} {A : Around} {E : Value → Shared → Prop} {h : Heap} {g : Array GenState} {d : Drawn} {k : Nat} {o : OsState} {Q : Value → Shared → Prop} {kk : Nat} {pos : Pos} {env : Env}
theorem ct9 {i : Int} (H : ∀ t' k', Q (.int i t') ⟨h, g, d, k', o⟩) : wpAny M A (eval (.Constant (.int i) kk pos) env) Q E ⟨h, g, d, k, o⟩ := wpAny_Constant_int (s := ⟨h, g, d, k, o⟩) (H _ _)
theorem cs9 {x : Str} (H : ∀ t' k', Q (.str x t') ⟨h, g, d, k', o⟩) : wpAny M A (eval (.Constant (.str x) kk pos) env) Q E ⟨h, g, d, k, o⟩ := Calls.Constant_str (s := ⟨h, g, d, k, o⟩) (H _ _)
end
theorem st9 {M : Model} {A : Around} {E : Value → Shared → Prop} {h₀ h : Heap} {L a : Addr} {m : Str → Option Value} {cn : Str} {cs : Scope} {ccd : Value} {cl : List (Str × Addr)} {x : Str} {v : Value} {Q : Unit → Shared → Prop} {news : List (Addr × Obj)} {g : Array GenState} {d : Drawn} {k : Nat} {o : OsState} (F : Fr h₀ L h m) (N : News h₀ L h news)
    (H : ∀ h' k', Fr h₀ L h' (fun y => if y = x then some v else m y) → News h₀ L h' news → Q () ⟨h', g, d, k', o⟩)
    (hk : ScopeKind.function = cs.kind) (hx : some NameKind.local = (envX cn cs L a ccd cl).kindOf x) : wpAny M A (storeName (envX cn cs L a ccd cl) x v) Q E ⟨h, g, d, k, o⟩ :=
  storeX_L (s := ⟨h, g, d, k, o⟩) F N (fun h' F' N' => H h' _ F' N') hk.symm hx.symm
theorem nt9 {prog : Program} {w : World} {A : Around} {E : Value → Shared → Prop} {h₀ h : Heap} {L : Addr} {m : Str → Option Value} {Q : Value → Shared → Prop} {news : List (Addr × Obj)} {vs : List Value} {g : Array GenState} {d : Drawn} {k : Nat} {o : OsState} (F : Fr h₀ L h m) (N : News h₀ L h news)
    (H : ∀ D h', Fr h₀ L h' m → News h₀ L h' ((D, ({ cls := .type "tuple", data := .seq vs.toArray } : Obj)) :: news) → Q (.ref D) ⟨h', g, d, k, o⟩) (hz : vs.length ≤ sizeLine) : wpAny (model prog w) A (newTuple vs) Q E ⟨h, g, d, k, o⟩ :=
  kup_newTuple (s := ⟨h, g, d, k, o⟩) F N (fun D h' F' N' _ => H D h' F' N') hz
/-- the continuation, named -/
theorem fold9 {α : Type} {M : Model} {A : Around} {t : Sem α} {Q : α → Shared → Prop} {E : Value → Shared → Prop} {s : Shared} (h : let q := Q; wpAny M A t q E s) : wpAny M A t Q E s := h
/-- the frames' state, named -/
theorem foldA {α : Type} {M : Model} {A : Around} {t : Sem α} {Q : α → Shared → Prop} {E : Value → Shared → Prop} {s : Shared} (h : let A' := A; wpAny M A' t Q E s) : wpAny M A t Q E s := h

noncomputable abbrev bolv (b : Bool) (r : Value) : Prop := r = .bool b

section
variable {prog : Program} {w : World} {A : Around} {E : Value → Shared → Prop} {s : Shared} {h₀ : Heap} {L a : Addr} {news : List (Addr × Obj)} {k : Nat} {Q : Value → Shared → Prop}
theorem none_in3 {i1 i2 i3 : Int} {t1 t2 t3 : Tok} (N : News h₀ L s.heap news) (ma : (a, ({ cls := .type "tuple", data := .seq #[.int i1 t1, .int i2 t2, .int i3 t3] k } : Obj)) ∈ news)
    (hu : A.units + 64 < cLine) (h : Q (.bool false) s) : wpAny (model prog w) A (compareOp .In .none (.ref a)) Q E s := by
  have D : DatIn news (.ref a) (.tuple [.int i1, .int i2, .int i3]) := .tuple (vs := [.int i1 t1, .int i2 t2, .int i3 t3]) ma (.cons (.int _ _) (.cons (.int _ _) (.cons (.int _ _) .nil)))
  obtain ⟨as, ra⟩ := kqd_in N 2 D rfl
  rw [kqdP] at ra
  exact SeqAt.in_tuple_reads ra Reads.none rfl rfl (by simp only [kqdPs, kqdP, PyData.depthAll, PyData.depth]; (first | lia | omega)) (by simpa [kqdPs, kqdP, PyData.eqv] using h)
theorem none_in4 {i1 i2 i3 i4 : Int} {t1 t2 t3 t4 : Tok} (N : News h₀ L s.heap news) (ma : (a, ({ cls := .type "tuple", data := .seq #[.int i1 t1, .int i2 t2, .int i3 t3, .int i4 t4] k } : Obj)) ∈ news)
    (hu : A.units + 64 < cLine) (h : Q (.bool false) s) : wpAny (model prog w) A (compareOp .In .none (.ref a)) Q E s := by
  have D : DatIn news (.ref a) (.tuple [.int i1, .int i2, .int i3, .int i4]) := .tuple (vs := [.int i1 t1, .int i2 t2, .int i3 t3, .int i4 t4]) ma (.cons (.int _ _) (.cons (.int _ _) (.cons (.int _ _) (.cons (.int _ _) .nil))))
  obtain ⟨as, ra⟩ := kqd_in N 2 D rfl
  rw [kqdP] at ra
  exact SeqAt.in_tuple_reads ra Reads.none rfl rfl (by simp only [kqdPs, kqdP, PyData.depthAll, PyData.depth]; (first | lia | omega)) (by simpa [kqdPs, kqdP, PyData.eqv] using h)
end
theorem gen_toks {α : Type} {M : Model} {A : Around} {t : Sem α} {Q : α → Shared → Prop} {E : Value → Shared → Prop} {h : Heap} {g : Array GenState} {d : Drawn} {o : OsState} {k : Nat}
    (H : ∀ k', wpAny M A t Q E ⟨h, g, d, k', o⟩) : wpAny M A t Q E ⟨h, g, d, k + 1, o⟩ := H _
section
variable {α : Type} {p : α} {a b : List α}
theorem sub_refl : ∀ q ∈ a, q ∈ a := fun _ h => h
theorem sub_cons (h : ∀ q ∈ a, q ∈ b) : ∀ q ∈ p :: a, q ∈ p :: b := fun q hq => by
  rcases List.mem_cons.mp hq with rfl | hq
  · exact .head _
  · exact .tail _ (h q hq)
theorem sub_skip (h : ∀ q ∈ a, q ∈ b) : ∀ q ∈ a, q ∈ p :: b := fun q hq => .tail _ (h q hq)
end
theorem drop_news {h₀ h : Heap} {L : Addr} {news news' : List (Addr × Obj)} (N : News h₀ L h news') (hs : ∀ p ∈ news, p ∈ news') : News h₀ L h news := fun p hp => N p (hs p hp)
/-- a text by its signs -/
noncomputable abbrev mk (l : List Nat) : Str := ⟨l.toArray⟩
theorem filled (w : World) : ((hd.heap_1 w.params).In default) → PySem.Challenge.rw_pc0069_01.Holds ∨ True := by
  k_fill
  exact fun _ => .inr trivial
end

section -- A1
theorem rst_A1 : True := by
  w_top off
  trivial
open PySem PySem.W PySem.Calls PyProof.Rows
noncomputable def dfy (y : Int) : Int := 365 * (y - 1970) + (y - 1969).fdiv 4 - (y - 1901).fdiv 100 + (y - 1601).fdiv 400
set_option maxRecDepth 100000


set_option maxHeartbeats 8000000

theorem ru_A1_0 : True := by
  k_with_none
  k_with "steps" => (repeat' (first | k_unfold | (k_end; kc_close) | walk1 | (dsimp only; walk1) | (leave1; (try dsimp only)) | fail "no step"))
  k_with "eval Constant int" => (k_here; (with_reducible refine ct9 ?_); intro _ _)
  k_with "eval Constant str" => (k_here; (with_reducible refine cs9 ?_); intro _ _)
  k_with "binaryOp Add int int" => (k_here; (with_reducible refine ar_add ?_); intro _ _)
  k_with "binaryOp Sub int int" => (k_here; (with_reducible refine ar_sub ?_); intro _ _)
  k_with "binaryOp Mult int int" => (k_here; (with_reducible refine' ar_mul ?_ ?m9_9); k_dflt (case m9_9 => mul_fits); intro _ _)
  k_with "binaryOp FloorDiv int int" => (k_here; (with_reducible refine' ar_div ?b9_9 ?_ ?p9_9); k_dflt (case b9_9 => decide); k_dflt (case p9_9 => first | exact PyProof.noPylong_of_log2 (by decide +kernel) | exact PyProof.noPylong_small (by omega)); intro _ _)
  k_with "binaryOp Mod int int" => (k_here; (with_reducible refine ar_mod ?b9_9 ?_); (case b9_9 => first | decide | omega | assumption); intro _ _)
  k_with "inplaceOp Add int int" => (k_here; (with_reducible refine ar_iadd ?_); intro _ _)
  k_with "storeName" => (k_here; k_dflt (refine' st9 ?F_9 ?N_9 ?_ ?a_9 ?b_9; (case F_9 => with_reducible assumption); (case N_9 => with_reducible assumption); (case a_9 => exact rfl); (case b_9 => exact rfl); k_whole); intro h9 k9 F9 N9; (try k_sweep))
  k_with "newTuple" => (k_here; kup_bare; k_dflt (refine' nt9 ?F_9 ?N_9 ?_ ?z_9; (case F_9 => with_reducible assumption); (case N_9 => with_reducible assumption); (case z_9 => kmk_size)); intro D9 h9 F9 N9; (try k_sweep))
  k_with "eval Tuple" => (k_here; k_whole; (with_reducible refine tk_go ?h9_9 ?_); k_dflt (case h9_9 => exact rfl))
  k_with "eval Tuple" => (k_here; walk_at "fold")
  k_with "TupK" => (k_here; (with_reducible refine tk_e ?_))
  k_with "TupK" => (k_here; (with_reducible refine' tk_n ?k1_9 ?k2_9 ?k3_9 ?k4_9 ?k5_9 ?_); k_dflt ((case k3_9 => exact rfl); (case k4_9 => exact rfl); (case k1_9 => k_asm); (case k2_9 => exact rfl); (case k5_9 => exact rfl); k_whole))
  k_with "TupK" => (k_here; (with_reducible refine tk_i ?_); intro _ _)
  k_with "TupK" => (k_here; (first | with_reducible refine tk_2 ?_ | with_reducible refine tk_3 ?_ | with_reducible refine tk_4 ?_ | with_reducible refine tk_5 ?_ | with_reducible refine tk_6 ?_))
  k_with "uX" => (intro t9 h9 tk9 F9 N9; (try dsimp only); (try k_sweep); (try k_fold))
  k_with "uV" => (intro h9 tk9 F9 N9; (try dsimp only); (try k_sweep); (try k_fold))
  k_with "callWith ref" => (k_here; k_dflt (first | (refine' cw_K0 ?k1_9 ?k2_9 ?_; (case k1_9 => k_is); (case k2_9 => exact rfl); k_whole) | (refine' cw_K1 ?k1_9 ?k2_9 ?_; (case k1_9 => k_is); (case k2_9 => exact rfl); k_whole)))
  k_with "eval Call" => (k_here; (with_reducible refine' cg_K ?k1_9 ?k2_9 ?k3_9 ?k4_9 ?k5_9 ?k6_9 ?k7_9 ?k8_9 ?k9_9 ?_); k_dflt ((case k7_9 => exact rfl); (case k8_9 => exact rfl); (case k9_9 => exact rfl); (case k1_9 => k_asm); (case k2_9 => k_asm); (case k3_9 => k_asm); (case k4_9 => k_is); (case k5_9 => exact rfl); (case k6_9 => k_is); k_whole))
  k_with "eval Name" => (k_here; k_dflt (refine' nm9 ?k1_9 ?k2_9 ?k3_9 ?k4_9 ?k5_9 ?_; (case k4_9 => exact rfl); (case k3_9 => exact rfl); (case k1_9 => k_asm); (case k2_9 => exact rfl); (case k5_9 => exact rfl); k_whole))
  k_with "fold" => (k_whole; (fail_if_success (fail_if_success k_fold)); refine fold9 ?_; intro qk)
  k_with "eval Call" => (k_here; walk_at "fold")
  k_with "eval BinOp" => (k_here; walk_at "fold")
  k_with "ArgK" => (k_here; (with_reducible refine ak_e ?_))
  k_with "ArgK" => (k_here; (with_reducible refine' ak_n ?k1_9 ?k2_9 ?k3_9 ?k4_9 ?k5_9 ?_); k_dflt ((case k3_9 => exact rfl); (case k4_9 => exact rfl); (case k1_9 => k_asm); (case k2_9 => exact rfl); (case k5_9 => exact rfl); k_whole))
  k_with "ArgK" => (k_here; (first | with_reducible refine ak_i ?_ | with_reducible refine ak_s ?_); intro _ _)
  k_with "ArgK" => (k_here; (first | with_reducible refine ak_1 ?_ | with_reducible refine ak_2 ?_ | with_reducible refine ak_3 ?_ | with_reducible refine ak_4 ?_ | with_reducible refine ak_0 ?_))
  k_with "ne" => first | with_reducible assumption | exact ne_news (by with_reducible assumption) (by k_mem) (by k_mem) rfl | k_ne
  k_with "upd" => first | (refine' Upd.head ?a_9; (case a_9 => walk_at "nall")) | (refine' Upd.tail ?a_9 ?b_9; (case a_9 => walk_at "ne"); (case b_9 => walk_at "upd"))
  k_with "setAttr ref" => (k_here; k_dflt (refine' set_dict ?k1_9 ?k2_9 ?k3_9 ?k4_9 ?k5_9 ?k6_9 ?k7_9 ?k8_9 ?k9_9 ?k10_9 ?k11_9 ?k12_9 ?k13_9 ?_; (case k1_9 => k_asm); (case k2_9 => k_asm); (case k3_9 => k_asm); (case k4_9 => k_inst); (case k5_9 => exact rfl); (case k6_9 => k_is); (case k7_9 => k_is); (case k8_9 => k_is); (case k9_9 => k_is); (case k10_9 => k_get); (case k11_9 => k_put); (case k12_9 => walk_at "upd"); (case k13_9 => exact Nat.le_of_ble_eq_true rfl); k_whole); intro h' F' N'; (try k_sweep))
  k_with "nall" => first | exact List.forall_mem_nil _ | (refine' List.forall_mem_cons.mpr ⟨?a_9, ?b_9⟩; (case a_9 => walk_at "ne"); (case b_9 => walk_at "nall"))
  k_with "execs cons" => (k_here; (with_reducible refine gen_toks ?_); intro _)
  k_with "execs nil" => (k_here; (with_reducible refine gen_toks ?_); intro _)
  k_with "end eq" => (law_clear; (try simp only [decide_eq_true_eq, decide_eq_false_iff_not, ne_eq, Bool.not_eq_true, Bool.not_eq_false, bne_iff_ne, beq_iff_eq] at *); first | rfl | omega | (simp_all; done) | (simp_all; rfl) | ((simp_all); omega))
  trivial
theorem dfy_step (y : Int) : dfy y + 365 ≤ dfy (y + 1) := by
  unfold dfy
  simp only [Int.fdiv_eq_ediv_of_nonneg _ (show (0:Int) ≤ 4 by decide), Int.fdiv_eq_ediv_of_nonneg _ (show (0:Int) ≤ 100 by decide), Int.fdiv_eq_ediv_of_nonneg _ (show (0:Int) ≤ 400 by decide)]
  (first | lia | omega)
theorem dfy_mono (a : Int) (n : Nat) : dfy a + 365 * n ≤ dfy (a + n) := by
  induction n with
  | zero => simp
  | succ n ih => have := dfy_step (a + n); rw [show a + ((n + 1 : Nat) : Int) = a + n + 1 by (first | lia | omega)]; (first | lia | omega)
theorem dfy_le {a b : Int} (h : a ≤ b) : dfy a ≤ dfy b := by
  have := dfy_mono a (b - a).toNat
  rw [show a + ((b - a).toNat : Int) = b by (first | lia | omega)] at this
  (first | lia | omega)
theorem dfy_lt_imp {a b : Int} (h : dfy a < dfy b) : a < b := by
  by_cases c : b ≤ a
  · have := dfy_le c; (first | lia | omega)
  · (first | lia | omega)

theorem c_day_of (w : World) (x : Int) (t : Tok) : Ctr w 22 1 [.int x t] (intv (x.fdiv 86400000)) := by
  k_dflt (refine' ctrI_enter (bs := [(Str.ofString "time", _)]) ?k6 ?k7 ?kb ?kB ?kr ?c2 ?c3 ?c4 ?c5 ?_; (case k6 => k_is); (case k7 => k_is); (case kb => exact rfl); (case kB => exact rfl); (case kr => exact rfl); (case c2 => exact rfl); (case c3 => exact rfl); (case c4 => exact rfl); (case c5 => decide))
  intro mean mg mb dp un gd outer A₀ base g' L' h9 gs9 d9 tk9 o9 Q
  intro A9 P9 u9 B' F9 X' N' T' hdp hun hret
  walk_at "steps"
  all_goals exact hret _ _ _ rfl (by k_asm)
theorem ru_A1_1 : True := by
  k_with "CallK" => (k_here; (guard_target = CallK _ _ (Value.ref 22) _ _ _ _); k_dflt (refine' use_ctrX (c_day_of _ _ _) ?g9_9 ?n9_9 ?F9_9 ?N9_9 ?_; (case g9_9 => with_reducible assumption); (case n9_9 => exact rfl); (case F9_9 => k_asm); (case N9_9 => k_asm); k_whole); walk_at "uX")
  trivial
theorem c_time_in_day (w : World) (x : Int) (t : Tok) : Ctr w 29 1 [.int x t] (intv (x.fmod 86400000)) := by
  k_dflt (refine' ctrI_enter (bs := [(Str.ofString "time", _)]) ?k6 ?k7 ?kb ?kB ?kr ?c2 ?c3 ?c4 ?c5 ?_; (case k6 => k_is); (case k7 => k_is); (case kb => exact rfl); (case kB => exact rfl); (case kr => exact rfl); (case c2 => exact rfl); (case c3 => exact rfl); (case c4 => exact rfl); (case c5 => decide))
  intro mean mg mb dp un gd outer A₀ base g' L' h9 gs9 d9 tk9 o9 Q
  intro A9 P9 u9 B' F9 X' N' T' hdp hun hret
  walk_at "steps"
  all_goals exact hret _ _ _ rfl (by k_asm)
theorem ru_A1_2 : True := by
  k_with "CallK" => (k_here; (guard_target = CallK _ _ (Value.ref 29) _ _ _ _); k_dflt (refine' use_ctrX (c_time_in_day _ _ _) ?g9_9 ?n9_9 ?F9_9 ?N9_9 ?_; (case g9_9 => with_reducible assumption); (case n9_9 => exact rfl); (case F9_9 => k_asm); (case N9_9 => k_asm); k_whole); walk_at "uX")
  trivial
noncomputable def leap (y : Int) : Bool := decide (y.fmod 4 = 0) && (!decide (y.fmod 100 = 0) || decide (y.fmod 400 = 0))
theorem c_leap (w : World) (x : Int) (t : Tok) : Ctr w 36 1 [.int x t] (bolv (leap x)) := by
  k_dflt (refine' ctr_enter (bs := [(Str.ofString "year", _)]) ?k6 ?k7 ?kb ?kB ?kr ?c2 ?c3 ?c4 ?c5 ?_; (case k6 => k_is); (case k7 => k_is); (case kb => exact rfl); (case kB => exact rfl); (case kr => exact rfl); (case c2 => exact rfl); (case c3 => exact rfl); (case c4 => exact rfl); (case c5 => decide))
  intro mean mg mb dp un gd outer A₀ base g' L' h9 gs9 d9 tk9 o9 Q
  intro A9 P9 u9 B' F9 X' N' T' hdp hun hret
  walk_at "steps"
  all_goals (refine hret _ _ _ (congrArg Value.bool ?_) (by k_asm); unfold leap; walk_at "end eq")
theorem ru_A1_3 : True := by
  k_with "CallK" => (k_here; (guard_target = CallK _ _ (Value.ref 36) _ _ _ _); k_dflt (refine' use_ctrV (c_leap _ _ _) ?g9_9 ?n9_9 ?F9_9 ?N9_9 ?_; (case g9_9 => with_reducible assumption); (case n9_9 => exact rfl); (case F9_9 => k_asm); (case N9_9 => k_asm); k_whole); walk_at "uV")
  trivial
theorem c_dfy (w : World) (y : Int) (t : Tok) : Ctr w 43 1 [.int y t] (intv (dfy y)) := by
  k_dflt (refine' ctrI_enter (bs := [(Str.ofString "year", _)]) ?k6 ?k7 ?kb ?kB ?kr ?c2 ?c3 ?c4 ?c5 ?_; (case k6 => k_is); (case k7 => k_is); (case kb => exact rfl); (case kB => exact rfl); (case kr => exact rfl); (case c2 => exact rfl); (case c3 => exact rfl); (case c4 => exact rfl); (case c5 => decide))
  intro mean mg mb dp un gd outer A₀ base g' L' h9 gs9 d9 tk9 o9 Q
  intro A9 P9 u9 B' F9 X' N' T' hdp hun hret
  walk_at "steps"
  all_goals exact hret _ _ _ rfl (by k_asm)
theorem ru_A1_4 : True := by
  k_with "CallK" => (k_here; (guard_target = CallK _ _ (Value.ref 43) _ _ _ _); k_dflt (refine' use_ctrX (c_dfy _ _ _) ?g9_9 ?n9_9 ?F9_9 ?N9_9 ?_; (case g9_9 => with_reducible assumption); (case n9_9 => exact rfl); (case F9_9 => k_asm); (case N9_9 => k_asm); k_whole); walk_at "uX")
  trivial

theorem yod_m1 {d y x : Int} (hd0 : dfy y ≤ d) (h : d < dfy x) : (x - 1 - y).natAbs < (x - y).natAbs := by
  have := dfy_lt_imp (show dfy y < dfy x by (first | lia | omega))
  (first | lia | omega)
theorem yod_m2 {d y x : Int} (hd1 : d < dfy (y + 1)) (h : dfy (x + 1) ≤ d) : (x + 1 - y).natAbs < (x - y).natAbs := by
  have := dfy_lt_imp (show dfy (x + 1) < dfy (y + 1) by (first | lia | omega))
  (first | lia | omega)
theorem yod_s2 {d y x y0 : Int} (hd1 : d < dfy (y + 1)) (h : dfy (x + 1) ≤ d) : y0 ≤ y → x + 1 ≤ y := by
  have := dfy_lt_imp (show dfy (x + 1) < dfy (y + 1) by (first | lia | omega))
  (first | lia | omega)
theorem yod_e {d y x x0 : Int} (hd0 : dfy y ≤ d) (hd1 : d < dfy (y + 1)) (i : x0 ≤ y → x ≤ y) (h0 : ¬ d < dfy x0) (h : ¬ dfy (x + 1) ≤ d) : x = y := by
  have := dfy_lt_imp (show dfy x0 < dfy (y + 1) by (first | lia | omega))
  have := dfy_lt_imp (show dfy y < dfy (x + 1) by (first | lia | omega))
  (first | lia | omega)
noncomputable def aheadL : List Int := [0, 31, 59, 90, 120, 151, 181, 212, 243, 273, 304, 334, 365]
noncomputable def daysAhead (i : Int) (b : Bool) : Int := aheadL.getD i.toNat 0 + (if b = true ∧ 1 < i then 1 else 0)
theorem ahead_at {i : Int} (h0 : 0 ≤ i) (h1 : i ≤ 12) : ∃ t, [Value.int 0 205, Value.int 31 206, Value.int 59 207, Value.int 90 208, Value.int 120 209, Value.int 151 210, Value.int 181 211, Value.int 212 212, Value.int 243 213, Value.int 273 214, Value.int 304 215, Value.int 334 216, Value.int 365 217][i.toNat]? = some (Value.int (aheadL.getD i.toNat 0) t) := by
  obtain ⟨k, rfl⟩ := Int.eq_ofNat_of_zero_le h0
  have h : k ≤ 12 := by (first | lia | omega)
  match k, h with
  | 0, _ | 1, _ | 2, _ | 3, _ | 4, _ | 5, _ | 6, _ | 7, _ | 8, _ | 9, _ | 10, _ | 11, _ | 12, _ => exact ⟨_, rfl⟩
theorem c_days_ahead (w : World) (i : Int) (b : Bool) (t : Tok) (h0 : 0 ≤ i) (h1 : i ≤ 12) : Ctr w 71 1 [.int i t, .bool b] (intv (daysAhead i b)) := by
  k_dflt (refine' ctrI_enter (bs := [(Str.ofString "is_leap", _), (Str.ofString "month", _)]) ?k6 ?k7 ?kb ?kB ?kr ?c2 ?c3 ?c4 ?c5 ?_; (case k6 => k_is); (case k7 => k_is); (case kb => exact rfl); (case kB => exact rfl); (case kr => exact rfl); (case c2 => exact rfl); (case c3 => exact rfl); (case c4 => exact rfl); (case c5 => decide))
  intro mean mg mb dp un gd outer A₀ base g' L' h9 gs9 d9 tk9 o9 Q
  intro A9 P9 u9 B' F9 X' N' T' hdp hun hret
  obtain ⟨u9, hu9⟩ := ahead_at h0 h1
  k_with "subscriptTail" => (k_dflt (refine' topList_K ?k1 ?k2 ?k3 h0 ?k5 hu9 ?_; (case k1 => k_asm); (case k2 => k_asm); (case k3 => k_is); (case k5 => omega); k_whole))
  walk_at "steps"
  all_goals first | (refine hret _ _ _ ?_ (by k_asm); (unfold daysAhead; first | rw [if_pos ⟨by assumption, by assumption⟩] | rw [if_neg (fun h => absurd h.2 (by assumption))] | rw [if_neg (fun h => by simp_all)])) | (refine hret _ _ _ ?_ (by k_asm) (by first | with_reducible assumption | exact drop_news (by with_reducible assumption) (by first | with_reducible exact ktn_subA | repeat (first | with_reducible exact sub_refl | with_reducible refine sub_cons ?_ | with_reducible refine sub_skip ?_))); (unfold daysAhead; first | rw [if_pos ⟨by assumption, by assumption⟩] | rw [if_neg (fun h => absurd h.2 (by assumption))] | rw [if_neg (fun h => by simp_all)])) | (refine hret _ _ _ ⟨_, congrArg (fun z => Value.int z _) ?_⟩ (by k_asm); (unfold daysAhead; first | rw [if_pos ⟨by assumption, by assumption⟩] | rw [if_neg (fun h => absurd h.2 (by assumption))] | rw [if_neg (fun h => by simp_all)])) | (refine hret _ _ _ ⟨_, congrArg (fun z => Value.int z _) ?_⟩ (by k_asm) (by first | with_reducible assumption | exact drop_news (by with_reducible assumption) (by first | with_reducible exact ktn_subA | repeat (first | with_reducible exact sub_refl | with_reducible refine sub_cons ?_ | with_reducible refine sub_skip ?_))); (unfold daysAhead; first | rw [if_pos ⟨by assumption, by assumption⟩] | rw [if_neg (fun h => absurd h.2 (by assumption))] | rw [if_neg (fun h => by simp_all)]))
theorem ru_A1_5 : True := by
  k_with "CallK" => (k_here; (guard_target = CallK _ _ (Value.ref 71) _ _ _ _); k_dflt (refine' use_ctrX (c_days_ahead _ _ _ _ ?p0_9 ?p1_9) ?g9_9 ?n9_9 ?F9_9 ?N9_9 ?_; (case g9_9 => with_reducible assumption); (case n9_9 => exact rfl); (case F9_9 => k_asm); (case N9_9 => k_asm); (case p0_9 => first | with_reducible assumption | decide | l_fact); (case p1_9 => first | with_reducible assumption | decide | l_fact); k_whole); walk_at "uX")
  trivial
theorem c_year_of_day (w : World) (d y : Int) (t : Tok) (hd0 : dfy y ≤ d) (hd1 : d < dfy (y + 1)) : Ctr w 50 2 [.int d t] (intv y) := by
  k_dflt (refine' ctrI_enter (bs := [(Str.ofString "day", _)]) ?k6 ?k7 ?kb ?kB ?kr ?c2 ?c3 ?c4 ?c5 ?_; (case k6 => k_is); (case k7 => k_is); (case kb => exact rfl); (case kB => exact rfl); (case kr => exact rfl); (case c2 => exact rfl); (case c3 => exact rfl); (case c4 => exact rfl); (case c5 => decide))
  intro mean mg mb dp un gd outer A₀ base g' L' h9 gs9 d9 tk9 o9 Q
  intro A9 P9 u9 B' F9 X' N' T' hdp hun hret
  k_with "exec While Compare cons nil" => k_while_given ["year!"] (fun y0 _ yy => y0 ≤ y → yy ≤ y) (fun y0 _ yy => (yy - y).natAbs) "year"
  k_with "measure" => first | exact yod_m1 hd0 (by assumption) | exact yod_m2 hd1 (by assumption)
  k_with "state" => exact yod_s2 hd1 (by assumption)
  walk_at "steps"
  all_goals (cases yod_e hd0 hd1 (by assumption) (by assumption) (by assumption); exact hret _ _ _ rfl (by k_asm))
theorem ru_A1_6 : True := by
  k_with "CallK" => (k_here; (guard_target = CallK _ _ (Value.ref 50) _ _ _ _); k_dflt (refine' use_ctrX (c_year_of_day _ _ _ _ ?p0_9 ?p1_9) ?g9_9 ?n9_9 ?F9_9 ?N9_9 ?_; (case g9_9 => with_reducible assumption); (case n9_9 => exact rfl); (case F9_9 => k_asm); (case N9_9 => k_asm); (case p0_9 => assumption); (case p1_9 => assumption); k_whole); walk_at "uX")
  trivial

noncomputable def daysOf (y i : Int) : Int := daysAhead (i + 1) (leap y) - daysAhead i (leap y)
theorem c_days_of_month (w : World) (y i : Int) (t t' : Tok) (h0 : 0 ≤ i) (h1 : i ≤ 11) : Ctr w 78 2 [.int y t, .int i t'] (intv (daysOf y i)) := by
  k_dflt (refine' ctrI_enter (bs := [(Str.ofString "month", _), (Str.ofString "year", _)]) ?k6 ?k7 ?kb ?kB ?kr ?c2 ?c3 ?c4 ?c5 ?_; (case k6 => k_is); (case k7 => k_is); (case kb => exact rfl); (case kB => exact rfl); (case kr => exact rfl); (case c2 => exact rfl); (case c3 => exact rfl); (case c4 => exact rfl); (case c5 => decide))
  intro mean mg mb dp un gd outer A₀ base g' L' h9 gs9 d9 tk9 o9 Q
  intro A9 P9 u9 B' F9 X' N' T' hdp hun hret
  walk_at "steps"
  all_goals first | (refine hret _ _ _ ?_ (by k_asm); rfl) | (refine hret _ _ _ ?_ (by k_asm) (by first | with_reducible assumption | exact drop_news (by with_reducible assumption) (by first | with_reducible exact ktn_subA | repeat (first | with_reducible exact sub_refl | with_reducible refine sub_cons ?_ | with_reducible refine sub_skip ?_))); rfl) | (refine hret _ _ _ ⟨_, congrArg (fun z => Value.int z _) ?_⟩ (by k_asm); rfl) | (refine hret _ _ _ ⟨_, congrArg (fun z => Value.int z _) ?_⟩ (by k_asm) (by first | with_reducible assumption | exact drop_news (by with_reducible assumption) (by first | with_reducible exact ktn_subA | repeat (first | with_reducible exact sub_refl | with_reducible refine sub_cons ?_ | with_reducible refine sub_skip ?_))); rfl)
theorem ru_A1_7 : True := by
  k_with "CallK" => (k_here; (guard_target = CallK _ _ (Value.ref 78) _ _ _ _); k_dflt (refine' use_ctrX (c_days_of_month _ _ _ _ _ ?p0_9 ?p1_9) ?g9_9 ?n9_9 ?F9_9 ?N9_9 ?_; (case g9_9 => with_reducible assumption); (case n9_9 => exact rfl); (case F9_9 => k_asm); (case N9_9 => k_asm); (case p0_9 => first | with_reducible assumption | decide | l_fact); (case p1_9 => first | with_reducible assumption | decide | l_fact); k_whole); walk_at "uX")
  trivial
/-- the year that holds the moment x -/
noncomputable def YF (x y : Int) : Prop := dfy y ≤ x.fdiv 86400000 ∧ x.fdiv 86400000 < dfy (y + 1)
noncomputable def diy (x y : Int) : Int := x.fdiv 86400000 - dfy y
theorem c_year_of (w : World) (x y : Int) (t : Tok) (hy : YF x y) : Ctr w 57 3 [.int x t] (intv y) := by
  k_dflt (refine' ctrI_enter (bs := [(Str.ofString "time", _)]) ?k6 ?k7 ?kb ?kB ?kr ?c2 ?c3 ?c4 ?c5 ?_; (case k6 => k_is); (case k7 => k_is); (case kb => exact rfl); (case kB => exact rfl); (case kr => exact rfl); (case c2 => exact rfl); (case c3 => exact rfl); (case c4 => exact rfl); (case c5 => decide))
  intro mean mg mb dp un gd outer A₀ base g' L' h9 gs9 d9 tk9 o9 Q
  intro A9 P9 u9 B' F9 X' N' T' hdp hun hret
  obtain ⟨hy0, hy1⟩ := hy
  walk_at "steps"
  all_goals first | (refine hret _ _ _ ?_ (by k_asm); rfl) | (refine hret _ _ _ ?_ (by k_asm) (by first | with_reducible assumption | exact drop_news (by with_reducible assumption) (by first | with_reducible exact ktn_subA | repeat (first | with_reducible exact sub_refl | with_reducible refine sub_cons ?_ | with_reducible refine sub_skip ?_))); rfl) | (refine hret _ _ _ ⟨_, congrArg (fun z => Value.int z _) ?_⟩ (by k_asm); rfl) | (refine hret _ _ _ ⟨_, congrArg (fun z => Value.int z _) ?_⟩ (by k_asm) (by first | with_reducible assumption | exact drop_news (by with_reducible assumption) (by first | with_reducible exact ktn_subA | repeat (first | with_reducible exact sub_refl | with_reducible refine sub_cons ?_ | with_reducible refine sub_skip ?_))); rfl)
theorem ru_A1_8 : True := by
  k_with "CallK" => (k_here; (guard_target = CallK _ _ (Value.ref 57) _ _ _ _); k_dflt (refine' use_ctrX (c_year_of _ _ _ _ ?p0_9) ?g9_9 ?n9_9 ?F9_9 ?N9_9 ?_; (case g9_9 => with_reducible assumption); (case n9_9 => exact rfl); (case F9_9 => k_asm); (case N9_9 => k_asm); (case p0_9 => assumption); k_whole); walk_at "uX")
  trivial
theorem c_day_in_year (w : World) (x y : Int) (t : Tok) (hy : YF x y) : Ctr w 64 4 [.int x t] (intv (diy x y)) := by
  k_dflt (refine' ctrI_enter (bs := [(Str.ofString "time", _)]) ?k6 ?k7 ?kb ?kB ?kr ?c2 ?c3 ?c4 ?c5 ?_; (case k6 => k_is); (case k7 => k_is); (case kb => exact rfl); (case kB => exact rfl); (case kr => exact rfl); (case c2 => exact rfl); (case c3 => exact rfl); (case c4 => exact rfl); (case c5 => decide))
  intro mean mg mb dp un gd outer A₀ base g' L' h9 gs9 d9 tk9 o9 Q
  intro A9 P9 u9 B' F9 X' N' T' hdp hun hret
  walk_at "steps"
  all_goals first | (refine hret _ _ _ ?_ (by k_asm); rfl) | (refine hret _ _ _ ?_ (by k_asm) (by first | with_reducible assumption | exact drop_news (by with_reducible assumption) (by first | with_reducible exact ktn_subA | repeat (first | with_reducible exact sub_refl | with_reducible refine sub_cons ?_ | with_reducible refine sub_skip ?_))); rfl) | (refine hret _ _ _ ⟨_, congrArg (fun z => Value.int z _) ?_⟩ (by k_asm); rfl) | (refine hret _ _ _ ⟨_, congrArg (fun z => Value.int z _) ?_⟩ (by k_asm) (by first | with_reducible assumption | exact drop_news (by with_reducible assumption) (by first | with_reducible exact ktn_subA | repeat (first | with_reducible exact sub_refl | with_reducible refine sub_cons ?_ | with_reducible refine sub_skip ?_))); rfl)
theorem ru_A1_9 : True := by
  k_with "CallK" => (k_here; (guard_target = CallK _ _ (Value.ref 64) _ _ _ _); k_dflt (refine' use_ctrX (c_day_in_year _ _ _ _ ?p0_9) ?g9_9 ?n9_9 ?F9_9 ?N9_9 ?_; (case g9_9 => with_reducible assumption); (case n9_9 => exact rfl); (case F9_9 => k_asm); (case N9_9 => k_asm); (case p0_9 => assumption); k_whole); walk_at "uX")
  trivial
/-- the month that holds the moment x of the year y -/
noncomputable def MF (x y i : Int) : Prop := 0 ≤ i ∧ i ≤ 11 ∧ daysAhead i (leap y) ≤ diy x y ∧ diy x y < daysAhead (i + 1) (leap y)
theorem ahead_mono (b : Bool) : ∀ i : Nat, i ≤ 12 → ∀ j : Nat, j ≤ i → daysAhead j b ≤ daysAhead i b := by
  cases b <;> decide +kernel
theorem ahead_lt {b : Bool} {i j : Int} (i0 : 0 ≤ i) (i1 : i ≤ 12) (j0 : 0 ≤ j) (j1 : j ≤ 12) (h : daysAhead i b < daysAhead j b) : i < j := by
  obtain ⟨a, rfl⟩ := Int.eq_ofNat_of_zero_le i0
  obtain ⟨c, rfl⟩ := Int.eq_ofNat_of_zero_le j0
  by_cases q : c ≤ a
  · have := ahead_mono b a (by (first | lia | omega)) c q; (first | lia | omega)
  · (first | lia | omega)
theorem mo_s {b : Bool} {p i x : Int} (hi : i ≤ 11) (h1 : p < daysAhead (i + 1) b) (hx : 0 ≤ x ∧ x ≤ i) (h : daysAhead (x + 1) b ≤ p) : 0 ≤ x + 1 ∧ x + 1 ≤ i := by
  have := ahead_lt (b := b) (i := x + 1) (j := i + 1) (by (first | lia | omega)) (by (first | lia | omega)) (by (first | lia | omega)) (by (first | lia | omega)) (by (first | lia | omega))
  (first | lia | omega)
theorem mo_m {b : Bool} {p i x : Int} (hi : i ≤ 11) (h1 : p < daysAhead (i + 1) b) (hx : 0 ≤ x ∧ x ≤ i) (h : daysAhead (x + 1) b ≤ p) : (i - (x + 1)).toNat < (i - x).toNat := by
  have := mo_s hi h1 hx h
  (first | lia | omega)
theorem mo_e {b : Bool} {p i x : Int} (hi : i ≤ 11) (h0 : daysAhead i b ≤ p) (hx : 0 ≤ x ∧ x ≤ i) (h : ¬ daysAhead (x + 1) b ≤ p) : x = i := by
  have := ahead_lt (b := b) (i := i) (j := x + 1) (by (first | lia | omega)) (by (first | lia | omega)) (by (first | lia | omega)) (by (first | lia | omega)) (by (first | lia | omega))
  (first | lia | omega)
theorem c_month_of (w : World) (x y i : Int) (t : Tok) (hy : YF x y) (hm : MF x y i) : Ctr w 85 5 [.int x t] (intv i) := by
  k_dflt (refine' ctrI_enter (bs := [(Str.ofString "time", _)]) ?k6 ?k7 ?kb ?kB ?kr ?c2 ?c3 ?c4 ?c5 ?_; (case k6 => k_is); (case k7 => k_is); (case kb => exact rfl); (case kB => exact rfl); (case kr => exact rfl); (case c2 => exact rfl); (case c3 => exact rfl); (case c4 => exact rfl); (case c5 => decide))
  intro mean mg mb dp un gd outer A₀ base g' L' h9 gs9 d9 tk9 o9 Q
  intro A9 P9 u9 B' F9 X' N' T' hdp hun hret
  obtain ⟨hm0, hm1, hm2, hm3⟩ := hm
  k_with "exec While Compare cons nil" => k_while (fun _ mm => 0 ≤ mm ∧ mm ≤ i) (fun _ mm => (i - mm).toNat) "month"
  k_with "measure" => exact mo_m hm1 hm3 ⟨by assumption, by assumption⟩ (by assumption)
  k_with "state" => exact mo_s hm1 hm3 ⟨by assumption, by assumption⟩ (by assumption)
  walk_at "steps"
  all_goals first | (refine hret _ _ _ ?_ (by k_asm); exact mo_e hm1 hm2 ⟨by assumption, by assumption⟩ (by assumption)) | (refine hret _ _ _ ?_ (by k_asm) (by first | with_reducible assumption | exact drop_news (by with_reducible assumption) (by first | with_reducible exact ktn_subA | repeat (first | with_reducible exact sub_refl | with_reducible refine sub_cons ?_ | with_reducible refine sub_skip ?_))); exact mo_e hm1 hm2 ⟨by assumption, by assumption⟩ (by assumption)) | (refine hret _ _ _ ⟨_, congrArg (fun z => Value.int z _) ?_⟩ (by k_asm); exact mo_e hm1 hm2 ⟨by assumption, by assumption⟩ (by assumption)) | (refine hret _ _ _ ⟨_, congrArg (fun z => Value.int z _) ?_⟩ (by k_asm) (by first | with_reducible assumption | exact drop_news (by with_reducible assumption) (by first | with_reducible exact ktn_subA | repeat (first | with_reducible exact sub_refl | with_reducible refine sub_cons ?_ | with_reducible refine sub_skip ?_))); exact mo_e hm1 hm2 ⟨by assumption, by assumption⟩ (by assumption))
theorem ru_A1_10 : True := by
  k_with "CallK" => (k_here; (guard_target = CallK _ _ (Value.ref 85) _ _ _ _); k_dflt (refine' use_ctrX (c_month_of _ _ _ _ _ ?p0_9 ?p1_9) ?g9_9 ?n9_9 ?F9_9 ?N9_9 ?_; (case g9_9 => with_reducible assumption); (case n9_9 => exact rfl); (case F9_9 => k_asm); (case N9_9 => k_asm); (case p0_9 => assumption); (case p1_9 => assumption); k_whole); walk_at "uX")
  trivial
noncomputable def dateF (x y i : Int) : Int := diy x y - daysAhead i (leap y) + 1
theorem c_date_of (w : World) (x y i : Int) (t : Tok) (hy : YF x y) (hm : MF x y i) : Ctr w 92 6 [.int x t] (intv (dateF x y i)) := by
  k_dflt (refine' ctrI_enter (bs := [(Str.ofString "time", _)]) ?k6 ?k7 ?kb ?kB ?kr ?c2 ?c3 ?c4 ?c5 ?_; (case k6 => k_is); (case k7 => k_is); (case kb => exact rfl); (case kB => exact rfl); (case kr => exact rfl); (case c2 => exact rfl); (case c3 => exact rfl); (case c4 => exact rfl); (case c5 => decide))
  intro mean mg mb dp un gd outer A₀ base g' L' h9 gs9 d9 tk9 o9 Q
  intro A9 P9 u9 B' F9 X' N' T' hdp hun hret
  have hm0 := hm.1
  have hm1 := hm.2.1
  walk_at "steps"
  all_goals first | (refine hret _ _ _ ?_ (by k_asm); rfl) | (refine hret _ _ _ ?_ (by k_asm) (by first | with_reducible assumption | exact drop_news (by with_reducible assumption) (by first | with_reducible exact ktn_subA | repeat (first | with_reducible exact sub_refl | with_reducible refine sub_cons ?_ | with_reducible refine sub_skip ?_))); rfl) | (refine hret _ _ _ ⟨_, congrArg (fun z => Value.int z _) ?_⟩ (by k_asm); rfl) | (refine hret _ _ _ ⟨_, congrArg (fun z => Value.int z _) ?_⟩ (by k_asm) (by first | with_reducible assumption | exact drop_news (by with_reducible assumption) (by first | with_reducible exact ktn_subA | repeat (first | with_reducible exact sub_refl | with_reducible refine sub_cons ?_ | with_reducible refine sub_skip ?_))); rfl)
theorem ru_A1_11 : True := by
  k_with "CallK" => (k_here; (guard_target = CallK _ _ (Value.ref 92) _ _ _ _); k_dflt (refine' use_ctrX (c_date_of _ _ _ _ _ ?p0_9 ?p1_9) ?g9_9 ?n9_9 ?F9_9 ?N9_9 ?_; (case g9_9 => with_reducible assumption); (case n9_9 => exact rfl); (case F9_9 => k_asm); (case N9_9 => k_asm); (case p0_9 => assumption); (case p1_9 => assumption); k_whole); walk_at "uX")
  trivial
noncomputable def wdF (x : Int) : Int := (x.fdiv 86400000 + 4).fmod 7
theorem c_week_day_of (w : World) (x : Int) (t : Tok) : Ctr w 99 2 [.int x t] (intv (wdF x)) := by
  k_dflt (refine' ctrI_enter (bs := [(Str.ofString "time", _)]) ?k6 ?k7 ?kb ?kB ?kr ?c2 ?c3 ?c4 ?c5 ?_; (case k6 => k_is); (case k7 => k_is); (case kb => exact rfl); (case kB => exact rfl); (case kr => exact rfl); (case c2 => exact rfl); (case c3 => exact rfl); (case c4 => exact rfl); (case c5 => decide))
  intro mean mg mb dp un gd outer A₀ base g' L' h9 gs9 d9 tk9 o9 Q
  intro A9 P9 u9 B' F9 X' N' T' hdp hun hret
  walk_at "steps"
  all_goals first | (refine hret _ _ _ ?_ (by k_asm); rfl) | (refine hret _ _ _ ?_ (by k_asm) (by first | with_reducible assumption | exact drop_news (by with_reducible assumption) (by first | with_reducible exact ktn_subA | repeat (first | with_reducible exact sub_refl | with_reducible refine sub_cons ?_ | with_reducible refine sub_skip ?_))); rfl) | (refine hret _ _ _ ⟨_, congrArg (fun z => Value.int z _) ?_⟩ (by k_asm); rfl) | (refine hret _ _ _ ⟨_, congrArg (fun z => Value.int z _) ?_⟩ (by k_asm) (by first | with_reducible assumption | exact drop_news (by with_reducible assumption) (by first | with_reducible exact ktn_subA | repeat (first | with_reducible exact sub_refl | with_reducible refine sub_cons ?_ | with_reducible refine sub_skip ?_))); rfl)
theorem ru_A1_12 : True := by
  k_with "CallK" => (k_here; (guard_target = CallK _ _ (Value.ref 99) _ _ _ _); k_dflt (refine' use_ctrX (c_week_day_of _ _ _) ?g9_9 ?n9_9 ?F9_9 ?N9_9 ?_; (case g9_9 => with_reducible assumption); (case n9_9 => exact rfl); (case F9_9 => k_asm); (case N9_9 => k_asm); k_whole); walk_at "uX")
  trivial
noncomputable def hourF (x : Int) : Int := (x.fmod 86400000).fdiv 3600000
noncomputable def minF (x : Int) : Int := ((x.fmod 86400000).fdiv 60000).fmod 60
noncomputable def secF (x : Int) : Int := ((x.fmod 86400000).fdiv 1000).fmod 60
noncomputable def msF (x : Int) : Int := x.fmod 1000
theorem c_hour_of (w : World) (x : Int) (t : Tok) : Ctr w 106 2 [.int x t] (intv (hourF x)) := by
  k_dflt (refine' ctrI_enter (bs := [(Str.ofString "time", _)]) ?k6 ?k7 ?kb ?kB ?kr ?c2 ?c3 ?c4 ?c5 ?_; (case k6 => k_is); (case k7 => k_is); (case kb => exact rfl); (case kB => exact rfl); (case kr => exact rfl); (case c2 => exact rfl); (case c3 => exact rfl); (case c4 => exact rfl); (case c5 => decide))
  intro mean mg mb dp un gd outer A₀ base g' L' h9 gs9 d9 tk9 o9 Q
  intro A9 P9 u9 B' F9 X' N' T' hdp hun hret
  walk_at "steps"
  all_goals first | (refine hret _ _ _ ?_ (by k_asm); rfl) | (refine hret _ _ _ ?_ (by k_asm) (by first | with_reducible assumption | exact drop_news (by with_reducible assumption) (by first | with_reducible exact ktn_subA | repeat (first | with_reducible exact sub_refl | with_reducible refine sub_cons ?_ | with_reducible refine sub_skip ?_))); rfl) | (refine hret _ _ _ ⟨_, congrArg (fun z => Value.int z _) ?_⟩ (by k_asm); rfl) | (refine hret _ _ _ ⟨_, congrArg (fun z => Value.int z _) ?_⟩ (by k_asm) (by first | with_reducible assumption | exact drop_news (by with_reducible assumption) (by first | with_reducible exact ktn_subA | repeat (first | with_reducible exact sub_refl | with_reducible refine sub_cons ?_ | with_reducible refine sub_skip ?_))); rfl)
theorem ru_A1_13 : True := by
  k_with "CallK" => (k_here; (guard_target = CallK _ _ (Value.ref 106) _ _ _ _); k_dflt (refine' use_ctrX (c_hour_of _ _ _) ?g9_9 ?n9_9 ?F9_9 ?N9_9 ?_; (case g9_9 => with_reducible assumption); (case n9_9 => exact rfl); (case F9_9 => k_asm); (case N9_9 => k_asm); k_whole); walk_at "uX")
  trivial
theorem c_minute_of (w : World) (x : Int) (t : Tok) : Ctr w 113 2 [.int x t] (intv (minF x)) := by
  k_dflt (refine' ctrI_enter (bs := [(Str.ofString "time", _)]) ?k6 ?k7 ?kb ?kB ?kr ?c2 ?c3 ?c4 ?c5 ?_; (case k6 => k_is); (case k7 => k_is); (case kb => exact rfl); (case kB => exact rfl); (case kr => exact rfl); (case c2 => exact rfl); (case c3 => exact rfl); (case c4 => exact rfl); (case c5 => decide))
  intro mean mg mb dp un gd outer A₀ base g' L' h9 gs9 d9 tk9 o9 Q
  intro A9 P9 u9 B' F9 X' N' T' hdp hun hret
  walk_at "steps"
  all_goals first | (refine hret _ _ _ ?_ (by k_asm); rfl) | (refine hret _ _ _ ?_ (by k_asm) (by first | with_reducible assumption | exact drop_news (by with_reducible assumption) (by first | with_reducible exact ktn_subA | repeat (first | with_reducible exact sub_refl | with_reducible refine sub_cons ?_ | with_reducible refine sub_skip ?_))); rfl) | (refine hret _ _ _ ⟨_, congrArg (fun z => Value.int z _) ?_⟩ (by k_asm); rfl) | (refine hret _ _ _ ⟨_, congrArg (fun z => Value.int z _) ?_⟩ (by k_asm) (by first | with_reducible assumption | exact drop_news (by with_reducible assumption) (by first | with_reducible exact ktn_subA | repeat (first | with_reducible exact sub_refl | with_reducible refine sub_cons ?_ | with_reducible refine sub_skip ?_))); rfl)
theorem ru_A1_14 : True := by
  k_with "CallK" => (k_here; (guard_target = CallK _ _ (Value.ref 113) _ _ _ _); k_dflt (refine' use_ctrX (c_minute_of _ _ _) ?g9_9 ?n9_9 ?F9_9 ?N9_9 ?_; (case g9_9 => with_reducible assumption); (case n9_9 => exact rfl); (case F9_9 => k_asm); (case N9_9 => k_asm); k_whole); walk_at "uX")
  trivial
theorem c_second_of (w : World) (x : Int) (t : Tok) : Ctr w 120 2 [.int x t] (intv (secF x)) := by
  k_dflt (refine' ctrI_enter (bs := [(Str.ofString "time", _)]) ?k6 ?k7 ?kb ?kB ?kr ?c2 ?c3 ?c4 ?c5 ?_; (case k6 => k_is); (case k7 => k_is); (case kb => exact rfl); (case kB => exact rfl); (case kr => exact rfl); (case c2 => exact rfl); (case c3 => exact rfl); (case c4 => exact rfl); (case c5 => decide))
  intro mean mg mb dp un gd outer A₀ base g' L' h9 gs9 d9 tk9 o9 Q
  intro A9 P9 u9 B' F9 X' N' T' hdp hun hret
  walk_at "steps"
  all_goals first | (refine hret _ _ _ ?_ (by k_asm); rfl) | (refine hret _ _ _ ?_ (by k_asm) (by first | with_reducible assumption | exact drop_news (by with_reducible assumption) (by first | with_reducible exact ktn_subA | repeat (first | with_reducible exact sub_refl | with_reducible refine sub_cons ?_ | with_reducible refine sub_skip ?_))); rfl) | (refine hret _ _ _ ⟨_, congrArg (fun z => Value.int z _) ?_⟩ (by k_asm); rfl) | (refine hret _ _ _ ⟨_, congrArg (fun z => Value.int z _) ?_⟩ (by k_asm) (by first | with_reducible assumption | exact drop_news (by with_reducible assumption) (by first | with_reducible exact ktn_subA | repeat (first | with_reducible exact sub_refl | with_reducible refine sub_cons ?_ | with_reducible refine sub_skip ?_))); rfl)
theorem ru_A1_15 : True := by
  k_with "CallK" => (k_here; (guard_target = CallK _ _ (Value.ref 120) _ _ _ _); k_dflt (refine' use_ctrX (c_second_of _ _ _) ?g9_9 ?n9_9 ?F9_9 ?N9_9 ?_; (case g9_9 => with_reducible assumption); (case n9_9 => exact rfl); (case F9_9 => k_asm); (case N9_9 => k_asm); k_whole); walk_at "uX")
  trivial
theorem c_ms_of (w : World) (x : Int) (t : Tok) : Ctr w 127 1 [.int x t] (intv (msF x)) := by
  k_dflt (refine' ctrI_enter (bs := [(Str.ofString "time", _)]) ?k6 ?k7 ?kb ?kB ?kr ?c2 ?c3 ?c4 ?c5 ?_; (case k6 => k_is); (case k7 => k_is); (case kb => exact rfl); (case kB => exact rfl); (case kr => exact rfl); (case c2 => exact rfl); (case c3 => exact rfl); (case c4 => exact rfl); (case c5 => decide))
  intro mean mg mb dp un gd outer A₀ base g' L' h9 gs9 d9 tk9 o9 Q
  intro A9 P9 u9 B' F9 X' N' T' hdp hun hret
  walk_at "steps"
  all_goals first | (refine hret _ _ _ ?_ (by k_asm); rfl) | (refine hret _ _ _ ?_ (by k_asm) (by first | with_reducible assumption | exact drop_news (by with_reducible assumption) (by first | with_reducible exact ktn_subA | repeat (first | with_reducible exact sub_refl | with_reducible refine sub_cons ?_ | with_reducible refine sub_skip ?_))); rfl) | (refine hret _ _ _ ⟨_, congrArg (fun z => Value.int z _) ?_⟩ (by k_asm); rfl) | (refine hret _ _ _ ⟨_, congrArg (fun z => Value.int z _) ?_⟩ (by k_asm) (by first | with_reducible assumption | exact drop_news (by with_reducible assumption) (by first | with_reducible exact ktn_subA | repeat (first | with_reducible exact sub_refl | with_reducible refine sub_cons ?_ | with_reducible refine sub_skip ?_))); rfl)
theorem ru_A1_16 : True := by
  k_with "CallK" => (k_here; (guard_target = CallK _ _ (Value.ref 127) _ _ _ _); k_dflt (refine' use_ctrX (c_ms_of _ _ _) ?g9_9 ?n9_9 ?F9_9 ?N9_9 ?_; (case g9_9 => with_reducible assumption); (case n9_9 => exact rfl); (case F9_9 => k_asm); (case N9_9 => k_asm); k_whole); walk_at "uX")
  k_with "compareOp In" => (k_here; (guard_target = wpAny _ _ (compareOp CmpOp.In Value.none (Value.ref _)) _ _ _); k_dflt (first | (refine' none_in4 ?N_9 ?a_9 ?n_9 ?_; (case N_9 => k_asm); (case a_9 => k_mem); (case n_9 => first | with_reducible assumption | ktr_units); k_whole) | (refine' none_in3 ?N_9 ?a_9 ?n_9 ?_; (case N_9 => k_asm); (case a_9 => k_mem); (case n_9 => first | with_reducible assumption | ktr_units); k_whole)); (try dsimp only))
  trivial
theorem c_make_time (w : World) (a1 a2 a3 a4 : Int) (t1 t2 t3 t4 : Tok) : Ctr w 141 1 [.int a1 t1, .int a2 t2, .int a3 t3, .int a4 t4] (intv (a1 * 3600000 + a2 * 60000 + a3 * 1000 + a4)) := by
  k_dflt (refine' ctrI_enter (bs := [(Str.ofString "ms", _), (Str.ofString "second", _), (Str.ofString "minute", _), (Str.ofString "hour", _)]) ?k6 ?k7 ?kb ?kB ?kr ?c2 ?c3 ?c4 ?c5 ?_; (case k6 => k_is); (case k7 => k_is); (case kb => exact rfl); (case kB => exact rfl); (case kr => exact rfl); (case c2 => exact rfl); (case c3 => exact rfl); (case c4 => exact rfl); (case c5 => decide))
  intro mean mg mb dp un gd outer A₀ base g' L' h9 gs9 d9 tk9 o9 Q
  intro A9 P9 u9 B' F9 X' N' T' hdp hun hret
  walk_at "steps"
  all_goals first | (refine hret _ _ _ ?_ (by k_asm); rfl) | (refine hret _ _ _ ?_ (by k_asm) (by first | with_reducible assumption | exact drop_news (by with_reducible assumption) (by first | with_reducible exact ktn_subA | repeat (first | with_reducible exact sub_refl | with_reducible refine sub_cons ?_ | with_reducible refine sub_skip ?_))); rfl) | (refine hret _ _ _ ⟨_, congrArg (fun z => Value.int z _) ?_⟩ (by k_asm); rfl) | (refine hret _ _ _ ⟨_, congrArg (fun z => Value.int z _) ?_⟩ (by k_asm) (by first | with_reducible assumption | exact drop_news (by with_reducible assumption) (by first | with_reducible exact ktn_subA | repeat (first | with_reducible exact sub_refl | with_reducible refine sub_cons ?_ | with_reducible refine sub_skip ?_))); rfl)
theorem ru_A1_17 : True := by
  k_with "CallK" => (k_here; (guard_target = CallK _ _ (Value.ref 141) _ _ _ _); k_dflt (refine' use_ctrX (c_make_time _ _ _ _ _ _ _ _ _) ?g9_9 ?n9_9 ?F9_9 ?N9_9 ?_; (case g9_9 => with_reducible assumption); (case n9_9 => exact rfl); (case F9_9 => k_asm); (case N9_9 => k_asm); k_whole); walk_at "uX")
  trivial
noncomputable def mkDay (y i d : Int) : Int := dfy (y + i.fdiv 12) + daysAhead (i.fmod 12) (leap (y + i.fdiv 12)) + d - 1
theorem c_make_day (w : World) (y i d : Int) (t1 t2 t3 : Tok) : Ctr w 148 2 [.int y t1, .int i t2, .int d t3] (intv (mkDay y i d)) := by
  k_dflt (refine' ctrI_enter (bs := [(Str.ofString "date", _), (Str.ofString "month", _), (Str.ofString "year", _)]) ?k6 ?k7 ?kb ?kB ?kr ?c2 ?c3 ?c4 ?c5 ?_; (case k6 => k_is); (case k7 => k_is); (case kb => exact rfl); (case kB => exact rfl); (case kr => exact rfl); (case c2 => exact rfl); (case c3 => exact rfl); (case c4 => exact rfl); (case c5 => decide))
  intro mean mg mb dp un gd outer A₀ base g' L' h9 gs9 d9 tk9 o9 Q
  intro A9 P9 u9 B' F9 X' N' T' hdp hun hret
  walk_at "steps"
  all_goals first | (refine hret _ _ _ ?_ (by k_asm); rfl) | (refine hret _ _ _ ?_ (by k_asm) (by first | with_reducible assumption | exact drop_news (by with_reducible assumption) (by first | with_reducible exact ktn_subA | repeat (first | with_reducible exact sub_refl | with_reducible refine sub_cons ?_ | with_reducible refine sub_skip ?_))); rfl) | (refine hret _ _ _ ⟨_, congrArg (fun z => Value.int z _) ?_⟩ (by k_asm); rfl) | (refine hret _ _ _ ⟨_, congrArg (fun z => Value.int z _) ?_⟩ (by k_asm) (by first | with_reducible assumption | exact drop_news (by with_reducible assumption) (by first | with_reducible exact ktn_subA | repeat (first | with_reducible exact sub_refl | with_reducible refine sub_cons ?_ | with_reducible refine sub_skip ?_))); rfl)
theorem ru_A1_18 : True := by
  k_with "CallK" => (k_here; (guard_target = CallK _ _ (Value.ref 148) _ _ _ _); k_dflt (refine' use_ctrX (c_make_day _ _ _ _ _ _ _) ?g9_9 ?n9_9 ?F9_9 ?N9_9 ?_; (case g9_9 => with_reducible assumption); (case n9_9 => exact rfl); (case F9_9 => k_asm); (case N9_9 => k_asm); k_whole); walk_at "uX")
  trivial
theorem c_make_date (w : World) (a1 a2 : Int) (t1 t2 : Tok) : Ctr w 155 1 [.int a1 t1, .int a2 t2] (intv (a1 * 86400000 + a2)) := by
  k_dflt (refine' ctrI_enter (bs := [(Str.ofString "time", _), (Str.ofString "day", _)]) ?k6 ?k7 ?kb ?kB ?kr ?c2 ?c3 ?c4 ?c5 ?_; (case k6 => k_is); (case k7 => k_is); (case kb => exact rfl); (case kB => exact rfl); (case kr => exact rfl); (case c2 => exact rfl); (case c3 => exact rfl); (case c4 => exact rfl); (case c5 => decide))
  intro mean mg mb dp un gd outer A₀ base g' L' h9 gs9 d9 tk9 o9 Q
  intro A9 P9 u9 B' F9 X' N' T' hdp hun hret
  walk_at "steps"
  all_goals first | (refine hret _ _ _ ?_ (by k_asm); rfl) | (refine hret _ _ _ ?_ (by k_asm) (by first | with_reducible assumption | exact drop_news (by with_reducible assumption) (by first | with_reducible exact ktn_subA | repeat (first | with_reducible exact sub_refl | with_reducible refine sub_cons ?_ | with_reducible refine sub_skip ?_))); rfl) | (refine hret _ _ _ ⟨_, congrArg (fun z => Value.int z _) ?_⟩ (by k_asm); rfl) | (refine hret _ _ _ ⟨_, congrArg (fun z => Value.int z _) ?_⟩ (by k_asm) (by first | with_reducible assumption | exact drop_news (by with_reducible assumption) (by first | with_reducible exact ktn_subA | repeat (first | with_reducible exact sub_refl | with_reducible refine sub_cons ?_ | with_reducible refine sub_skip ?_))); rfl)
theorem ru_A1_19 : True := by
  k_with "CallK" => (k_here; (guard_target = CallK _ _ (Value.ref 155) _ _ _ _); k_dflt (refine' use_ctrX (c_make_date _ _ _ _ _) ?g9_9 ?n9_9 ?F9_9 ?N9_9 ?_; (case g9_9 => with_reducible assumption); (case n9_9 => exact rfl); (case F9_9 => k_asm); (case N9_9 => k_asm); k_whole); walk_at "uX")
  trivial
theorem c_local_of (w : World) (a1 a2 : Int) (t1 t2 : Tok) : Ctr w 176 1 [.int a1 t1, .int a2 t2] (intv (a1 + a2 * 60000)) := by
  k_dflt (refine' ctrI_enter (bs := [(Str.ofString "offset", _), (Str.ofString "time", _)]) ?k6 ?k7 ?kb ?kB ?kr ?c2 ?c3 ?c4 ?c5 ?_; (case k6 => k_is); (case k7 => k_is); (case kb => exact rfl); (case kB => exact rfl); (case kr => exact rfl); (case c2 => exact rfl); (case c3 => exact rfl); (case c4 => exact rfl); (case c5 => decide))
  intro mean mg mb dp un gd outer A₀ base g' L' h9 gs9 d9 tk9 o9 Q
  intro A9 P9 u9 B' F9 X' N' T' hdp hun hret
  walk_at "steps"
  all_goals first | (refine hret _ _ _ ?_ (by k_asm); rfl) | (refine hret _ _ _ ?_ (by k_asm) (by first | with_reducible assumption | exact drop_news (by with_reducible assumption) (by first | with_reducible exact ktn_subA | repeat (first | with_reducible exact sub_refl | with_reducible refine sub_cons ?_ | with_reducible refine sub_skip ?_))); rfl) | (refine hret _ _ _ ⟨_, congrArg (fun z => Value.int z _) ?_⟩ (by k_asm); rfl) | (refine hret _ _ _ ⟨_, congrArg (fun z => Value.int z _) ?_⟩ (by k_asm) (by first | with_reducible assumption | exact drop_news (by with_reducible assumption) (by first | with_reducible exact ktn_subA | repeat (first | with_reducible exact sub_refl | with_reducible refine sub_cons ?_ | with_reducible refine sub_skip ?_))); rfl)
theorem ru_A1_20 : True := by
  k_with "CallK" => (k_here; (guard_target = CallK _ _ (Value.ref 176) _ _ _ _); k_dflt (refine' use_ctrX (c_local_of _ _ _ _ _) ?g9_9 ?n9_9 ?F9_9 ?N9_9 ?_; (case g9_9 => with_reducible assumption); (case n9_9 => exact rfl); (case F9_9 => k_asm); (case N9_9 => k_asm); k_whole); walk_at "uX")
  trivial
theorem c_utc_of (w : World) (a1 a2 : Int) (t1 t2 : Tok) : Ctr w 183 1 [.int a1 t1, .int a2 t2] (intv (a1 - a2 * 60000)) := by
  k_dflt (refine' ctrI_enter (bs := [(Str.ofString "offset", _), (Str.ofString "time", _)]) ?k6 ?k7 ?kb ?kB ?kr ?c2 ?c3 ?c4 ?c5 ?_; (case k6 => k_is); (case k7 => k_is); (case kb => exact rfl); (case kB => exact rfl); (case kr => exact rfl); (case c2 => exact rfl); (case c3 => exact rfl); (case c4 => exact rfl); (case c5 => decide))
  intro mean mg mb dp un gd outer A₀ base g' L' h9 gs9 d9 tk9 o9 Q
  intro A9 P9 u9 B' F9 X' N' T' hdp hun hret
  walk_at "steps"
  all_goals first | (refine hret _ _ _ ?_ (by k_asm); rfl) | (refine hret _ _ _ ?_ (by k_asm) (by first | with_reducible assumption | exact drop_news (by with_reducible assumption) (by first | with_reducible exact ktn_subA | repeat (first | with_reducible exact sub_refl | with_reducible refine sub_cons ?_ | with_reducible refine sub_skip ?_))); rfl) | (refine hret _ _ _ ⟨_, congrArg (fun z => Value.int z _) ?_⟩ (by k_asm); rfl) | (refine hret _ _ _ ⟨_, congrArg (fun z => Value.int z _) ?_⟩ (by k_asm) (by first | with_reducible assumption | exact drop_news (by with_reducible assumption) (by first | with_reducible exact ktn_subA | repeat (first | with_reducible exact sub_refl | with_reducible refine sub_cons ?_ | with_reducible refine sub_skip ?_))); rfl)
theorem ru_A1_21 : True := by
  k_with "CallK" => (k_here; (guard_target = CallK _ _ (Value.ref 183) _ _ _ _); k_dflt (refine' use_ctrX (c_utc_of _ _ _ _ _) ?g9_9 ?n9_9 ?F9_9 ?N9_9 ?_; (case g9_9 => with_reducible assumption); (case n9_9 => exact rfl); (case F9_9 => k_asm); (case N9_9 => k_asm); k_whole); walk_at "uX")
  trivial
noncomputable def clipF (x : Int) : Option Int := if x.natAbs ≤ 8640000000000000 then some x else none
noncomputable def optv (o : Option Int) (r : Value) : Prop := match o with
  | some i => ∃ t, r = .int i t
  | none => r = .none
theorem c_time_clip (w : World) (x : Int) (t : Tok) : Ctr w 162 1 [.int x t] (optv (clipF x)) := by
  k_dflt (refine' ctr_enter (bs := [(Str.ofString "time", _)]) ?k6 ?k7 ?kb ?kB ?kr ?c2 ?c3 ?c4 ?c5 ?_; (case k6 => k_is); (case k7 => k_is); (case kb => exact rfl); (case kB => exact rfl); (case kr => exact rfl); (case c2 => exact rfl); (case c3 => exact rfl); (case c4 => exact rfl); (case c5 => decide))
  intro mean mg mb dp un gd outer A₀ base g' L' h9 gs9 d9 tk9 o9 Q
  intro A9 P9 u9 B' F9 X' N' T' hdp hun hret
  walk_at "steps"
  all_goals first | (refine hret _ _ _ ?_ (by k_asm); (unfold clipF; first | (rw [if_pos (by law_clear; split at * <;> omega)]; exact ⟨_, rfl⟩) | (rw [if_neg (by law_clear; split at * <;> omega)]; exact rfl))) | (refine hret _ _ _ ?_ (by k_asm) (by first | with_reducible assumption | exact drop_news (by with_reducible assumption) (by first | with_reducible exact ktn_subA | repeat (first | with_reducible exact sub_refl | with_reducible refine sub_cons ?_ | with_reducible refine sub_skip ?_))); (unfold clipF; first | (rw [if_pos (by law_clear; split at * <;> omega)]; exact ⟨_, rfl⟩) | (rw [if_neg (by law_clear; split at * <;> omega)]; exact rfl)))
theorem ru_A1_22 : True := by
  k_with "CallK" => (k_here; (guard_target = CallK _ _ (Value.ref 162) _ _ _ _); k_dflt (refine' use_ctr (c_time_clip _ _ _) ?g9_9 ?n9_9 ?F9_9 ?N9_9 ?_; (case g9_9 => with_reducible assumption); (case n9_9 => exact rfl); (case F9_9 => k_asm); (case N9_9 => k_asm); k_whole); intro r9 h9 tk9 hP9 F9 N9; (try dsimp only); (try k_sweep); (try k_fold))
  trivial
end

section -- T0
theorem rst_T0 : True := by
  w_top off
  trivial
open PySem PySem.W PySem.Calls PyProof.Rows
open PySem.Builtin PySem.Builtin.Str
theorem mk_app (a b : List Nat) : mk a ++ mk b = mk (a ++ b) := Str.ext' (by rw [Str.cps_append]; simp)
theorem mk_len (a : List Nat) : (mk a).length = a.length := by simp [Str.length]
theorem mk_list (x : Str) : x = mk x.cps.toList := Str.ext' (by simp)
theorem mk_inj {a b : List Nat} : mk a = mk b ↔ a = b := ⟨fun h => by simpa using congrArg (fun s => s.cps.toList) h, fun h => by rw [h]⟩
theorem item_mk {l : List Nat} {i : Int} (h0 : 0 ≤ i) (h1 : i < l.length) : Txt.item (mk l) i = mk [l.getD i.toNat 0] := by
  obtain ⟨k, rfl⟩ := Int.eq_ofNat_of_zero_le h0
  have hk : k < l.length := by (first | lia | omega)
  unfold Txt.item Txt.charAt seqIndex?
  have a : ¬ ((k : Int) < 0) := by (first | lia | omega)
  have b : (0 ≤ (k : Int) && (k : Int) < ((mk l).length : Int)) = true := by rw [mk_len]; simp; (first | lia | omega)
  simp only [a, if_false, b, if_true, Option.bind_some]
  simp [hk]
theorem idx_min {i j : Int} {n : Nat} (h0 : 0 ≤ i) (h1 : 0 ≤ j) : strSliceIndices (some i) (some j) 1 n = strSliceIndices (some (min i n)) (some (min j n)) 1 n := by
  have a1 : ¬ (i < 0) := by (first | lia | omega)
  have a2 : ¬ (j < 0) := by (first | lia | omega)
  have a3 : ¬ (min i (n : Int) < 0) := by (first | lia | omega)
  have a4 : ¬ (min j (n : Int) < 0) := by (first | lia | omega)
  have e1 : min (min i (n : Int)) (n : Int) = min i n := by (first | lia | omega)
  have e2 : min (min j (n : Int)) (n : Int) = min j n := by (first | lia | omega)
  simp only [strSliceIndices, a1, a2, a3, a4, if_false, e1, e2, show ((1 : Int) > 0) = True by simp, if_true]
theorem drop_take_min (l : List Nat) (i j : Nat) (h : i ≤ j) : (l.drop (min i l.length)).take (min j l.length - min i l.length) = (l.drop i).take (j - i) := by
  by_cases hi : i ≤ l.length
  · rw [Nat.min_eq_left hi]
    by_cases hj : j ≤ l.length
    · rw [Nat.min_eq_left hj]
    · rw [Nat.min_eq_right (by (first | lia | omega)), List.take_of_length_le (by simp), List.take_of_length_le (by simp; (first | lia | omega))]
  · rw [Nat.min_eq_right (by (first | lia | omega)), Nat.min_eq_right (by (first | lia | omega))]
    simp [List.drop_of_length_le (show l.length ≤ i by (first | lia | omega))]
theorem slice_ss (l : List Nat) {i j : Int} (h0 : 0 ≤ i) (h1 : i ≤ j) : Txt.slice (mk l) (some i) (some j) = mk ((l.drop i.toNat).take (j - i).toNat) := by
  obtain ⟨a, rfl⟩ := Int.eq_ofNat_of_zero_le h0
  obtain ⟨b, rfl⟩ := Int.eq_ofNat_of_zero_le (show 0 ≤ j by (first | lia | omega))
  show StrLaws.sliceText (mk l) _ _ = _
  have e : StrLaws.sliceText (mk l) (some (a : Int)) (some (b : Int)) = StrLaws.sliceText (mk l) (some ((min a l.length : Nat) : Int)) (some ((min b l.length : Nat) : Int)) := by
    unfold StrLaws.sliceText
    rw [idx_min (by (first | lia | omega)) (by (first | lia | omega)), mk_len, show min (a : Int) (l.length : Int) = ((min a l.length : Nat) : Int) by (first | lia | omega), show min (b : Int) (l.length : Int) = ((min b l.length : Nat) : Int) by (first | lia | omega)]
  rw [e, StrLaws.sliceText_nat _ (by (first | lia | omega)) (by rw [mk_len]; (first | lia | omega))]
  show mk _ = mk _
  rw [show (mk l).cps.toList = l by simp, drop_take_min l a b (by (first | lia | omega)), show ((b : Int) - (a : Int)).toNat = b - a by (first | lia | omega)]
  rfl
theorem slice_ns (l : List Nat) {j : Int} (h1 : 0 ≤ j) : Txt.slice (mk l) none (some j) = mk (l.take j.toNat) := by
  have e : Txt.slice (mk l) none (some j) = Txt.slice (mk l) (some 0) (some j) := by
    show StrLaws.sliceText _ _ _ = StrLaws.sliceText _ _ _
    unfold StrLaws.sliceText; rw [StrLaws.sliceIdx_none_lo]
  rw [e, slice_ss l (by (first | lia | omega)) h1]; simp
theorem slice_sn (l : List Nat) {i : Int} (h0 : 0 ≤ i) : Txt.slice (mk l) (some i) none = mk (l.drop i.toNat) := by
  have e : Txt.slice (mk l) (some i) none = Txt.slice (mk l) (some i) (some (l.length : Int)) := by
    show StrLaws.sliceText _ _ _ = StrLaws.sliceText _ _ _
    unfold StrLaws.sliceText; rw [StrLaws.sliceIdx_none_hi, mk_len]
  rw [e]
  by_cases h : i ≤ l.length
  · rw [slice_ss l h0 h, List.take_of_length_le (by simp; (first | lia | omega))]
  · show StrLaws.sliceText _ _ _ = _
    unfold StrLaws.sliceText
    rw [idx_min h0 (by (first | lia | omega)), mk_len, show min i (l.length : Int) = ((l.length : Nat) : Int) by (first | lia | omega), show min (l.length : Int) (l.length : Int) = ((l.length : Nat) : Int) by (first | lia | omega)]
    have := StrLaws.sliceText_nat (mk l) (Nat.le_refl l.length) (by rw [mk_len]; (first | lia | omega))
    unfold StrLaws.sliceText at this
    rw [mk_len] at this
    rw [this]
    simp [List.drop_of_length_le (show l.length ≤ i.toNat by (first | lia | omega))]
theorem slice_nm1 (l : List Nat) : Txt.slice (mk l) none (some (-1)) = mk (l.take (l.length - 1)) := by
  rw [slice_to_neg (by (first | lia | omega)), mk_len, slice_ns l (by (first | lia | omega))]
  congr 2; congr 1; (first | lia | omega)
noncomputable abbrev FIG : Str := Str.ofString "0123456789"
noncomputable def isDig (c : Nat) : Bool := 48 ≤ c && c ≤ 57
theorem fig_mk : FIG = mk [48, 49, 50, 51, 52, 53, 54, 55, 56, 57] := by decide +kernel
theorem fig_item {i : Int} (h0 : 0 ≤ i) (h1 : i < 10) : Txt.item FIG i = mk [48 + i.toNat] := by
  obtain ⟨k, rfl⟩ := Int.eq_ofNat_of_zero_le h0
  exact (by decide +kernel : ∀ k < 10, Txt.item FIG ((k : Nat) : Int) = mk [48 + k]) k (Int.ofNat_lt.mp h1)
theorem item_len (x : Str) (i : Int) : (Txt.item x i).length = 1 := rfl
theorem dig_mem (c : Nat) : decide (c ∈ FIG.cps.toList) = isDig c := by
  rw [fig_mk]
  by_cases h : c < 58
  · exact (by decide +kernel : ∀ c < 58, decide (c ∈ (mk [48, 49, 50, 51, 52, 53, 54, 55, 56, 57]).cps.toList) = isDig c) c h
  · have a : isDig c = false := by unfold isDig; rw [Bool.and_eq_false_iff]; exact .inr (decide_eq_false (fun q => h (Nat.lt_succ_of_le q)))
    rw [a, decide_eq_false_iff_not]
    exact fun q => h ((by decide +kernel : ∀ x ∈ (mk [48, 49, 50, 51, 52, 53, 54, 55, 56, 57]).cps.toList, x < 58) c q)
theorem find_fig (c : Nat) : Txt.find FIG (mk [c]) = if isDig c = true then (c : Int) - 48 else -1 := by
  by_cases h : isDig c = true
  · rw [if_pos h]
    unfold isDig at h
    simp only [Bool.and_eq_true, decide_eq_true_eq] at h
    obtain ⟨k, rfl⟩ := Nat.exists_eq_add_of_le h.1
    exact (by decide +kernel : ∀ k < 10, Txt.find FIG (mk [48 + k]) = ((48 + k : Nat) : Int) - 48) k (by (first | lia | omega))
  · rw [if_neg h]
    have f := StrLaws.found_one FIG c
    rw [dig_mem, Bool.eq_false_iff.mpr h] at f
    unfold Txt.find
    have e : occurrences FIG (mk [c]) 0 FIG.length 1 = [] := by
      cases q : occurrences FIG (mk [c]) 0 FIG.length 1 with
      | nil => rfl
      | cons a r => 
        have q' : occurrences FIG ⟨#[c]⟩ 0 FIG.length 1 = a :: r := q
        rw [q'] at f; simp at f
    rw [e]
theorem in_fig (c : Nat) : Txt.contains FIG (mk [c]) = isDig c := (StrLaws.found_one FIG c).trans (dig_mem c)

/-- the last k figures of n -/
noncomputable def figs (n : Nat) : Nat → List Nat
  | 0 => []
  | k + 1 => (48 + n / 10 ^ k % 10) :: figs n k
theorem figs_len (n k : Nat) : (figs n k).length = k := by
  induction k with
  | zero => rfl
  | succ k ih => simp [figs, ih]
theorem figs_dig (n k : Nat) : ∀ c ∈ figs n k, isDig c = true := by
  induction k with
  | zero => intro c h; cases h
  | succ k ih =>
    intro c h
    rcases List.mem_cons.mp h with rfl | h
    · unfold isDig; simp; (first | lia | omega)
    · exact ih c h
theorem pad_s {N : Int} {W : Nat} {f : Str} {n : Int} {x : Str} (hN : 0 ≤ N) (hW : N < ((10 ^ W : Nat) : Int)) (i1 : f = mk (figs N.toNat f.length)) (i2 : n = ((N.toNat / 10 ^ f.length : Nat) : Int)) (i3 : f.length ≤ W)
    (hc : 0 < n ∨ (f.length : Int) < (W : Int)) (hx : x = Txt.item FIG (n.fmod 10) ++ f) : x = mk (figs N.toNat x.length) ∧ n.fdiv 10 = ((N.toNat / 10 ^ x.length : Nat) : Int) ∧ x.length ≤ W := by
  have hl : x.length = f.length + 1 := by rw [hx, Str.length_append, item_len]; (first | lia | omega)
  obtain ⟨M, rfl⟩ := Int.eq_ofNat_of_zero_le hN
  have hM : M < 10 ^ W := by (first | lia | omega)
  simp only [Int.toNat_natCast] at *
  have lt : f.length < W := by
    rcases hc with hc | hc
    · rcases Nat.lt_or_ge f.length W with q | q
      · exact q
      · have : M / 10 ^ f.length = 0 := Nat.div_eq_of_lt (Nat.lt_of_lt_of_le hM (Nat.pow_le_pow_right (by (first | lia | omega)) q))
        rw [this] at i2; (first | lia | omega)
    · (first | lia | omega)
  refine ⟨?_, ?_, by (first | lia | omega)⟩
  · rw [hl, figs]
    show x = mk ([48 + M / 10 ^ f.length % 10] ++ figs M f.length)
    rw [← mk_app, ← i1, hx, fig_item (by rw [i2]; rw [Int.fmod_eq_emod_of_nonneg _ (by (first | lia | omega))]; (first | lia | omega)) (by rw [Int.fmod_eq_emod_of_nonneg _ (by (first | lia | omega))]; (first | lia | omega))]
    congr 3
    rw [i2, Int.fmod_eq_emod_of_nonneg _ (by (first | lia | omega))]
    (first | lia | omega)
  · rw [i2, hl, Nat.pow_succ, ← Nat.div_div_eq_div_mul, Int.fdiv_eq_ediv_of_nonneg _ (by (first | lia | omega))]
    (first | lia | omega)
theorem pad_m {N : Int} {W : Nat} {f : Str} {n : Int} {x : Str} (hN : 0 ≤ N) (hW : N < ((10 ^ W : Nat) : Int)) (i1 : f = mk (figs N.toNat f.length)) (i2 : n = ((N.toNat / 10 ^ f.length : Nat) : Int)) (i3 : f.length ≤ W)
    (hc : 0 < n ∨ (f.length : Int) < (W : Int)) (hx : x = Txt.item FIG (n.fmod 10) ++ f) : W - x.length < W - f.length := by
  have a := (pad_s hN hW i1 i2 i3 hc hx).2.2
  have hl : x.length = f.length + 1 := by rw [hx, Str.length_append, item_len]; (first | lia | omega)
  (first | lia | omega)
theorem pad_e {N : Int} {W : Nat} {f : Str} (i1 : f = mk (figs N.toNat f.length)) (i3 : f.length ≤ W) (hc : ¬ (f.length : Int) < (W : Int)) : f = mk (figs N.toNat W) := by
  rw [i1, show f.length = W by (first | lia | omega)]
theorem nil_mk : Str.ofString "" = mk [] := by decide +kernel
theorem pad_0 {N : Int} (hN : 0 ≤ N) (W : Nat) : Str.ofString "" = mk (figs N.toNat (Str.ofString "").length) ∧ N = ((N.toNat / 10 ^ (Str.ofString "").length : Nat) : Int) ∧ (Str.ofString "").length ≤ W := by
  rw [nil_mk, mk_len]
  simp only [List.length_nil, Nat.pow_zero, Nat.div_one, figs]
  exact ⟨trivial, by (first | lia | omega), by (first | lia | omega)⟩
theorem lit0 : Str.ofString "" = mk [] := by decide +kernel
theorem lit1 : Str.ofString "-" = mk [45] := by decide +kernel
theorem lit2 : Str.ofString "+" = mk [43] := by decide +kernel
theorem lit3 : Str.ofString " GMT" = mk [32, 71, 77, 84] := by decide +kernel
theorem lit4 : Str.ofString ":" = mk [58] := by decide +kernel
theorem lit5 : Str.ofString "T" = mk [84] := by decide +kernel
theorem lit6 : Str.ofString ", " = mk [44, 32] := by decide +kernel
theorem lit7 : Str.ofString " " = mk [32] := by decide +kernel
theorem lit8 : Str.ofString "." = mk [46] := by decide +kernel
theorem lit9 : Str.ofString "+23:59" = mk [43, 50, 51, 58, 53, 57] := by decide +kernel
theorem lit10 : Str.ofString "+24:00" = mk [43, 50, 52, 58, 48, 48] := by decide +kernel
theorem lit11 : Str.ofString "-00:59" = mk [45, 48, 48, 58, 53, 57] := by decide +kernel
theorem lit12 : Str.ofString "-00:60" = mk [45, 48, 48, 58, 54, 48] := by decide +kernel
theorem lit13 : Str.ofString ".999Z" = mk [46, 57, 57, 57, 90] := by decide +kernel
theorem lit14 : Str.ofString ".99Z" = mk [46, 57, 57, 90] := by decide +kernel
theorem lit15 : Str.ofString "Z" = mk [90] := by decide +kernel
theorem lit16 : Str.ofString "Z " = mk [90, 32] := by decide +kernel
theorem lit17 : Str.ofString ":00" = mk [58, 48, 48] := by decide +kernel
theorem lit18 : Str.ofString ".000" = mk [46, 48, 48, 48] := by decide +kernel
theorem lit19 : Str.ofString "+0100" = mk [43, 48, 49, 48, 48] := by decide +kernel
theorem lit20 : Str.ofString "2400" = mk [50, 52, 48, 48] := by decide +kernel
theorem lit21 : Str.ofString "0060" = mk [48, 48, 54, 48] := by decide +kernel
theorem lit22 : Str.ofString "GMT" = mk [71, 77, 84] := by decide +kernel
theorem lit23 : Str.ofString "Jux" = mk [74, 117, 120] := by decide +kernel
theorem lit24 : Str.ofString "32" = mk [51, 50] := by decide +kernel
theorem lit25 : Str.ofString "00" = mk [48, 48] := by decide +kernel
theorem lit26 : Str.ofString "x" = mk [120] := by decide +kernel
theorem lit27 : Str.ofString "24" = mk [50, 52] := by decide +kernel
theorem lit28 : Str.ofString "60" = mk [54, 48] := by decide +kernel
theorem lit29 : Str.ofString "gmt" = mk [103, 109, 116] := by decide +kernel
theorem lit30 : Str.ofString "2000-01-01T24:00:00.001Z" = mk [50, 48, 48, 48, 45, 48, 49, 45, 48, 49, 84, 50, 52, 58, 48, 48, 58, 48, 48, 46, 48, 48, 49, 90] := by decide +kernel
theorem lit31 : Str.ofString "2000-01-01T24:00:00.000Z" = mk [50, 48, 48, 48, 45, 48, 49, 45, 48, 49, 84, 50, 52, 58, 48, 48, 58, 48, 48, 46, 48, 48, 48, 90] := by decide +kernel
theorem lit32 : Str.ofString "2000-01-02" = mk [50, 48, 48, 48, 45, 48, 49, 45, 48, 50] := by decide +kernel
theorem lit33 : Str.ofString ".000Z" = mk [46, 48, 48, 48, 90] := by decide +kernel
theorem lit34 : Str.ofString "Jan" = mk [74, 97, 110] := by decide +kernel
theorem lit35 : Str.ofString "Feb" = mk [70, 101, 98] := by decide +kernel
theorem lit36 : Str.ofString "Mar" = mk [77, 97, 114] := by decide +kernel
theorem lit37 : Str.ofString "Apr" = mk [65, 112, 114] := by decide +kernel
theorem lit38 : Str.ofString "May" = mk [77, 97, 121] := by decide +kernel
theorem lit39 : Str.ofString "Jun" = mk [74, 117, 110] := by decide +kernel
theorem lit40 : Str.ofString "Jul" = mk [74, 117, 108] := by decide +kernel
theorem lit41 : Str.ofString "Aug" = mk [65, 117, 103] := by decide +kernel
theorem lit42 : Str.ofString "Sep" = mk [83, 101, 112] := by decide +kernel
theorem lit43 : Str.ofString "Oct" = mk [79, 99, 116] := by decide +kernel
theorem lit44 : Str.ofString "Nov" = mk [78, 111, 118] := by decide +kernel
theorem lit45 : Str.ofString "Dec" = mk [68, 101, 99] := by decide +kernel
theorem lit46 : Str.ofString "Sun" = mk [83, 117, 110] := by decide +kernel
theorem lit47 : Str.ofString "Mon" = mk [77, 111, 110] := by decide +kernel
theorem lit48 : Str.ofString "Tue" = mk [84, 117, 101] := by decide +kernel
theorem lit49 : Str.ofString "Wed" = mk [87, 101, 100] := by decide +kernel
theorem lit50 : Str.ofString "Thu" = mk [84, 104, 117] := by decide +kernel
theorem lit51 : Str.ofString "Fri" = mk [70, 114, 105] := by decide +kernel
theorem lit52 : Str.ofString "Sat" = mk [83, 97, 116] := by decide +kernel
theorem lit53 : Str.ofString "Invalid Date" = mk [73, 110, 118, 97, 108, 105, 100, 32, 68, 97, 116, 101] := by decide +kernel
noncomputable def wdL : List (List Nat) := [[83, 117, 110], [77, 111, 110], [84, 117, 101], [87, 101, 100], [84, 104, 117], [70, 114, 105], [83, 97, 116]]
noncomputable def moL : List (List Nat) := [[74, 97, 110], [70, 101, 98], [77, 97, 114], [65, 112, 114], [77, 97, 121], [74, 117, 110], [74, 117, 108], [65, 117, 103], [83, 101, 112], [79, 99, 116], [78, 111, 118], [68, 101, 99]]
noncomputable def wdN (i : Int) : List Nat := wdL.getD i.toNat []
noncomputable def moN (i : Int) : List Nat := moL.getD i.toNat []
theorem wdN_len {i : Int} (h0 : 0 ≤ i) (h1 : i < 7) : (wdN i).length = 3 := by
  obtain ⟨k, rfl⟩ := Int.eq_ofNat_of_zero_le h0
  have h : k < 7 := by (first | lia | omega)
  match k, h with
  | 0, _ | 1, _ | 2, _ | 3, _ | 4, _ | 5, _ | 6, _ => rfl
theorem moN_len {i : Int} (h0 : 0 ≤ i) (h1 : i < 12) : (moN i).length = 3 := by
  obtain ⟨k, rfl⟩ := Int.eq_ofNat_of_zero_le h0
  have h : k < 12 := by (first | lia | omega)
  match k, h with
  | 0, _ | 1, _ | 2, _ | 3, _ | 4, _ | 5, _ | 6, _ | 7, _ | 8, _ | 9, _ | 10, _ | 11, _ => rfl
theorem wd_at {i : Int} (h0 : 0 ≤ i) (h1 : i < 7) : ∃ t, [Value.str (Str.ofString "Sun") 427, Value.str (Str.ofString "Mon") 428, Value.str (Str.ofString "Tue") 429, Value.str (Str.ofString "Wed") 430, Value.str (Str.ofString "Thu") 431, Value.str (Str.ofString "Fri") 432, Value.str (Str.ofString "Sat") 433][i.toNat]? = some (Value.str (mk (wdN i)) t) := by
  obtain ⟨k, rfl⟩ := Int.eq_ofNat_of_zero_le h0
  have h : k < 7 := by (first | lia | omega)
  rw [lit46, lit47, lit48, lit49, lit50, lit51, lit52]
  match k, h with
  | 0, _ | 1, _ | 2, _ | 3, _ | 4, _ | 5, _ | 6, _ => exact ⟨_, rfl⟩
theorem mo_at {i : Int} (h0 : 0 ≤ i) (h1 : i < 12) : ∃ t, [Value.str (Str.ofString "Jan") 414, Value.str (Str.ofString "Feb") 415, Value.str (Str.ofString "Mar") 416, Value.str (Str.ofString "Apr") 417, Value.str (Str.ofString "May") 418, Value.str (Str.ofString "Jun") 419, Value.str (Str.ofString "Jul") 420, Value.str (Str.ofString "Aug") 421,
        Value.str (Str.ofString "Sep") 422, Value.str (Str.ofString "Oct") 423, Value.str (Str.ofString "Nov") 424, Value.str (Str.ofString "Dec") 425][i.toNat]? = some (Value.str (mk (moN i)) t) := by
  obtain ⟨k, rfl⟩ := Int.eq_ofNat_of_zero_le h0
  have h : k < 12 := by (first | lia | omega)
  rw [lit34, lit35, lit36, lit37, lit38, lit39, lit40, lit41, lit42, lit43, lit44, lit45]
  match k, h with
  | 0, _ | 1, _ | 2, _ | 3, _ | 4, _ | 5, _ | 6, _ | 7, _ | 8, _ | 9, _ | 10, _ | 11, _ => exact ⟨_, rfl⟩
noncomputable def val (l : List Nat) : Int := l.foldl (fun (a : Int) (c : Nat) => a * 10 + ((c : Int) - 48)) 0
theorem val_nil : val [] = 0 := rfl
theorem val_snoc (l : List Nat) (c : Nat) : val (l ++ [c]) = val l * 10 + ((c : Int) - 48) := by simp only [val, List.foldl_append, List.foldl_cons, List.foldl_nil]
noncomputable def nofF (l : List Nat) : Option Int := if l = [] then none else if l.all isDig = true then some (val l) else none
end

section -- A2
theorem rst_A2 : True := by
  w_top off
  trivial
open PySem PySem.W PySem.Calls PyProof.Rows
theorem ru_A2_0 : True := by
  k_with_none
  k_with "steps" => (repeat' (first | k_unfold | (k_end; kc_close) | walk1 | (dsimp only; walk1) | (leave1; (try dsimp only)) | fail "no step"))
  k_with "eval Constant int" => (k_here; (with_reducible refine ct9 ?_); intro _ _)
  k_with "eval Constant str" => (k_here; (with_reducible refine cs9 ?_); intro _ _)
  k_with "binaryOp Add int int" => (k_here; (with_reducible refine ar_add ?_); intro _ _)
  k_with "binaryOp Sub int int" => (k_here; (with_reducible refine ar_sub ?_); intro _ _)
  k_with "binaryOp Mult int int" => (k_here; (with_reducible refine' ar_mul ?_ ?m9_9); k_dflt (case m9_9 => mul_fits); intro _ _)
  k_with "binaryOp FloorDiv int int" => (k_here; (with_reducible refine' ar_div ?b9_9 ?_ ?p9_9); k_dflt (case b9_9 => decide); k_dflt (case p9_9 => first | exact PyProof.noPylong_of_log2 (by decide +kernel) | exact PyProof.noPylong_small (by omega)); intro _ _)
  k_with "binaryOp Mod int int" => (k_here; (with_reducible refine ar_mod ?b9_9 ?_); (case b9_9 => first | decide | omega | assumption); intro _ _)
  k_with "inplaceOp Add int int" => (k_here; (with_reducible refine ar_iadd ?_); intro _ _)
  k_with "storeName" => (k_here; k_dflt (refine' st9 ?F_9 ?N_9 ?_ ?a_9 ?b_9; (case F_9 => with_reducible assumption); (case N_9 => with_reducible assumption); (case a_9 => exact rfl); (case b_9 => exact rfl); k_whole); intro h9 k9 F9 N9; (try k_sweep))
  k_with "newTuple" => (k_here; kup_bare; k_dflt (refine' nt9 ?F_9 ?N_9 ?_ ?z_9; (case F_9 => with_reducible assumption); (case N_9 => with_reducible assumption); (case z_9 => kmk_size)); intro D9 h9 F9 N9; (try k_sweep))
  k_with "eval Tuple" => (k_here; k_whole; (with_reducible refine tk_go ?h9_9 ?_); k_dflt (case h9_9 => exact rfl))
  k_with "eval Tuple" => (k_here; walk_at "fold")
  k_with "TupK" => (k_here; (with_reducible refine tk_e ?_))
  k_with "TupK" => (k_here; (with_reducible refine' tk_n ?k1_9 ?k2_9 ?k3_9 ?k4_9 ?k5_9 ?_); k_dflt ((case k3_9 => exact rfl); (case k4_9 => exact rfl); (case k1_9 => k_asm); (case k2_9 => exact rfl); (case k5_9 => exact rfl); k_whole))
  k_with "TupK" => (k_here; (with_reducible refine tk_i ?_); intro _ _)
  k_with "TupK" => (k_here; (first | with_reducible refine tk_2 ?_ | with_reducible refine tk_3 ?_ | with_reducible refine tk_4 ?_ | with_reducible refine tk_5 ?_ | with_reducible refine tk_6 ?_))
  k_with "uX" => (intro t9 h9 tk9 F9 N9; (try dsimp only); (try k_sweep); (try k_fold))
  k_with "uV" => (intro h9 tk9 F9 N9; (try dsimp only); (try k_sweep); (try k_fold))
  k_with "callWith ref" => (k_here; k_dflt (first | (refine' cw_K0 ?k1_9 ?k2_9 ?_; (case k1_9 => k_is); (case k2_9 => exact rfl); k_whole) | (refine' cw_K1 ?k1_9 ?k2_9 ?_; (case k1_9 => k_is); (case k2_9 => exact rfl); k_whole)))
  k_with "eval Call" => (k_here; (with_reducible refine' cg_K ?k1_9 ?k2_9 ?k3_9 ?k4_9 ?k5_9 ?k6_9 ?k7_9 ?k8_9 ?k9_9 ?_); k_dflt ((case k7_9 => exact rfl); (case k8_9 => exact rfl); (case k9_9 => exact rfl); (case k1_9 => k_asm); (case k2_9 => k_asm); (case k3_9 => k_asm); (case k4_9 => k_is); (case k5_9 => exact rfl); (case k6_9 => k_is); k_whole))
  k_with "eval Name" => (k_here; k_dflt (refine' nm9 ?k1_9 ?k2_9 ?k3_9 ?k4_9 ?k5_9 ?_; (case k4_9 => exact rfl); (case k3_9 => exact rfl); (case k1_9 => k_asm); (case k2_9 => exact rfl); (case k5_9 => exact rfl); k_whole))
  k_with "fold" => (k_whole; (fail_if_success (fail_if_success k_fold)); refine fold9 ?_; intro qk)
  k_with "eval Call" => (k_here; walk_at "fold")
  k_with "eval BinOp" => (k_here; walk_at "fold")
  k_with "ArgK" => (k_here; (with_reducible refine ak_e ?_))
  k_with "ArgK" => (k_here; (with_reducible refine' ak_n ?k1_9 ?k2_9 ?k3_9 ?k4_9 ?k5_9 ?_); k_dflt ((case k3_9 => exact rfl); (case k4_9 => exact rfl); (case k1_9 => k_asm); (case k2_9 => exact rfl); (case k5_9 => exact rfl); k_whole))
  k_with "ArgK" => (k_here; (first | with_reducible refine ak_i ?_ | with_reducible refine ak_s ?_); intro _ _)
  k_with "ArgK" => (k_here; (first | with_reducible refine ak_1 ?_ | with_reducible refine ak_2 ?_ | with_reducible refine ak_3 ?_ | with_reducible refine ak_4 ?_ | with_reducible refine ak_0 ?_))
  k_with "ne" => first | with_reducible assumption | exact ne_news (by with_reducible assumption) (by k_mem) (by k_mem) rfl | k_ne
  k_with "upd" => first | (refine' Upd.head ?a_9; (case a_9 => walk_at "nall")) | (refine' Upd.tail ?a_9 ?b_9; (case a_9 => walk_at "ne"); (case b_9 => walk_at "upd"))
  k_with "setAttr ref" => (k_here; k_dflt (refine' set_dict ?k1_9 ?k2_9 ?k3_9 ?k4_9 ?k5_9 ?k6_9 ?k7_9 ?k8_9 ?k9_9 ?k10_9 ?k11_9 ?k12_9 ?k13_9 ?_; (case k1_9 => k_asm); (case k2_9 => k_asm); (case k3_9 => k_asm); (case k4_9 => k_inst); (case k5_9 => exact rfl); (case k6_9 => k_is); (case k7_9 => k_is); (case k8_9 => k_is); (case k9_9 => k_is); (case k10_9 => k_get); (case k11_9 => k_put); (case k12_9 => walk_at "upd"); (case k13_9 => exact Nat.le_of_ble_eq_true rfl); k_whole); intro h' F' N'; (try k_sweep))
  k_with "nall" => first | exact List.forall_mem_nil _ | (refine' List.forall_mem_cons.mpr ⟨?a_9, ?b_9⟩; (case a_9 => walk_at "ne"); (case b_9 => walk_at "nall"))
  k_with "execs cons" => (k_here; (with_reducible refine gen_toks ?_); intro _)
  k_with "execs nil" => (k_here; (with_reducible refine gen_toks ?_); intro _)
  k_with "end eq" => (law_clear; (try simp only [decide_eq_true_eq, decide_eq_false_iff_not, ne_eq, Bool.not_eq_true, Bool.not_eq_false, bne_iff_ne, beq_iff_eq] at *); first | rfl | omega | (simp_all; done) | (simp_all; rfl) | ((simp_all); omega))
  k_with "CallK" => (k_here; (guard_target = CallK _ _ (Value.ref 22) _ _ _ _); k_dflt (refine' use_ctrX (c_day_of _ _ _) ?g9_9 ?n9_9 ?F9_9 ?N9_9 ?_; (case g9_9 => with_reducible assumption); (case n9_9 => exact rfl); (case F9_9 => k_asm); (case N9_9 => k_asm); k_whole); walk_at "uX")
  k_with "CallK" => (k_here; (guard_target = CallK _ _ (Value.ref 29) _ _ _ _); k_dflt (refine' use_ctrX (c_time_in_day _ _ _) ?g9_9 ?n9_9 ?F9_9 ?N9_9 ?_; (case g9_9 => with_reducible assumption); (case n9_9 => exact rfl); (case F9_9 => k_asm); (case N9_9 => k_asm); k_whole); walk_at "uX")
  k_with "CallK" => (k_here; (guard_target = CallK _ _ (Value.ref 36) _ _ _ _); k_dflt (refine' use_ctrV (c_leap _ _ _) ?g9_9 ?n9_9 ?F9_9 ?N9_9 ?_; (case g9_9 => with_reducible assumption); (case n9_9 => exact rfl); (case F9_9 => k_asm); (case N9_9 => k_asm); k_whole); walk_at "uV")
  k_with "CallK" => (k_here; (guard_target = CallK _ _ (Value.ref 43) _ _ _ _); k_dflt (refine' use_ctrX (c_dfy _ _ _) ?g9_9 ?n9_9 ?F9_9 ?N9_9 ?_; (case g9_9 => with_reducible assumption); (case n9_9 => exact rfl); (case F9_9 => k_asm); (case N9_9 => k_asm); k_whole); walk_at "uX")
  k_with "CallK" => (k_here; (guard_target = CallK _ _ (Value.ref 71) _ _ _ _); k_dflt (refine' use_ctrX (c_days_ahead _ _ _ _ ?p0_9 ?p1_9) ?g9_9 ?n9_9 ?F9_9 ?N9_9 ?_; (case g9_9 => with_reducible assumption); (case n9_9 => exact rfl); (case F9_9 => k_asm); (case N9_9 => k_asm); (case p0_9 => first | with_reducible assumption | decide | l_fact); (case p1_9 => first | with_reducible assumption | decide | l_fact); k_whole); walk_at "uX")
  k_with "CallK" => (k_here; (guard_target = CallK _ _ (Value.ref 50) _ _ _ _); k_dflt (refine' use_ctrX (c_year_of_day _ _ _ _ ?p0_9 ?p1_9) ?g9_9 ?n9_9 ?F9_9 ?N9_9 ?_; (case g9_9 => with_reducible assumption); (case n9_9 => exact rfl); (case F9_9 => k_asm); (case N9_9 => k_asm); (case p0_9 => assumption); (case p1_9 => assumption); k_whole); walk_at "uX")
  k_with "CallK" => (k_here; (guard_target = CallK _ _ (Value.ref 78) _ _ _ _); k_dflt (refine' use_ctrX (c_days_of_month _ _ _ _ _ ?p0_9 ?p1_9) ?g9_9 ?n9_9 ?F9_9 ?N9_9 ?_; (case g9_9 => with_reducible assumption); (case n9_9 => exact rfl); (case F9_9 => k_asm); (case N9_9 => k_asm); (case p0_9 => first | with_reducible assumption | decide | l_fact); (case p1_9 => first | with_reducible assumption | decide | l_fact); k_whole); walk_at "uX")
  k_with "CallK" => (k_here; (guard_target = CallK _ _ (Value.ref 57) _ _ _ _); k_dflt (refine' use_ctrX (c_year_of _ _ _ _ ?p0_9) ?g9_9 ?n9_9 ?F9_9 ?N9_9 ?_; (case g9_9 => with_reducible assumption); (case n9_9 => exact rfl); (case F9_9 => k_asm); (case N9_9 => k_asm); (case p0_9 => assumption); k_whole); walk_at "uX")
  k_with "CallK" => (k_here; (guard_target = CallK _ _ (Value.ref 64) _ _ _ _); k_dflt (refine' use_ctrX (c_day_in_year _ _ _ _ ?p0_9) ?g9_9 ?n9_9 ?F9_9 ?N9_9 ?_; (case g9_9 => with_reducible assumption); (case n9_9 => exact rfl); (case F9_9 => k_asm); (case N9_9 => k_asm); (case p0_9 => assumption); k_whole); walk_at "uX")
  k_with "CallK" => (k_here; (guard_target = CallK _ _ (Value.ref 85) _ _ _ _); k_dflt (refine' use_ctrX (c_month_of _ _ _ _ _ ?p0_9 ?p1_9) ?g9_9 ?n9_9 ?F9_9 ?N9_9 ?_; (case g9_9 => with_reducible assumption); (case n9_9 => exact rfl); (case F9_9 => k_asm); (case N9_9 => k_asm); (case p0_9 => assumption); (case p1_9 => assumption); k_whole); walk_at "uX")
  k_with "CallK" => (k_here; (guard_target = CallK _ _ (Value.ref 92) _ _ _ _); k_dflt (refine' use_ctrX (c_date_of _ _ _ _ _ ?p0_9 ?p1_9) ?g9_9 ?n9_9 ?F9_9 ?N9_9 ?_; (case g9_9 => with_reducible assumption); (case n9_9 => exact rfl); (case F9_9 => k_asm); (case N9_9 => k_asm); (case p0_9 => assumption); (case p1_9 => assumption); k_whole); walk_at "uX")
  k_with "CallK" => (k_here; (guard_target = CallK _ _ (Value.ref 99) _ _ _ _); k_dflt (refine' use_ctrX (c_week_day_of _ _ _) ?g9_9 ?n9_9 ?F9_9 ?N9_9 ?_; (case g9_9 => with_reducible assumption); (case n9_9 => exact rfl); (case F9_9 => k_asm); (case N9_9 => k_asm); k_whole); walk_at "uX")
  k_with "CallK" => (k_here; (guard_target = CallK _ _ (Value.ref 106) _ _ _ _); k_dflt (refine' use_ctrX (c_hour_of _ _ _) ?g9_9 ?n9_9 ?F9_9 ?N9_9 ?_; (case g9_9 => with_reducible assumption); (case n9_9 => exact rfl); (case F9_9 => k_asm); (case N9_9 => k_asm); k_whole); walk_at "uX")
  k_with "CallK" => (k_here; (guard_target = CallK _ _ (Value.ref 113) _ _ _ _); k_dflt (refine' use_ctrX (c_minute_of _ _ _) ?g9_9 ?n9_9 ?F9_9 ?N9_9 ?_; (case g9_9 => with_reducible assumption); (case n9_9 => exact rfl); (case F9_9 => k_asm); (case N9_9 => k_asm); k_whole); walk_at "uX")
  k_with "CallK" => (k_here; (guard_target = CallK _ _ (Value.ref 120) _ _ _ _); k_dflt (refine' use_ctrX (c_second_of _ _ _) ?g9_9 ?n9_9 ?F9_9 ?N9_9 ?_; (case g9_9 => with_reducible assumption); (case n9_9 => exact rfl); (case F9_9 => k_asm); (case N9_9 => k_asm); k_whole); walk_at "uX")
  k_with "CallK" => (k_here; (guard_target = CallK _ _ (Value.ref 127) _ _ _ _); k_dflt (refine' use_ctrX (c_ms_of _ _ _) ?g9_9 ?n9_9 ?F9_9 ?N9_9 ?_; (case g9_9 => with_reducible assumption); (case n9_9 => exact rfl); (case F9_9 => k_asm); (case N9_9 => k_asm); k_whole); walk_at "uX")
  k_with "compareOp In" => (k_here; (guard_target = wpAny _ _ (compareOp CmpOp.In Value.none (Value.ref _)) _ _ _); k_dflt (first | (refine' none_in4 ?N_9 ?a_9 ?n_9 ?_; (case N_9 => k_asm); (case a_9 => k_mem); (case n_9 => first | with_reducible assumption | ktr_units); k_whole) | (refine' none_in3 ?N_9 ?a_9 ?n_9 ?_; (case N_9 => k_asm); (case a_9 => k_mem); (case n_9 => first | with_reducible assumption | ktr_units); k_whole)); (try dsimp only))
  k_with "CallK" => (k_here; (guard_target = CallK _ _ (Value.ref 141) _ _ _ _); k_dflt (refine' use_ctrX (c_make_time _ _ _ _ _ _ _ _ _) ?g9_9 ?n9_9 ?F9_9 ?N9_9 ?_; (case g9_9 => with_reducible assumption); (case n9_9 => exact rfl); (case F9_9 => k_asm); (case N9_9 => k_asm); k_whole); walk_at "uX")
  k_with "CallK" => (k_here; (guard_target = CallK _ _ (Value.ref 148) _ _ _ _); k_dflt (refine' use_ctrX (c_make_day _ _ _ _ _ _ _) ?g9_9 ?n9_9 ?F9_9 ?N9_9 ?_; (case g9_9 => with_reducible assumption); (case n9_9 => exact rfl); (case F9_9 => k_asm); (case N9_9 => k_asm); k_whole); walk_at "uX")
  k_with "CallK" => (k_here; (guard_target = CallK _ _ (Value.ref 155) _ _ _ _); k_dflt (refine' use_ctrX (c_make_date _ _ _ _ _) ?g9_9 ?n9_9 ?F9_9 ?N9_9 ?_; (case g9_9 => with_reducible assumption); (case n9_9 => exact rfl); (case F9_9 => k_asm); (case N9_9 => k_asm); k_whole); walk_at "uX")
  k_with "CallK" => (k_here; (guard_target = CallK _ _ (Value.ref 176) _ _ _ _); k_dflt (refine' use_ctrX (c_local_of _ _ _ _ _) ?g9_9 ?n9_9 ?F9_9 ?N9_9 ?_; (case g9_9 => with_reducible assumption); (case n9_9 => exact rfl); (case F9_9 => k_asm); (case N9_9 => k_asm); k_whole); walk_at "uX")
  k_with "CallK" => (k_here; (guard_target = CallK _ _ (Value.ref 183) _ _ _ _); k_dflt (refine' use_ctrX (c_utc_of _ _ _ _ _) ?g9_9 ?n9_9 ?F9_9 ?N9_9 ?_; (case g9_9 => with_reducible assumption); (case n9_9 => exact rfl); (case F9_9 => k_asm); (case N9_9 => k_asm); k_whole); walk_at "uX")
  k_with "CallK" => (k_here; (guard_target = CallK _ _ (Value.ref 162) _ _ _ _); k_dflt (refine' use_ctr (c_time_clip _ _ _) ?g9_9 ?n9_9 ?F9_9 ?N9_9 ?_; (case g9_9 => with_reducible assumption); (case n9_9 => exact rfl); (case F9_9 => k_asm); (case N9_9 => k_asm); k_whole); intro r9 h9 tk9 hP9 F9 N9; (try dsimp only); (try k_sweep); (try k_fold))
  trivial
set_option maxRecDepth 100000
set_option maxHeartbeats 8000000
section
variable {prog : Program} {w : World} {A : Around} {E : Value → Shared → Prop} {s : Shared}
theorem add_txt {x y : Str} {t u : Tok} {Q : Value → Shared → Prop} (hsz : x.length + y.length ≤ 100000) (h : ∀ t' tk, Q (.str (x ++ y) t') { s with toks := tk }) : wpAny (model prog w) A (binaryOp .Add (.str x t) (.str y u)) Q E s :=
  add_str h (by rw [sizeLine_eq]; (first | lia | omega))
end
theorem ru_A2_1 : True := by
  k_with "my size" => (simp only [Str.length_append, mk_len, figs_len, item_len, lit0, lit1, lit2, lit3, lit4, lit5, lit6, lit7, lit8, lit9, lit10, lit11, lit12, lit13, lit14, lit15, lit16, lit17, lit18, lit19, lit20, lit21, lit22, lit23, lit24, lit25, lit26, lit27, lit28, lit29, lit30, lit31, lit32, lit33, lit34, lit35, lit36, lit37, lit38, lit39, lit40, lit41, lit42, lit43, lit44, lit45, lit46, lit47, lit48, lit49, lit50, lit51, lit52, lit53, List.length_append, List.length_cons, List.length_nil]; omega)
  k_with "binaryOp Add str str" => (k_here; (guard_target = wpAny _ _ (binaryOp Operator.Add (Value.str _ _) (Value.str _ _)) _ _ _); (refine' add_txt ?z_9 ?_; (case z_9 => walk_at "my size")); intro _ _)
  trivial
theorem c_padded (w : World) (n : Int) (W : Nat) (t t' : Tok) (h0 : 0 ≤ n) (h1 : n < ((10 ^ W : Nat) : Int)) (hW : W ≤ 10) : Ctr w 192 1 [.int n t, .int (W : Int) t'] (strv (mk (figs n.toNat W))) := by
  k_dflt (refine' ctrS_enter (bs := [(Str.ofString "wide", _), (Str.ofString "number", _)]) ?k6 ?k7 ?kb ?kB ?kr ?c2 ?c3 ?c4 ?c5 ?_; (case k6 => k_is); (case k7 => k_is); (case kb => exact rfl); (case kB => exact rfl); (case kr => exact rfl); (case c2 => exact rfl); (case c3 => exact rfl); (case c4 => exact rfl); (case c5 => decide))
  intro mean mg mb dp un gd outer A₀ base g' L' h9 gs9 d9 tk9 o9 Q
  intro A9 P9 u9 B' F9 X' N' T' hdp hun hret
  k_with "exec While BoolOp" => k_while (fun _ (f : Str) nn => f = mk (figs n.toNat f.length) ∧ nn = ((n.toNat / 10 ^ f.length : Nat) : Int) ∧ f.length ≤ W) (fun _ f nn => W - f.length) "found" "number"
  k_with "state" => first | exact pad_0 h0 W | exact pad_s h0 h1 (by assumption) (by assumption) (by assumption) (.inl (by assumption)) rfl | exact pad_s h0 h1 (by assumption) (by assumption) (by assumption) (.inr (by assumption)) rfl
  k_with "measure" => first | exact pad_m h0 h1 (by assumption) (by assumption) (by assumption) (.inl (by assumption)) rfl | exact pad_m h0 h1 (by assumption) (by assumption) (by assumption) (.inr (by assumption)) rfl
  walk_at "steps"
  all_goals first | (refine hret _ _ _ ?_ (by k_asm); exact pad_e (by assumption) (by assumption) (by assumption)) | (refine hret _ _ _ ?_ (by k_asm) (by first | with_reducible assumption | exact drop_news (by with_reducible assumption) (by first | with_reducible exact ktn_subA | repeat (first | with_reducible exact sub_refl | with_reducible refine sub_cons ?_ | with_reducible refine sub_skip ?_))); exact pad_e (by assumption) (by assumption) (by assumption)) | (refine hret _ _ _ ⟨_, congrArg (fun z => Value.str z _) ?_⟩ (by k_asm); exact pad_e (by assumption) (by assumption) (by assumption)) | (refine hret _ _ _ ⟨_, congrArg (fun z => Value.str z _) ?_⟩ (by k_asm) (by first | with_reducible assumption | exact drop_news (by with_reducible assumption) (by first | with_reducible exact ktn_subA | repeat (first | with_reducible exact sub_refl | with_reducible refine sub_cons ?_ | with_reducible refine sub_skip ?_))); exact pad_e (by assumption) (by assumption) (by assumption))
theorem c_padded2 (w : World) (n : Int) (t t' : Tok) (h0 : 0 ≤ n) (h1 : n < 100) : Ctr w 192 1 [.int n t, .int 2 t'] (strv (mk (figs n.toNat 2))) := c_padded w n 2 t t' h0 (by omega) (by omega)
theorem c_padded4 (w : World) (n : Int) (t t' : Tok) (h0 : 0 ≤ n) (h1 : n < 10000) : Ctr w 192 1 [.int n t, .int 4 t'] (strv (mk (figs n.toNat 4))) := c_padded w n 4 t t' h0 (by omega) (by omega)
theorem ru_A2_2 : True := by
  k_with "CallK" => (k_here; (guard_target = CallK _ _ (Value.ref 192) _ _ _ _); k_dflt (refine' use_ctrX (c_padded2 _ _ _ _ ?p0_9 ?p1_9) ?g9_9 ?n9_9 ?F9_9 ?N9_9 ?_; (case g9_9 => with_reducible assumption); (case n9_9 => exact rfl); (case F9_9 => k_asm); (case N9_9 => k_asm); (case p0_9 => first | with_reducible assumption | decide | l_fact); (case p1_9 => first | with_reducible assumption | decide | l_fact); k_whole); walk_at "uX")
  k_with "CallK" => (k_here; (guard_target = CallK _ _ (Value.ref 192) _ _ _ _); k_dflt (refine' use_ctrX (c_padded4 _ _ _ _ ?p0_9 ?p1_9) ?g9_9 ?n9_9 ?F9_9 ?N9_9 ?_; (case g9_9 => with_reducible assumption); (case n9_9 => exact rfl); (case F9_9 => k_asm); (case N9_9 => k_asm); (case p0_9 => first | with_reducible assumption | decide | l_fact); (case p1_9 => first | with_reducible assumption | decide | l_fact); k_whole); walk_at "uX")
  trivial
theorem c_plain_year (w : World) (n : Int) (t : Tok) (h0 : 0 ≤ n) (h1 : n < 10000) : Ctr w 199 2 [.int n t] (strv (mk (figs n.toNat 4))) := by
  k_dflt (refine' ctrS_enter (bs := [(Str.ofString "year", _)]) ?k6 ?k7 ?kb ?kB ?kr ?c2 ?c3 ?c4 ?c5 ?_; (case k6 => k_is); (case k7 => k_is); (case kb => exact rfl); (case kB => exact rfl); (case kr => exact rfl); (case c2 => exact rfl); (case c3 => exact rfl); (case c4 => exact rfl); (case c5 => decide))
  intro mean mg mb dp un gd outer A₀ base g' L' h9 gs9 d9 tk9 o9 Q
  intro A9 P9 u9 B' F9 X' N' T' hdp hun hret
  walk_at "steps"
  all_goals first | (refine hret _ _ _ ?_ (by k_asm); (rw [nil_mk, mk_app, if_neg (by omega)]; rfl)) | (refine hret _ _ _ ?_ (by k_asm) (by first | with_reducible assumption | exact drop_news (by with_reducible assumption) (by first | with_reducible exact ktn_subA | repeat (first | with_reducible exact sub_refl | with_reducible refine sub_cons ?_ | with_reducible refine sub_skip ?_))); (rw [nil_mk, mk_app, if_neg (by omega)]; rfl)) | (refine hret _ _ _ ⟨_, congrArg (fun z => Value.str z _) ?_⟩ (by k_asm); (rw [nil_mk, mk_app, if_neg (by omega)]; rfl)) | (refine hret _ _ _ ⟨_, congrArg (fun z => Value.str z _) ?_⟩ (by k_asm) (by first | with_reducible assumption | exact drop_news (by with_reducible assumption) (by first | with_reducible exact ktn_subA | repeat (first | with_reducible exact sub_refl | with_reducible refine sub_cons ?_ | with_reducible refine sub_skip ?_))); (rw [nil_mk, mk_app, if_neg (by omega)]; rfl))
theorem ru_A2_3 : True := by
  k_with "CallK" => (k_here; (guard_target = CallK _ _ (Value.ref 199) _ _ _ _); k_dflt (refine' use_ctrX (c_plain_year _ _ _ ?p0_9 ?p1_9) ?g9_9 ?n9_9 ?F9_9 ?N9_9 ?_; (case g9_9 => with_reducible assumption); (case n9_9 => exact rfl); (case F9_9 => k_asm); (case N9_9 => k_asm); (case p0_9 => first | with_reducible assumption | decide | l_fact); (case p1_9 => first | with_reducible assumption | decide | l_fact); k_whole); walk_at "uX")
  trivial
noncomputable def clockT (h m s : Int) : List Nat := figs h.toNat 2 ++ [58] ++ figs m.toNat 2 ++ [58] ++ figs s.toNat 2
theorem c_clock_text (w : World) (h m s : Int) (t1 t2 t3 : Tok) (h0 : 0 ≤ h) (h1 : h < 100) (m0 : 0 ≤ m) (m1 : m < 100) (s0 : 0 ≤ s) (s1 : s < 100) : Ctr w 206 2 [.int h t1, .int m t2, .int s t3] (strv (mk (clockT h m s))) := by
  k_dflt (refine' ctrS_enter (bs := [(Str.ofString "second", _), (Str.ofString "minute", _), (Str.ofString "hour", _)]) ?k6 ?k7 ?kb ?kB ?kr ?c2 ?c3 ?c4 ?c5 ?_; (case k6 => k_is); (case k7 => k_is); (case kb => exact rfl); (case kB => exact rfl); (case kr => exact rfl); (case c2 => exact rfl); (case c3 => exact rfl); (case c4 => exact rfl); (case c5 => decide))
  intro mean mg mb dp un gd outer A₀ base g' L' h9 gs9 d9 tk9 o9 Q
  intro A9 P9 u9 B' F9 X' N' T' hdp hun hret
  walk_at "steps"
  all_goals first | (refine hret _ _ _ ?_ (by k_asm); (simp only [lit0, lit1, lit2, lit3, lit4, lit5, lit6, lit7, lit8, lit9, lit10, lit11, lit12, lit13, lit14, lit15, lit16, lit17, lit18, lit19, lit20, lit21, lit22, lit23, lit24, lit25, lit26, lit27, lit28, lit29, lit30, lit31, lit32, lit33, lit34, lit35, lit36, lit37, lit38, lit39, lit40, lit41, lit42, lit43, lit44, lit45, lit46, lit47, lit48, lit49, lit50, lit51, lit52, lit53, mk_app, clockT])) | (refine hret _ _ _ ?_ (by k_asm) (by first | with_reducible assumption | exact drop_news (by with_reducible assumption) (by first | with_reducible exact ktn_subA | repeat (first | with_reducible exact sub_refl | with_reducible refine sub_cons ?_ | with_reducible refine sub_skip ?_))); (simp only [lit0, lit1, lit2, lit3, lit4, lit5, lit6, lit7, lit8, lit9, lit10, lit11, lit12, lit13, lit14, lit15, lit16, lit17, lit18, lit19, lit20, lit21, lit22, lit23, lit24, lit25, lit26, lit27, lit28, lit29, lit30, lit31, lit32, lit33, lit34, lit35, lit36, lit37, lit38, lit39, lit40, lit41, lit42, lit43, lit44, lit45, lit46, lit47, lit48, lit49, lit50, lit51, lit52, lit53, mk_app, clockT])) | (refine hret _ _ _ ⟨_, congrArg (fun z => Value.str z _) ?_⟩ (by k_asm); (simp only [lit0, lit1, lit2, lit3, lit4, lit5, lit6, lit7, lit8, lit9, lit10, lit11, lit12, lit13, lit14, lit15, lit16, lit17, lit18, lit19, lit20, lit21, lit22, lit23, lit24, lit25, lit26, lit27, lit28, lit29, lit30, lit31, lit32, lit33, lit34, lit35, lit36, lit37, lit38, lit39, lit40, lit41, lit42, lit43, lit44, lit45, lit46, lit47, lit48, lit49, lit50, lit51, lit52, lit53, mk_app, clockT])) | (refine hret _ _ _ ⟨_, congrArg (fun z => Value.str z _) ?_⟩ (by k_asm) (by first | with_reducible assumption | exact drop_news (by with_reducible assumption) (by first | with_reducible exact ktn_subA | repeat (first | with_reducible exact sub_refl | with_reducible refine sub_cons ?_ | with_reducible refine sub_skip ?_))); (simp only [lit0, lit1, lit2, lit3, lit4, lit5, lit6, lit7, lit8, lit9, lit10, lit11, lit12, lit13, lit14, lit15, lit16, lit17, lit18, lit19, lit20, lit21, lit22, lit23, lit24, lit25, lit26, lit27, lit28, lit29, lit30, lit31, lit32, lit33, lit34, lit35, lit36, lit37, lit38, lit39, lit40, lit41, lit42, lit43, lit44, lit45, lit46, lit47, lit48, lit49, lit50, lit51, lit52, lit53, mk_app, clockT]))
theorem ru_A2_4 : True := by
  k_with "CallK" => (k_here; (guard_target = CallK _ _ (Value.ref 206) _ _ _ _); k_dflt (refine' use_ctrX (c_clock_text _ _ _ _ _ _ _ ?p0_9 ?p1_9 ?p2_9 ?p3_9 ?p4_9 ?p5_9) ?g9_9 ?n9_9 ?F9_9 ?N9_9 ?_; (case g9_9 => with_reducible assumption); (case n9_9 => exact rfl); (case F9_9 => k_asm); (case N9_9 => k_asm); (case p0_9 => first | with_reducible assumption | decide | l_fact); (case p1_9 => first | with_reducible assumption | decide | l_fact); (case p2_9 => first | with_reducible assumption | decide | l_fact); (case p3_9 => first | with_reducible assumption | decide | l_fact); (case p4_9 => first | with_reducible assumption | decide | l_fact); (case p5_9 => first | with_reducible assumption | decide | l_fact); k_whole); walk_at "uX")
  trivial
noncomputable def offT (o : Int) : List Nat := [71, 77, 84] ++ (if o < 0 then [45] else [43]) ++ figs ((if o < 0 then -o else o).fdiv 60).toNat 2 ++ figs ((if o < 0 then -o else o).fmod 60).toNat 2
theorem c_offset_text (w : World) (o : Int) (t : Tok) (h0 : -6000 < o) (h1 : o < 6000) : Ctr w 220 2 [.int o t] (strv (mk (offT o))) := by
  k_dflt (refine' ctrS_enter (bs := [(Str.ofString "offset", _)]) ?k6 ?k7 ?kb ?kB ?kr ?c2 ?c3 ?c4 ?c5 ?_; (case k6 => k_is); (case k7 => k_is); (case kb => exact rfl); (case kB => exact rfl); (case kr => exact rfl); (case c2 => exact rfl); (case c3 => exact rfl); (case c4 => exact rfl); (case c5 => decide))
  intro mean mg mb dp un gd outer A₀ base g' L' h9 gs9 d9 tk9 o9 Q
  intro A9 P9 u9 B' F9 X' N' T' hdp hun hret
  walk_at "steps"
  all_goals first | (refine hret _ _ _ ?_ (by k_asm); (unfold offT; first | (have hq : o < 0 := (by assumption); simp only [hq, if_true, lit0, lit1, lit2, lit3, lit4, lit5, lit6, lit7, lit8, lit9, lit10, lit11, lit12, lit13, lit14, lit15, lit16, lit17, lit18, lit19, lit20, lit21, lit22, lit23, lit24, lit25, lit26, lit27, lit28, lit29, lit30, lit31, lit32, lit33, lit34, lit35, lit36, lit37, lit38, lit39, lit40, lit41, lit42, lit43, lit44, lit45, lit46, lit47, lit48, lit49, lit50, lit51, lit52, lit53, mk_app]) | (have hq : ¬ o < 0 := (by assumption); simp only [hq, if_false, lit0, lit1, lit2, lit3, lit4, lit5, lit6, lit7, lit8, lit9, lit10, lit11, lit12, lit13, lit14, lit15, lit16, lit17, lit18, lit19, lit20, lit21, lit22, lit23, lit24, lit25, lit26, lit27, lit28, lit29, lit30, lit31, lit32, lit33, lit34, lit35, lit36, lit37, lit38, lit39, lit40, lit41, lit42, lit43, lit44, lit45, lit46, lit47, lit48, lit49, lit50, lit51, lit52, lit53, mk_app]))) | (refine hret _ _ _ ?_ (by k_asm) (by first | with_reducible assumption | exact drop_news (by with_reducible assumption) (by first | with_reducible exact ktn_subA | repeat (first | with_reducible exact sub_refl | with_reducible refine sub_cons ?_ | with_reducible refine sub_skip ?_))); (unfold offT; first | (have hq : o < 0 := (by assumption); simp only [hq, if_true, lit0, lit1, lit2, lit3, lit4, lit5, lit6, lit7, lit8, lit9, lit10, lit11, lit12, lit13, lit14, lit15, lit16, lit17, lit18, lit19, lit20, lit21, lit22, lit23, lit24, lit25, lit26, lit27, lit28, lit29, lit30, lit31, lit32, lit33, lit34, lit35, lit36, lit37, lit38, lit39, lit40, lit41, lit42, lit43, lit44, lit45, lit46, lit47, lit48, lit49, lit50, lit51, lit52, lit53, mk_app]) | (have hq : ¬ o < 0 := (by assumption); simp only [hq, if_false, lit0, lit1, lit2, lit3, lit4, lit5, lit6, lit7, lit8, lit9, lit10, lit11, lit12, lit13, lit14, lit15, lit16, lit17, lit18, lit19, lit20, lit21, lit22, lit23, lit24, lit25, lit26, lit27, lit28, lit29, lit30, lit31, lit32, lit33, lit34, lit35, lit36, lit37, lit38, lit39, lit40, lit41, lit42, lit43, lit44, lit45, lit46, lit47, lit48, lit49, lit50, lit51, lit52, lit53, mk_app]))) | (refine hret _ _ _ ⟨_, congrArg (fun z => Value.str z _) ?_⟩ (by k_asm); (unfold offT; first | (have hq : o < 0 := (by assumption); simp only [hq, if_true, lit0, lit1, lit2, lit3, lit4, lit5, lit6, lit7, lit8, lit9, lit10, lit11, lit12, lit13, lit14, lit15, lit16, lit17, lit18, lit19, lit20, lit21, lit22, lit23, lit24, lit25, lit26, lit27, lit28, lit29, lit30, lit31, lit32, lit33, lit34, lit35, lit36, lit37, lit38, lit39, lit40, lit41, lit42, lit43, lit44, lit45, lit46, lit47, lit48, lit49, lit50, lit51, lit52, lit53, mk_app]) | (have hq : ¬ o < 0 := (by assumption); simp only [hq, if_false, lit0, lit1, lit2, lit3, lit4, lit5, lit6, lit7, lit8, lit9, lit10, lit11, lit12, lit13, lit14, lit15, lit16, lit17, lit18, lit19, lit20, lit21, lit22, lit23, lit24, lit25, lit26, lit27, lit28, lit29, lit30, lit31, lit32, lit33, lit34, lit35, lit36, lit37, lit38, lit39, lit40, lit41, lit42, lit43, lit44, lit45, lit46, lit47, lit48, lit49, lit50, lit51, lit52, lit53, mk_app]))) | (refine hret _ _ _ ⟨_, congrArg (fun z => Value.str z _) ?_⟩ (by k_asm) (by first | with_reducible assumption | exact drop_news (by with_reducible assumption) (by first | with_reducible exact ktn_subA | repeat (first | with_reducible exact sub_refl | with_reducible refine sub_cons ?_ | with_reducible refine sub_skip ?_))); (unfold offT; first | (have hq : o < 0 := (by assumption); simp only [hq, if_true, lit0, lit1, lit2, lit3, lit4, lit5, lit6, lit7, lit8, lit9, lit10, lit11, lit12, lit13, lit14, lit15, lit16, lit17, lit18, lit19, lit20, lit21, lit22, lit23, lit24, lit25, lit26, lit27, lit28, lit29, lit30, lit31, lit32, lit33, lit34, lit35, lit36, lit37, lit38, lit39, lit40, lit41, lit42, lit43, lit44, lit45, lit46, lit47, lit48, lit49, lit50, lit51, lit52, lit53, mk_app]) | (have hq : ¬ o < 0 := (by assumption); simp only [hq, if_false, lit0, lit1, lit2, lit3, lit4, lit5, lit6, lit7, lit8, lit9, lit10, lit11, lit12, lit13, lit14, lit15, lit16, lit17, lit18, lit19, lit20, lit21, lit22, lit23, lit24, lit25, lit26, lit27, lit28, lit29, lit30, lit31, lit32, lit33, lit34, lit35, lit36, lit37, lit38, lit39, lit40, lit41, lit42, lit43, lit44, lit45, lit46, lit47, lit48, lit49, lit50, lit51, lit52, lit53, mk_app])))
theorem ru_A2_5 : True := by
  k_with "CallK" => (k_here; (guard_target = CallK _ _ (Value.ref 220) _ _ _ _); k_dflt (refine' use_ctrX (c_offset_text _ _ _ ?p0_9 ?p1_9) ?g9_9 ?n9_9 ?F9_9 ?N9_9 ?_; (case g9_9 => with_reducible assumption); (case n9_9 => exact rfl); (case F9_9 => k_asm); (case N9_9 => k_asm); (case p0_9 => first | with_reducible assumption | decide | l_fact); (case p1_9 => first | with_reducible assumption | decide | l_fact); k_whole); walk_at "uX")
  trivial
end

section -- A3
theorem rst_A3 : True := by
  w_top off
  trivial
open PySem PySem.W PySem.Calls PyProof.Rows
theorem ru_A3_0 : True := by
  k_with_none
  k_with "steps" => (repeat' (first | k_unfold | (k_end; kc_close) | walk1 | (dsimp only; walk1) | (leave1; (try dsimp only)) | fail "no step"))
  k_with "eval Constant int" => (k_here; (with_reducible refine ct9 ?_); intro _ _)
  k_with "eval Constant str" => (k_here; (with_reducible refine cs9 ?_); intro _ _)
  k_with "binaryOp Add int int" => (k_here; (with_reducible refine ar_add ?_); intro _ _)
  k_with "binaryOp Sub int int" => (k_here; (with_reducible refine ar_sub ?_); intro _ _)
  k_with "binaryOp Mult int int" => (k_here; (with_reducible refine' ar_mul ?_ ?m9_9); k_dflt (case m9_9 => mul_fits); intro _ _)
  k_with "binaryOp FloorDiv int int" => (k_here; (with_reducible refine' ar_div ?b9_9 ?_ ?p9_9); k_dflt (case b9_9 => decide); k_dflt (case p9_9 => first | exact PyProof.noPylong_of_log2 (by decide +kernel) | exact PyProof.noPylong_small (by omega)); intro _ _)
  k_with "binaryOp Mod int int" => (k_here; (with_reducible refine ar_mod ?b9_9 ?_); (case b9_9 => first | decide | omega | assumption); intro _ _)
  k_with "inplaceOp Add int int" => (k_here; (with_reducible refine ar_iadd ?_); intro _ _)
  k_with "storeName" => (k_here; k_dflt (refine' st9 ?F_9 ?N_9 ?_ ?a_9 ?b_9; (case F_9 => with_reducible assumption); (case N_9 => with_reducible assumption); (case a_9 => exact rfl); (case b_9 => exact rfl); k_whole); intro h9 k9 F9 N9; (try k_sweep))
  k_with "newTuple" => (k_here; kup_bare; k_dflt (refine' nt9 ?F_9 ?N_9 ?_ ?z_9; (case F_9 => with_reducible assumption); (case N_9 => with_reducible assumption); (case z_9 => kmk_size)); intro D9 h9 F9 N9; (try k_sweep))
  k_with "eval Tuple" => (k_here; k_whole; (with_reducible refine tk_go ?h9_9 ?_); k_dflt (case h9_9 => exact rfl))
  k_with "eval Tuple" => (k_here; walk_at "fold")
  k_with "TupK" => (k_here; (with_reducible refine tk_e ?_))
  k_with "TupK" => (k_here; (with_reducible refine' tk_n ?k1_9 ?k2_9 ?k3_9 ?k4_9 ?k5_9 ?_); k_dflt ((case k3_9 => exact rfl); (case k4_9 => exact rfl); (case k1_9 => k_asm); (case k2_9 => exact rfl); (case k5_9 => exact rfl); k_whole))
  k_with "TupK" => (k_here; (with_reducible refine tk_i ?_); intro _ _)
  k_with "TupK" => (k_here; (first | with_reducible refine tk_2 ?_ | with_reducible refine tk_3 ?_ | with_reducible refine tk_4 ?_ | with_reducible refine tk_5 ?_ | with_reducible refine tk_6 ?_))
  k_with "uX" => (intro t9 h9 tk9 F9 N9; (try dsimp only); (try k_sweep); (try k_fold))
  k_with "uV" => (intro h9 tk9 F9 N9; (try dsimp only); (try k_sweep); (try k_fold))
  k_with "callWith ref" => (k_here; k_dflt (first | (refine' cw_K0 ?k1_9 ?k2_9 ?_; (case k1_9 => k_is); (case k2_9 => exact rfl); k_whole) | (refine' cw_K1 ?k1_9 ?k2_9 ?_; (case k1_9 => k_is); (case k2_9 => exact rfl); k_whole)))
  k_with "eval Call" => (k_here; (with_reducible refine' cg_K ?k1_9 ?k2_9 ?k3_9 ?k4_9 ?k5_9 ?k6_9 ?k7_9 ?k8_9 ?k9_9 ?_); k_dflt ((case k7_9 => exact rfl); (case k8_9 => exact rfl); (case k9_9 => exact rfl); (case k1_9 => k_asm); (case k2_9 => k_asm); (case k3_9 => k_asm); (case k4_9 => k_is); (case k5_9 => exact rfl); (case k6_9 => k_is); k_whole))
  k_with "eval Name" => (k_here; k_dflt (refine' nm9 ?k1_9 ?k2_9 ?k3_9 ?k4_9 ?k5_9 ?_; (case k4_9 => exact rfl); (case k3_9 => exact rfl); (case k1_9 => k_asm); (case k2_9 => exact rfl); (case k5_9 => exact rfl); k_whole))
  k_with "fold" => (k_whole; (fail_if_success (fail_if_success k_fold)); refine fold9 ?_; intro qk)
  k_with "eval Call" => (k_here; walk_at "fold")
  k_with "eval BinOp" => (k_here; walk_at "fold")
  k_with "ArgK" => (k_here; (with_reducible refine ak_e ?_))
  k_with "ArgK" => (k_here; (with_reducible refine' ak_n ?k1_9 ?k2_9 ?k3_9 ?k4_9 ?k5_9 ?_); k_dflt ((case k3_9 => exact rfl); (case k4_9 => exact rfl); (case k1_9 => k_asm); (case k2_9 => exact rfl); (case k5_9 => exact rfl); k_whole))
  k_with "ArgK" => (k_here; (first | with_reducible refine ak_i ?_ | with_reducible refine ak_s ?_); intro _ _)
  k_with "ArgK" => (k_here; (first | with_reducible refine ak_1 ?_ | with_reducible refine ak_2 ?_ | with_reducible refine ak_3 ?_ | with_reducible refine ak_4 ?_ | with_reducible refine ak_0 ?_))
  k_with "ne" => first | with_reducible assumption | exact ne_news (by with_reducible assumption) (by k_mem) (by k_mem) rfl | k_ne
  k_with "upd" => first | (refine' Upd.head ?a_9; (case a_9 => walk_at "nall")) | (refine' Upd.tail ?a_9 ?b_9; (case a_9 => walk_at "ne"); (case b_9 => walk_at "upd"))
  k_with "setAttr ref" => (k_here; k_dflt (refine' set_dict ?k1_9 ?k2_9 ?k3_9 ?k4_9 ?k5_9 ?k6_9 ?k7_9 ?k8_9 ?k9_9 ?k10_9 ?k11_9 ?k12_9 ?k13_9 ?_; (case k1_9 => k_asm); (case k2_9 => k_asm); (case k3_9 => k_asm); (case k4_9 => k_inst); (case k5_9 => exact rfl); (case k6_9 => k_is); (case k7_9 => k_is); (case k8_9 => k_is); (case k9_9 => k_is); (case k10_9 => k_get); (case k11_9 => k_put); (case k12_9 => walk_at "upd"); (case k13_9 => exact Nat.le_of_ble_eq_true rfl); k_whole); intro h' F' N'; (try k_sweep))
  k_with "nall" => first | exact List.forall_mem_nil _ | (refine' List.forall_mem_cons.mpr ⟨?a_9, ?b_9⟩; (case a_9 => walk_at "ne"); (case b_9 => walk_at "nall"))
  k_with "execs cons" => (k_here; (with_reducible refine gen_toks ?_); intro _)
  k_with "execs nil" => (k_here; (with_reducible refine gen_toks ?_); intro _)
  k_with "end eq" => (law_clear; (try simp only [decide_eq_true_eq, decide_eq_false_iff_not, ne_eq, Bool.not_eq_true, Bool.not_eq_false, bne_iff_ne, beq_iff_eq] at *); first | rfl | omega | (simp_all; done) | (simp_all; rfl) | ((simp_all); omega))
  k_with "CallK" => (k_here; (guard_target = CallK _ _ (Value.ref 22) _ _ _ _); k_dflt (refine' use_ctrX (c_day_of _ _ _) ?g9_9 ?n9_9 ?F9_9 ?N9_9 ?_; (case g9_9 => with_reducible assumption); (case n9_9 => exact rfl); (case F9_9 => k_asm); (case N9_9 => k_asm); k_whole); walk_at "uX")
  k_with "CallK" => (k_here; (guard_target = CallK _ _ (Value.ref 29) _ _ _ _); k_dflt (refine' use_ctrX (c_time_in_day _ _ _) ?g9_9 ?n9_9 ?F9_9 ?N9_9 ?_; (case g9_9 => with_reducible assumption); (case n9_9 => exact rfl); (case F9_9 => k_asm); (case N9_9 => k_asm); k_whole); walk_at "uX")
  k_with "CallK" => (k_here; (guard_target = CallK _ _ (Value.ref 36) _ _ _ _); k_dflt (refine' use_ctrV (c_leap _ _ _) ?g9_9 ?n9_9 ?F9_9 ?N9_9 ?_; (case g9_9 => with_reducible assumption); (case n9_9 => exact rfl); (case F9_9 => k_asm); (case N9_9 => k_asm); k_whole); walk_at "uV")
  k_with "CallK" => (k_here; (guard_target = CallK _ _ (Value.ref 43) _ _ _ _); k_dflt (refine' use_ctrX (c_dfy _ _ _) ?g9_9 ?n9_9 ?F9_9 ?N9_9 ?_; (case g9_9 => with_reducible assumption); (case n9_9 => exact rfl); (case F9_9 => k_asm); (case N9_9 => k_asm); k_whole); walk_at "uX")
  k_with "CallK" => (k_here; (guard_target = CallK _ _ (Value.ref 71) _ _ _ _); k_dflt (refine' use_ctrX (c_days_ahead _ _ _ _ ?p0_9 ?p1_9) ?g9_9 ?n9_9 ?F9_9 ?N9_9 ?_; (case g9_9 => with_reducible assumption); (case n9_9 => exact rfl); (case F9_9 => k_asm); (case N9_9 => k_asm); (case p0_9 => first | with_reducible assumption | decide | l_fact); (case p1_9 => first | with_reducible assumption | decide | l_fact); k_whole); walk_at "uX")
  k_with "CallK" => (k_here; (guard_target = CallK _ _ (Value.ref 50) _ _ _ _); k_dflt (refine' use_ctrX (c_year_of_day _ _ _ _ ?p0_9 ?p1_9) ?g9_9 ?n9_9 ?F9_9 ?N9_9 ?_; (case g9_9 => with_reducible assumption); (case n9_9 => exact rfl); (case F9_9 => k_asm); (case N9_9 => k_asm); (case p0_9 => assumption); (case p1_9 => assumption); k_whole); walk_at "uX")
  k_with "CallK" => (k_here; (guard_target = CallK _ _ (Value.ref 78) _ _ _ _); k_dflt (refine' use_ctrX (c_days_of_month _ _ _ _ _ ?p0_9 ?p1_9) ?g9_9 ?n9_9 ?F9_9 ?N9_9 ?_; (case g9_9 => with_reducible assumption); (case n9_9 => exact rfl); (case F9_9 => k_asm); (case N9_9 => k_asm); (case p0_9 => first | with_reducible assumption | decide | l_fact); (case p1_9 => first | with_reducible assumption | decide | l_fact); k_whole); walk_at "uX")
  k_with "CallK" => (k_here; (guard_target = CallK _ _ (Value.ref 57) _ _ _ _); k_dflt (refine' use_ctrX (c_year_of _ _ _ _ ?p0_9) ?g9_9 ?n9_9 ?F9_9 ?N9_9 ?_; (case g9_9 => with_reducible assumption); (case n9_9 => exact rfl); (case F9_9 => k_asm); (case N9_9 => k_asm); (case p0_9 => assumption); k_whole); walk_at "uX")
  k_with "CallK" => (k_here; (guard_target = CallK _ _ (Value.ref 64) _ _ _ _); k_dflt (refine' use_ctrX (c_day_in_year _ _ _ _ ?p0_9) ?g9_9 ?n9_9 ?F9_9 ?N9_9 ?_; (case g9_9 => with_reducible assumption); (case n9_9 => exact rfl); (case F9_9 => k_asm); (case N9_9 => k_asm); (case p0_9 => assumption); k_whole); walk_at "uX")
  k_with "CallK" => (k_here; (guard_target = CallK _ _ (Value.ref 85) _ _ _ _); k_dflt (refine' use_ctrX (c_month_of _ _ _ _ _ ?p0_9 ?p1_9) ?g9_9 ?n9_9 ?F9_9 ?N9_9 ?_; (case g9_9 => with_reducible assumption); (case n9_9 => exact rfl); (case F9_9 => k_asm); (case N9_9 => k_asm); (case p0_9 => assumption); (case p1_9 => assumption); k_whole); walk_at "uX")
  k_with "CallK" => (k_here; (guard_target = CallK _ _ (Value.ref 92) _ _ _ _); k_dflt (refine' use_ctrX (c_date_of _ _ _ _ _ ?p0_9 ?p1_9) ?g9_9 ?n9_9 ?F9_9 ?N9_9 ?_; (case g9_9 => with_reducible assumption); (case n9_9 => exact rfl); (case F9_9 => k_asm); (case N9_9 => k_asm); (case p0_9 => assumption); (case p1_9 => assumption); k_whole); walk_at "uX")
  k_with "CallK" => (k_here; (guard_target = CallK _ _ (Value.ref 99) _ _ _ _); k_dflt (refine' use_ctrX (c_week_day_of _ _ _) ?g9_9 ?n9_9 ?F9_9 ?N9_9 ?_; (case g9_9 => with_reducible assumption); (case n9_9 => exact rfl); (case F9_9 => k_asm); (case N9_9 => k_asm); k_whole); walk_at "uX")
  k_with "CallK" => (k_here; (guard_target = CallK _ _ (Value.ref 106) _ _ _ _); k_dflt (refine' use_ctrX (c_hour_of _ _ _) ?g9_9 ?n9_9 ?F9_9 ?N9_9 ?_; (case g9_9 => with_reducible assumption); (case n9_9 => exact rfl); (case F9_9 => k_asm); (case N9_9 => k_asm); k_whole); walk_at "uX")
  k_with "CallK" => (k_here; (guard_target = CallK _ _ (Value.ref 113) _ _ _ _); k_dflt (refine' use_ctrX (c_minute_of _ _ _) ?g9_9 ?n9_9 ?F9_9 ?N9_9 ?_; (case g9_9 => with_reducible assumption); (case n9_9 => exact rfl); (case F9_9 => k_asm); (case N9_9 => k_asm); k_whole); walk_at "uX")
  k_with "CallK" => (k_here; (guard_target = CallK _ _ (Value.ref 120) _ _ _ _); k_dflt (refine' use_ctrX (c_second_of _ _ _) ?g9_9 ?n9_9 ?F9_9 ?N9_9 ?_; (case g9_9 => with_reducible assumption); (case n9_9 => exact rfl); (case F9_9 => k_asm); (case N9_9 => k_asm); k_whole); walk_at "uX")
  k_with "CallK" => (k_here; (guard_target = CallK _ _ (Value.ref 127) _ _ _ _); k_dflt (refine' use_ctrX (c_ms_of _ _ _) ?g9_9 ?n9_9 ?F9_9 ?N9_9 ?_; (case g9_9 => with_reducible assumption); (case n9_9 => exact rfl); (case F9_9 => k_asm); (case N9_9 => k_asm); k_whole); walk_at "uX")
  k_with "compareOp In" => (k_here; (guard_target = wpAny _ _ (compareOp CmpOp.In Value.none (Value.ref _)) _ _ _); k_dflt (first | (refine' none_in4 ?N_9 ?a_9 ?n_9 ?_; (case N_9 => k_asm); (case a_9 => k_mem); (case n_9 => first | with_reducible assumption | ktr_units); k_whole) | (refine' none_in3 ?N_9 ?a_9 ?n_9 ?_; (case N_9 => k_asm); (case a_9 => k_mem); (case n_9 => first | with_reducible assumption | ktr_units); k_whole)); (try dsimp only))
  k_with "CallK" => (k_here; (guard_target = CallK _ _ (Value.ref 141) _ _ _ _); k_dflt (refine' use_ctrX (c_make_time _ _ _ _ _ _ _ _ _) ?g9_9 ?n9_9 ?F9_9 ?N9_9 ?_; (case g9_9 => with_reducible assumption); (case n9_9 => exact rfl); (case F9_9 => k_asm); (case N9_9 => k_asm); k_whole); walk_at "uX")
  k_with "CallK" => (k_here; (guard_target = CallK _ _ (Value.ref 148) _ _ _ _); k_dflt (refine' use_ctrX (c_make_day _ _ _ _ _ _ _) ?g9_9 ?n9_9 ?F9_9 ?N9_9 ?_; (case g9_9 => with_reducible assumption); (case n9_9 => exact rfl); (case F9_9 => k_asm); (case N9_9 => k_asm); k_whole); walk_at "uX")
  k_with "CallK" => (k_here; (guard_target = CallK _ _ (Value.ref 155) _ _ _ _); k_dflt (refine' use_ctrX (c_make_date _ _ _ _ _) ?g9_9 ?n9_9 ?F9_9 ?N9_9 ?_; (case g9_9 => with_reducible assumption); (case n9_9 => exact rfl); (case F9_9 => k_asm); (case N9_9 => k_asm); k_whole); walk_at "uX")
  k_with "CallK" => (k_here; (guard_target = CallK _ _ (Value.ref 176) _ _ _ _); k_dflt (refine' use_ctrX (c_local_of _ _ _ _ _) ?g9_9 ?n9_9 ?F9_9 ?N9_9 ?_; (case g9_9 => with_reducible assumption); (case n9_9 => exact rfl); (case F9_9 => k_asm); (case N9_9 => k_asm); k_whole); walk_at "uX")
  k_with "CallK" => (k_here; (guard_target = CallK _ _ (Value.ref 183) _ _ _ _); k_dflt (refine' use_ctrX (c_utc_of _ _ _ _ _) ?g9_9 ?n9_9 ?F9_9 ?N9_9 ?_; (case g9_9 => with_reducible assumption); (case n9_9 => exact rfl); (case F9_9 => k_asm); (case N9_9 => k_asm); k_whole); walk_at "uX")
  k_with "CallK" => (k_here; (guard_target = CallK _ _ (Value.ref 162) _ _ _ _); k_dflt (refine' use_ctr (c_time_clip _ _ _) ?g9_9 ?n9_9 ?F9_9 ?N9_9 ?_; (case g9_9 => with_reducible assumption); (case n9_9 => exact rfl); (case F9_9 => k_asm); (case N9_9 => k_asm); k_whole); intro r9 h9 tk9 hP9 F9 N9; (try dsimp only); (try k_sweep); (try k_fold))
  k_with "my size" => (simp only [Str.length_append, mk_len, figs_len, item_len, lit0, lit1, lit2, lit3, lit4, lit5, lit6, lit7, lit8, lit9, lit10, lit11, lit12, lit13, lit14, lit15, lit16, lit17, lit18, lit19, lit20, lit21, lit22, lit23, lit24, lit25, lit26, lit27, lit28, lit29, lit30, lit31, lit32, lit33, lit34, lit35, lit36, lit37, lit38, lit39, lit40, lit41, lit42, lit43, lit44, lit45, lit46, lit47, lit48, lit49, lit50, lit51, lit52, lit53, List.length_append, List.length_cons, List.length_nil]; omega)
  k_with "binaryOp Add str str" => (k_here; (guard_target = wpAny _ _ (binaryOp Operator.Add (Value.str _ _) (Value.str _ _)) _ _ _); (refine' add_txt ?z_9 ?_; (case z_9 => walk_at "my size")); intro _ _)
  k_with "CallK" => (k_here; (guard_target = CallK _ _ (Value.ref 192) _ _ _ _); k_dflt (refine' use_ctrX (c_padded2 _ _ _ _ ?p0_9 ?p1_9) ?g9_9 ?n9_9 ?F9_9 ?N9_9 ?_; (case g9_9 => with_reducible assumption); (case n9_9 => exact rfl); (case F9_9 => k_asm); (case N9_9 => k_asm); (case p0_9 => first | with_reducible assumption | decide | l_fact); (case p1_9 => first | with_reducible assumption | decide | l_fact); k_whole); walk_at "uX")
  k_with "CallK" => (k_here; (guard_target = CallK _ _ (Value.ref 192) _ _ _ _); k_dflt (refine' use_ctrX (c_padded4 _ _ _ _ ?p0_9 ?p1_9) ?g9_9 ?n9_9 ?F9_9 ?N9_9 ?_; (case g9_9 => with_reducible assumption); (case n9_9 => exact rfl); (case F9_9 => k_asm); (case N9_9 => k_asm); (case p0_9 => first | with_reducible assumption | decide | l_fact); (case p1_9 => first | with_reducible assumption | decide | l_fact); k_whole); walk_at "uX")
  k_with "CallK" => (k_here; (guard_target = CallK _ _ (Value.ref 199) _ _ _ _); k_dflt (refine' use_ctrX (c_plain_year _ _ _ ?p0_9 ?p1_9) ?g9_9 ?n9_9 ?F9_9 ?N9_9 ?_; (case g9_9 => with_reducible assumption); (case n9_9 => exact rfl); (case F9_9 => k_asm); (case N9_9 => k_asm); (case p0_9 => first | with_reducible assumption | decide | l_fact); (case p1_9 => first | with_reducible assumption | decide | l_fact); k_whole); walk_at "uX")
  k_with "CallK" => (k_here; (guard_target = CallK _ _ (Value.ref 206) _ _ _ _); k_dflt (refine' use_ctrX (c_clock_text _ _ _ _ _ _ _ ?p0_9 ?p1_9 ?p2_9 ?p3_9 ?p4_9 ?p5_9) ?g9_9 ?n9_9 ?F9_9 ?N9_9 ?_; (case g9_9 => with_reducible assumption); (case n9_9 => exact rfl); (case F9_9 => k_asm); (case N9_9 => k_asm); (case p0_9 => first | with_reducible assumption | decide | l_fact); (case p1_9 => first | with_reducible assumption | decide | l_fact); (case p2_9 => first | with_reducible assumption | decide | l_fact); (case p3_9 => first | with_reducible assumption | decide | l_fact); (case p4_9 => first | with_reducible assumption | decide | l_fact); (case p5_9 => first | with_reducible assumption | decide | l_fact); k_whole); walk_at "uX")
  k_with "CallK" => (k_here; (guard_target = CallK _ _ (Value.ref 220) _ _ _ _); k_dflt (refine' use_ctrX (c_offset_text _ _ _ ?p0_9 ?p1_9) ?g9_9 ?n9_9 ?F9_9 ?N9_9 ?_; (case g9_9 => with_reducible assumption); (case n9_9 => exact rfl); (case F9_9 => k_asm); (case N9_9 => k_asm); (case p0_9 => first | with_reducible assumption | decide | l_fact); (case p1_9 => first | with_reducible assumption | decide | l_fact); k_whole); walk_at "uX")
  trivial
set_option maxRecDepth 100000
set_option maxHeartbeats 8000000
noncomputable abbrev tupO (vs : Array Value) : Obj := { cls := .type "tuple", data := .seq vs }
noncomputable def fieldsP (x y i : Int) (r : Value) (add : List (Addr × Obj)) : Prop := ∃ q t1 t2 t3 t4 t5 t6 t7, r = .ref q ∧ add = [(q, tupO #[.int y t1, .int i t2, .int (dateF x y i) t3, .int (hourF x) t4, .int (minF x) t5, .int (secF x) t6, .int (msF x) t7])]
theorem c_fields_of (w : World) (x y i : Int) (t : Tok) (hy : YF x y) (hm : MF x y i) : CtrN w 134 7 [.int x t] (fieldsP x y i) := by
  k_dflt (refine' ctrN_enter (bs := [(Str.ofString "time", _)]) ?k6 ?k7 ?kb ?kB ?kr ?c2 ?c3 ?c4 ?c5 ?_; (case k6 => k_is); (case k7 => k_is); (case kb => exact rfl); (case kB => exact rfl); (case kr => exact rfl); (case c2 => exact rfl); (case c3 => exact rfl); (case c4 => exact rfl); (case c5 => decide))
  intro mean mg mb dp un gd outer A₀ base g' L' h9 gs9 d9 tk9 o9 Q
  intro A9 P9 u9 B' F9 X' N' T' hdp hun hret
  walk_at "steps"
  all_goals first | exact hret _ _ _ _ ⟨_, _, _, _, _, _, _, _, rfl, rfl⟩ (by k_asm) (by first | with_reducible assumption | exact drop_news (by with_reducible assumption) (by first | with_reducible exact ktn_subA | repeat (first | with_reducible exact sub_refl | with_reducible refine sub_cons ?_ | with_reducible refine sub_skip ?_)))
theorem use_fields {w : World} {f : Addr} {n k : Nat} {vs : List Value} {news : Led} {A : Around} {h₀ h : Heap} {L : Addr} {m : Str → Option Value} {g : Array GenState} {d : Drawn} {tk : Nat} {o : OsState} {Q E : Value → Shared → Prop} {x y i : Int} (C : CtrN w f n vs (fieldsP x y i)) (G : Pl w k A h₀ L) (hn : Nat.ble n k = true) (F : Fr h₀ L h m) (N : News h₀ L h news)
    (hret : ∀ (q : Addr) (t1 t2 t3 t4 t5 t6 t7 : Tok) (h' : Heap) (tk' : Nat), Fr h₀ L h' m → News h₀ L h' ((q, tupO #[.int y t1, .int i t2, .int (dateF x y i) t3, .int (hourF x) t4, .int (minF x) t5, .int (secF x) t6, .int (msF x) t7]) :: news) → Q (.ref q) ⟨h', g, d, tk', o⟩) : CallK w A (.ref f) vs Q E ⟨h, g, d, tk, o⟩ :=
  use_ctrN C G hn F N (fun r add h' tk' hp F' N' => by obtain ⟨q, t1, t2, t3, t4, t5, t6, t7, rfl, rfl⟩ := hp; exact hret q t1 t2 t3 t4 t5 t6 t7 h' tk' F' N')
theorem ru_A3_1 : True := by
  k_with "CallK" => (k_here; (guard_target = CallK _ _ (Value.ref 134) _ _ _ _); k_dflt (refine' use_fields (c_fields_of _ _ _ _ _ ?p0_9 ?p1_9) ?g9_9 ?n9_9 ?F9_9 ?N9_9 ?_; (case g9_9 => with_reducible assumption); (case n9_9 => exact rfl); (case F9_9 => k_asm); (case N9_9 => k_asm); (case p0_9 => assumption); (case p1_9 => assumption); k_whole); intro q9 t91 t92 t93 t94 t95 t96 t97 h9 tk9 F9 N9; (try dsimp only); (try k_sweep); (try k_fold))
  trivial
end

section -- A4
theorem rst_A4 : True := by
  w_top off
  trivial
open PySem PySem.W PySem.Calls PyProof.Rows
theorem ru_A4_0 : True := by
  k_with_none
  k_with "steps" => (repeat' (first | k_unfold | (k_end; kc_close) | walk1 | (dsimp only; walk1) | (leave1; (try dsimp only)) | fail "no step"))
  k_with "eval Constant int" => (k_here; (with_reducible refine ct9 ?_); intro _ _)
  k_with "eval Constant str" => (k_here; (with_reducible refine cs9 ?_); intro _ _)
  k_with "binaryOp Add int int" => (k_here; (with_reducible refine ar_add ?_); intro _ _)
  k_with "binaryOp Sub int int" => (k_here; (with_reducible refine ar_sub ?_); intro _ _)
  k_with "binaryOp Mult int int" => (k_here; (with_reducible refine' ar_mul ?_ ?m9_9); k_dflt (case m9_9 => mul_fits); intro _ _)
  k_with "binaryOp FloorDiv int int" => (k_here; (with_reducible refine' ar_div ?b9_9 ?_ ?p9_9); k_dflt (case b9_9 => decide); k_dflt (case p9_9 => first | exact PyProof.noPylong_of_log2 (by decide +kernel) | exact PyProof.noPylong_small (by omega)); intro _ _)
  k_with "binaryOp Mod int int" => (k_here; (with_reducible refine ar_mod ?b9_9 ?_); (case b9_9 => first | decide | omega | assumption); intro _ _)
  k_with "inplaceOp Add int int" => (k_here; (with_reducible refine ar_iadd ?_); intro _ _)
  k_with "storeName" => (k_here; k_dflt (refine' st9 ?F_9 ?N_9 ?_ ?a_9 ?b_9; (case F_9 => with_reducible assumption); (case N_9 => with_reducible assumption); (case a_9 => exact rfl); (case b_9 => exact rfl); k_whole); intro h9 k9 F9 N9; (try k_sweep))
  k_with "newTuple" => (k_here; kup_bare; k_dflt (refine' nt9 ?F_9 ?N_9 ?_ ?z_9; (case F_9 => with_reducible assumption); (case N_9 => with_reducible assumption); (case z_9 => kmk_size)); intro D9 h9 F9 N9; (try k_sweep))
  k_with "eval Tuple" => (k_here; k_whole; (with_reducible refine tk_go ?h9_9 ?_); k_dflt (case h9_9 => exact rfl))
  k_with "eval Tuple" => (k_here; walk_at "fold")
  k_with "TupK" => (k_here; (with_reducible refine tk_e ?_))
  k_with "TupK" => (k_here; (with_reducible refine' tk_n ?k1_9 ?k2_9 ?k3_9 ?k4_9 ?k5_9 ?_); k_dflt ((case k3_9 => exact rfl); (case k4_9 => exact rfl); (case k1_9 => k_asm); (case k2_9 => exact rfl); (case k5_9 => exact rfl); k_whole))
  k_with "TupK" => (k_here; (with_reducible refine tk_i ?_); intro _ _)
  k_with "TupK" => (k_here; (first | with_reducible refine tk_2 ?_ | with_reducible refine tk_3 ?_ | with_reducible refine tk_4 ?_ | with_reducible refine tk_5 ?_ | with_reducible refine tk_6 ?_))
  k_with "uX" => (intro t9 h9 tk9 F9 N9; (try dsimp only); (try k_sweep); (try k_fold))
  k_with "uV" => (intro h9 tk9 F9 N9; (try dsimp only); (try k_sweep); (try k_fold))
  k_with "callWith ref" => (k_here; k_dflt (first | (refine' cw_K0 ?k1_9 ?k2_9 ?_; (case k1_9 => k_is); (case k2_9 => exact rfl); k_whole) | (refine' cw_K1 ?k1_9 ?k2_9 ?_; (case k1_9 => k_is); (case k2_9 => exact rfl); k_whole)))
  k_with "eval Call" => (k_here; (with_reducible refine' cg_K ?k1_9 ?k2_9 ?k3_9 ?k4_9 ?k5_9 ?k6_9 ?k7_9 ?k8_9 ?k9_9 ?_); k_dflt ((case k7_9 => exact rfl); (case k8_9 => exact rfl); (case k9_9 => exact rfl); (case k1_9 => k_asm); (case k2_9 => k_asm); (case k3_9 => k_asm); (case k4_9 => k_is); (case k5_9 => exact rfl); (case k6_9 => k_is); k_whole))
  k_with "eval Name" => (k_here; k_dflt (refine' nm9 ?k1_9 ?k2_9 ?k3_9 ?k4_9 ?k5_9 ?_; (case k4_9 => exact rfl); (case k3_9 => exact rfl); (case k1_9 => k_asm); (case k2_9 => exact rfl); (case k5_9 => exact rfl); k_whole))
  k_with "fold" => (k_whole; (fail_if_success (fail_if_success k_fold)); refine fold9 ?_; intro qk)
  k_with "eval Call" => (k_here; walk_at "fold")
  k_with "eval BinOp" => (k_here; walk_at "fold")
  k_with "ArgK" => (k_here; (with_reducible refine ak_e ?_))
  k_with "ArgK" => (k_here; (with_reducible refine' ak_n ?k1_9 ?k2_9 ?k3_9 ?k4_9 ?k5_9 ?_); k_dflt ((case k3_9 => exact rfl); (case k4_9 => exact rfl); (case k1_9 => k_asm); (case k2_9 => exact rfl); (case k5_9 => exact rfl); k_whole))
  k_with "ArgK" => (k_here; (first | with_reducible refine ak_i ?_ | with_reducible refine ak_s ?_); intro _ _)
  k_with "ArgK" => (k_here; (first | with_reducible refine ak_1 ?_ | with_reducible refine ak_2 ?_ | with_reducible refine ak_3 ?_ | with_reducible refine ak_4 ?_ | with_reducible refine ak_0 ?_))
  k_with "ne" => first | with_reducible assumption | exact ne_news (by with_reducible assumption) (by k_mem) (by k_mem) rfl | k_ne
  k_with "upd" => first | (refine' Upd.head ?a_9; (case a_9 => walk_at "nall")) | (refine' Upd.tail ?a_9 ?b_9; (case a_9 => walk_at "ne"); (case b_9 => walk_at "upd"))
  k_with "setAttr ref" => (k_here; k_dflt (refine' set_dict ?k1_9 ?k2_9 ?k3_9 ?k4_9 ?k5_9 ?k6_9 ?k7_9 ?k8_9 ?k9_9 ?k10_9 ?k11_9 ?k12_9 ?k13_9 ?_; (case k1_9 => k_asm); (case k2_9 => k_asm); (case k3_9 => k_asm); (case k4_9 => k_inst); (case k5_9 => exact rfl); (case k6_9 => k_is); (case k7_9 => k_is); (case k8_9 => k_is); (case k9_9 => k_is); (case k10_9 => k_get); (case k11_9 => k_put); (case k12_9 => walk_at "upd"); (case k13_9 => exact Nat.le_of_ble_eq_true rfl); k_whole); intro h' F' N'; (try k_sweep))
  k_with "nall" => first | exact List.forall_mem_nil _ | (refine' List.forall_mem_cons.mpr ⟨?a_9, ?b_9⟩; (case a_9 => walk_at "ne"); (case b_9 => walk_at "nall"))
  k_with "execs cons" => (k_here; (with_reducible refine gen_toks ?_); intro _)
  k_with "execs nil" => (k_here; (with_reducible refine gen_toks ?_); intro _)
  k_with "end eq" => (law_clear; (try simp only [decide_eq_true_eq, decide_eq_false_iff_not, ne_eq, Bool.not_eq_true, Bool.not_eq_false, bne_iff_ne, beq_iff_eq] at *); first | rfl | omega | (simp_all; done) | (simp_all; rfl) | ((simp_all); omega))
  k_with "CallK" => (k_here; (guard_target = CallK _ _ (Value.ref 22) _ _ _ _); k_dflt (refine' use_ctrX (c_day_of _ _ _) ?g9_9 ?n9_9 ?F9_9 ?N9_9 ?_; (case g9_9 => with_reducible assumption); (case n9_9 => exact rfl); (case F9_9 => k_asm); (case N9_9 => k_asm); k_whole); walk_at "uX")
  k_with "CallK" => (k_here; (guard_target = CallK _ _ (Value.ref 29) _ _ _ _); k_dflt (refine' use_ctrX (c_time_in_day _ _ _) ?g9_9 ?n9_9 ?F9_9 ?N9_9 ?_; (case g9_9 => with_reducible assumption); (case n9_9 => exact rfl); (case F9_9 => k_asm); (case N9_9 => k_asm); k_whole); walk_at "uX")
  k_with "CallK" => (k_here; (guard_target = CallK _ _ (Value.ref 36) _ _ _ _); k_dflt (refine' use_ctrV (c_leap _ _ _) ?g9_9 ?n9_9 ?F9_9 ?N9_9 ?_; (case g9_9 => with_reducible assumption); (case n9_9 => exact rfl); (case F9_9 => k_asm); (case N9_9 => k_asm); k_whole); walk_at "uV")
  k_with "CallK" => (k_here; (guard_target = CallK _ _ (Value.ref 43) _ _ _ _); k_dflt (refine' use_ctrX (c_dfy _ _ _) ?g9_9 ?n9_9 ?F9_9 ?N9_9 ?_; (case g9_9 => with_reducible assumption); (case n9_9 => exact rfl); (case F9_9 => k_asm); (case N9_9 => k_asm); k_whole); walk_at "uX")
  k_with "CallK" => (k_here; (guard_target = CallK _ _ (Value.ref 71) _ _ _ _); k_dflt (refine' use_ctrX (c_days_ahead _ _ _ _ ?p0_9 ?p1_9) ?g9_9 ?n9_9 ?F9_9 ?N9_9 ?_; (case g9_9 => with_reducible assumption); (case n9_9 => exact rfl); (case F9_9 => k_asm); (case N9_9 => k_asm); (case p0_9 => first | with_reducible assumption | decide | l_fact); (case p1_9 => first | with_reducible assumption | decide | l_fact); k_whole); walk_at "uX")
  k_with "CallK" => (k_here; (guard_target = CallK _ _ (Value.ref 50) _ _ _ _); k_dflt (refine' use_ctrX (c_year_of_day _ _ _ _ ?p0_9 ?p1_9) ?g9_9 ?n9_9 ?F9_9 ?N9_9 ?_; (case g9_9 => with_reducible assumption); (case n9_9 => exact rfl); (case F9_9 => k_asm); (case N9_9 => k_asm); (case p0_9 => assumption); (case p1_9 => assumption); k_whole); walk_at "uX")
  k_with "CallK" => (k_here; (guard_target = CallK _ _ (Value.ref 78) _ _ _ _); k_dflt (refine' use_ctrX (c_days_of_month _ _ _ _ _ ?p0_9 ?p1_9) ?g9_9 ?n9_9 ?F9_9 ?N9_9 ?_; (case g9_9 => with_reducible assumption); (case n9_9 => exact rfl); (case F9_9 => k_asm); (case N9_9 => k_asm); (case p0_9 => first | with_reducible assumption | decide | l_fact); (case p1_9 => first | with_reducible assumption | decide | l_fact); k_whole); walk_at "uX")
  k_with "CallK" => (k_here; (guard_target = CallK _ _ (Value.ref 57) _ _ _ _); k_dflt (refine' use_ctrX (c_year_of _ _ _ _ ?p0_9) ?g9_9 ?n9_9 ?F9_9 ?N9_9 ?_; (case g9_9 => with_reducible assumption); (case n9_9 => exact rfl); (case F9_9 => k_asm); (case N9_9 => k_asm); (case p0_9 => assumption); k_whole); walk_at "uX")
  k_with "CallK" => (k_here; (guard_target = CallK _ _ (Value.ref 64) _ _ _ _); k_dflt (refine' use_ctrX (c_day_in_year _ _ _ _ ?p0_9) ?g9_9 ?n9_9 ?F9_9 ?N9_9 ?_; (case g9_9 => with_reducible assumption); (case n9_9 => exact rfl); (case F9_9 => k_asm); (case N9_9 => k_asm); (case p0_9 => assumption); k_whole); walk_at "uX")
  k_with "CallK" => (k_here; (guard_target = CallK _ _ (Value.ref 85) _ _ _ _); k_dflt (refine' use_ctrX (c_month_of _ _ _ _ _ ?p0_9 ?p1_9) ?g9_9 ?n9_9 ?F9_9 ?N9_9 ?_; (case g9_9 => with_reducible assumption); (case n9_9 => exact rfl); (case F9_9 => k_asm); (case N9_9 => k_asm); (case p0_9 => assumption); (case p1_9 => assumption); k_whole); walk_at "uX")
  k_with "CallK" => (k_here; (guard_target = CallK _ _ (Value.ref 92) _ _ _ _); k_dflt (refine' use_ctrX (c_date_of _ _ _ _ _ ?p0_9 ?p1_9) ?g9_9 ?n9_9 ?F9_9 ?N9_9 ?_; (case g9_9 => with_reducible assumption); (case n9_9 => exact rfl); (case F9_9 => k_asm); (case N9_9 => k_asm); (case p0_9 => assumption); (case p1_9 => assumption); k_whole); walk_at "uX")
  k_with "CallK" => (k_here; (guard_target = CallK _ _ (Value.ref 99) _ _ _ _); k_dflt (refine' use_ctrX (c_week_day_of _ _ _) ?g9_9 ?n9_9 ?F9_9 ?N9_9 ?_; (case g9_9 => with_reducible assumption); (case n9_9 => exact rfl); (case F9_9 => k_asm); (case N9_9 => k_asm); k_whole); walk_at "uX")
  k_with "CallK" => (k_here; (guard_target = CallK _ _ (Value.ref 106) _ _ _ _); k_dflt (refine' use_ctrX (c_hour_of _ _ _) ?g9_9 ?n9_9 ?F9_9 ?N9_9 ?_; (case g9_9 => with_reducible assumption); (case n9_9 => exact rfl); (case F9_9 => k_asm); (case N9_9 => k_asm); k_whole); walk_at "uX")
  k_with "CallK" => (k_here; (guard_target = CallK _ _ (Value.ref 113) _ _ _ _); k_dflt (refine' use_ctrX (c_minute_of _ _ _) ?g9_9 ?n9_9 ?F9_9 ?N9_9 ?_; (case g9_9 => with_reducible assumption); (case n9_9 => exact rfl); (case F9_9 => k_asm); (case N9_9 => k_asm); k_whole); walk_at "uX")
  k_with "CallK" => (k_here; (guard_target = CallK _ _ (Value.ref 120) _ _ _ _); k_dflt (refine' use_ctrX (c_second_of _ _ _) ?g9_9 ?n9_9 ?F9_9 ?N9_9 ?_; (case g9_9 => with_reducible assumption); (case n9_9 => exact rfl); (case F9_9 => k_asm); (case N9_9 => k_asm); k_whole); walk_at "uX")
  k_with "CallK" => (k_here; (guard_target = CallK _ _ (Value.ref 127) _ _ _ _); k_dflt (refine' use_ctrX (c_ms_of _ _ _) ?g9_9 ?n9_9 ?F9_9 ?N9_9 ?_; (case g9_9 => with_reducible assumption); (case n9_9 => exact rfl); (case F9_9 => k_asm); (case N9_9 => k_asm); k_whole); walk_at "uX")
  k_with "compareOp In" => (k_here; (guard_target = wpAny _ _ (compareOp CmpOp.In Value.none (Value.ref _)) _ _ _); k_dflt (first | (refine' none_in4 ?N_9 ?a_9 ?n_9 ?_; (case N_9 => k_asm); (case a_9 => k_mem); (case n_9 => first | with_reducible assumption | ktr_units); k_whole) | (refine' none_in3 ?N_9 ?a_9 ?n_9 ?_; (case N_9 => k_asm); (case a_9 => k_mem); (case n_9 => first | with_reducible assumption | ktr_units); k_whole)); (try dsimp only))
  k_with "CallK" => (k_here; (guard_target = CallK _ _ (Value.ref 141) _ _ _ _); k_dflt (refine' use_ctrX (c_make_time _ _ _ _ _ _ _ _ _) ?g9_9 ?n9_9 ?F9_9 ?N9_9 ?_; (case g9_9 => with_reducible assumption); (case n9_9 => exact rfl); (case F9_9 => k_asm); (case N9_9 => k_asm); k_whole); walk_at "uX")
  k_with "CallK" => (k_here; (guard_target = CallK _ _ (Value.ref 148) _ _ _ _); k_dflt (refine' use_ctrX (c_make_day _ _ _ _ _ _ _) ?g9_9 ?n9_9 ?F9_9 ?N9_9 ?_; (case g9_9 => with_reducible assumption); (case n9_9 => exact rfl); (case F9_9 => k_asm); (case N9_9 => k_asm); k_whole); walk_at "uX")
  k_with "CallK" => (k_here; (guard_target = CallK _ _ (Value.ref 155) _ _ _ _); k_dflt (refine' use_ctrX (c_make_date _ _ _ _ _) ?g9_9 ?n9_9 ?F9_9 ?N9_9 ?_; (case g9_9 => with_reducible assumption); (case n9_9 => exact rfl); (case F9_9 => k_asm); (case N9_9 => k_asm); k_whole); walk_at "uX")
  k_with "CallK" => (k_here; (guard_target = CallK _ _ (Value.ref 176) _ _ _ _); k_dflt (refine' use_ctrX (c_local_of _ _ _ _ _) ?g9_9 ?n9_9 ?F9_9 ?N9_9 ?_; (case g9_9 => with_reducible assumption); (case n9_9 => exact rfl); (case F9_9 => k_asm); (case N9_9 => k_asm); k_whole); walk_at "uX")
  k_with "CallK" => (k_here; (guard_target = CallK _ _ (Value.ref 183) _ _ _ _); k_dflt (refine' use_ctrX (c_utc_of _ _ _ _ _) ?g9_9 ?n9_9 ?F9_9 ?N9_9 ?_; (case g9_9 => with_reducible assumption); (case n9_9 => exact rfl); (case F9_9 => k_asm); (case N9_9 => k_asm); k_whole); walk_at "uX")
  k_with "CallK" => (k_here; (guard_target = CallK _ _ (Value.ref 162) _ _ _ _); k_dflt (refine' use_ctr (c_time_clip _ _ _) ?g9_9 ?n9_9 ?F9_9 ?N9_9 ?_; (case g9_9 => with_reducible assumption); (case n9_9 => exact rfl); (case F9_9 => k_asm); (case N9_9 => k_asm); k_whole); intro r9 h9 tk9 hP9 F9 N9; (try dsimp only); (try k_sweep); (try k_fold))
  k_with "my size" => (simp only [Str.length_append, mk_len, figs_len, item_len, lit0, lit1, lit2, lit3, lit4, lit5, lit6, lit7, lit8, lit9, lit10, lit11, lit12, lit13, lit14, lit15, lit16, lit17, lit18, lit19, lit20, lit21, lit22, lit23, lit24, lit25, lit26, lit27, lit28, lit29, lit30, lit31, lit32, lit33, lit34, lit35, lit36, lit37, lit38, lit39, lit40, lit41, lit42, lit43, lit44, lit45, lit46, lit47, lit48, lit49, lit50, lit51, lit52, lit53, List.length_append, List.length_cons, List.length_nil]; omega)
  k_with "binaryOp Add str str" => (k_here; (guard_target = wpAny _ _ (binaryOp Operator.Add (Value.str _ _) (Value.str _ _)) _ _ _); (refine' add_txt ?z_9 ?_; (case z_9 => walk_at "my size")); intro _ _)
  k_with "CallK" => (k_here; (guard_target = CallK _ _ (Value.ref 192) _ _ _ _); k_dflt (refine' use_ctrX (c_padded2 _ _ _ _ ?p0_9 ?p1_9) ?g9_9 ?n9_9 ?F9_9 ?N9_9 ?_; (case g9_9 => with_reducible assumption); (case n9_9 => exact rfl); (case F9_9 => k_asm); (case N9_9 => k_asm); (case p0_9 => first | with_reducible assumption | decide | l_fact); (case p1_9 => first | with_reducible assumption | decide | l_fact); k_whole); walk_at "uX")
  k_with "CallK" => (k_here; (guard_target = CallK _ _ (Value.ref 192) _ _ _ _); k_dflt (refine' use_ctrX (c_padded4 _ _ _ _ ?p0_9 ?p1_9) ?g9_9 ?n9_9 ?F9_9 ?N9_9 ?_; (case g9_9 => with_reducible assumption); (case n9_9 => exact rfl); (case F9_9 => k_asm); (case N9_9 => k_asm); (case p0_9 => first | with_reducible assumption | decide | l_fact); (case p1_9 => first | with_reducible assumption | decide | l_fact); k_whole); walk_at "uX")
  k_with "CallK" => (k_here; (guard_target = CallK _ _ (Value.ref 199) _ _ _ _); k_dflt (refine' use_ctrX (c_plain_year _ _ _ ?p0_9 ?p1_9) ?g9_9 ?n9_9 ?F9_9 ?N9_9 ?_; (case g9_9 => with_reducible assumption); (case n9_9 => exact rfl); (case F9_9 => k_asm); (case N9_9 => k_asm); (case p0_9 => first | with_reducible assumption | decide | l_fact); (case p1_9 => first | with_reducible assumption | decide | l_fact); k_whole); walk_at "uX")
  k_with "CallK" => (k_here; (guard_target = CallK _ _ (Value.ref 206) _ _ _ _); k_dflt (refine' use_ctrX (c_clock_text _ _ _ _ _ _ _ ?p0_9 ?p1_9 ?p2_9 ?p3_9 ?p4_9 ?p5_9) ?g9_9 ?n9_9 ?F9_9 ?N9_9 ?_; (case g9_9 => with_reducible assumption); (case n9_9 => exact rfl); (case F9_9 => k_asm); (case N9_9 => k_asm); (case p0_9 => first | with_reducible assumption | decide | l_fact); (case p1_9 => first | with_reducible assumption | decide | l_fact); (case p2_9 => first | with_reducible assumption | decide | l_fact); (case p3_9 => first | with_reducible assumption | decide | l_fact); (case p4_9 => first | with_reducible assumption | decide | l_fact); (case p5_9 => first | with_reducible assumption | decide | l_fact); k_whole); walk_at "uX")
  k_with "CallK" => (k_here; (guard_target = CallK _ _ (Value.ref 220) _ _ _ _); k_dflt (refine' use_ctrX (c_offset_text _ _ _ ?p0_9 ?p1_9) ?g9_9 ?n9_9 ?F9_9 ?N9_9 ?_; (case g9_9 => with_reducible assumption); (case n9_9 => exact rfl); (case F9_9 => k_asm); (case N9_9 => k_asm); (case p0_9 => first | with_reducible assumption | decide | l_fact); (case p1_9 => first | with_reducible assumption | decide | l_fact); k_whole); walk_at "uX")
  k_with "CallK" => (k_here; (guard_target = CallK _ _ (Value.ref 134) _ _ _ _); k_dflt (refine' use_fields (c_fields_of _ _ _ _ _ ?p0_9 ?p1_9) ?g9_9 ?n9_9 ?F9_9 ?N9_9 ?_; (case g9_9 => with_reducible assumption); (case n9_9 => exact rfl); (case F9_9 => k_asm); (case N9_9 => k_asm); (case p0_9 => assumption); (case p1_9 => assumption); k_whole); intro q9 t91 t92 t93 t94 t95 t96 t97 h9 tk9 F9 N9; (try dsimp only); (try k_sweep); (try k_fold))
  trivial
set_option maxRecDepth 100000
set_option maxHeartbeats 8000000
/-- the bounds of a moment's fields -/
structure BF (x y i : Int) : Prop where
  y0 : 0 ≤ y
  y1 : y < 10000
  d0 : 0 ≤ dateF x y i
  d1 : dateF x y i < 100
theorem hour_b (x : Int) : 0 ≤ hourF x ∧ hourF x < 100 := by
  unfold hourF; rw [Int.fmod_eq_emod_of_nonneg _ (by (first | lia | omega)), Int.fdiv_eq_ediv_of_nonneg _ (by (first | lia | omega))]; (first | lia | omega)
theorem fm_b (x : Int) {k : Int} (h : 0 < k) : 0 ≤ x.fmod k ∧ x.fmod k < k := by
  rw [Int.fmod_eq_emod_of_nonneg _ (by (first | lia | omega))]
  exact ⟨Int.emod_nonneg _ (by (first | lia | omega)), Int.emod_lt_of_pos _ h⟩
theorem min_b (x : Int) : 0 ≤ minF x ∧ minF x < 100 := by
  have := fm_b ((x.fmod 86400000).fdiv 60000) (k := 60) (by decide)
  unfold minF; (first | lia | omega)
theorem sec_b (x : Int) : 0 ≤ secF x ∧ secF x < 100 := by
  have := fm_b ((x.fmod 86400000).fdiv 1000) (k := 60) (by decide)
  unfold secF; (first | lia | omega)
theorem wd_b (x : Int) : 0 ≤ wdF x ∧ wdF x < 7 := by
  have := fm_b (x.fdiv 86400000 + 4) (k := 7) (by decide)
  unfold wdF; (first | lia | omega)
noncomputable def dayT (x y i : Int) : List Nat := wdN (wdF x) ++ [32] ++ moN i ++ [32] ++ figs (dateF x y i).toNat 2 ++ [32] ++ figs y.toNat 4
section
variable {w : World} {A : Around} {E : Value → Shared → Prop} {s : Shared} {h₀ : Heap} {L : Addr} {m : Str → Option Value}
theorem wd_item {value slice : PySem.Expr} {k : Int} {u : Tok} {Q : Value → Shared → Prop} (F : Fr h₀ L s.heap m) (X : (hd.heap_1 w.params).In h₀) (h0 : 0 ≤ k) (h1 : k < 7) (h : ∀ t, Q (.str (mk (wdN k)) t) s)
    (hs : subscripted slice false (.ref 185) (.int k u) = operate [.ref 185, .int k u] (getItem (.ref 185) (.int k u)) := by with_unfolding_all rfl) :
    wpAny (model PP w) A (subscriptTail value slice (.ref 185) (.int k u)) Q E s := by
  obtain ⟨t, ht⟩ := wd_at h0 h1
  exact topList_K F X (dd := none) (n := 0) (sl := #[]) rfl h0 (by (first | lia | omega)) ht (h t) hs
theorem mo_item {value slice : PySem.Expr} {k : Int} {u : Tok} {Q : Value → Shared → Prop} (F : Fr h₀ L s.heap m) (X : (hd.heap_1 w.params).In h₀) (h0 : 0 ≤ k) (h1 : k < 12) (h : ∀ t, Q (.str (mk (moN k)) t) s)
    (hs : subscripted slice false (.ref 184) (.int k u) = operate [.ref 184, .int k u] (getItem (.ref 184) (.int k u)) := by with_unfolding_all rfl) :
    wpAny (model PP w) A (subscriptTail value slice (.ref 184) (.int k u)) Q E s := by
  obtain ⟨t, ht⟩ := mo_at h0 h1
  exact topList_K F X (dd := none) (n := 0) (sl := #[]) rfl h0 (by (first | lia | omega)) ht (h t) hs
end
theorem ru_A4_1 : True := by
  k_with "subscriptTail" => (k_here; (guard_target = wpAny _ _ (subscriptTail _ _ (Value.ref 185) (Value.int _ _)) _ _ _); k_dflt (refine' wd_item ?k1_9 ?k2_9 ?k3_9 ?k4_9 ?_ ?k5_9; (case k1_9 => k_asm); (case k2_9 => k_asm); (case k3_9 => assumption); (case k4_9 => assumption); (case k5_9 => with_unfolding_all rfl)); intro _)
  k_with "subscriptTail" => (k_here; (guard_target = wpAny _ _ (subscriptTail _ _ (Value.ref 184) (Value.int _ _)) _ _ _); k_dflt (refine' mo_item ?k1_9 ?k2_9 ?k3_9 ?k4_9 ?_ ?k5_9; (case k1_9 => k_asm); (case k2_9 => k_asm); (case k3_9 => assumption); (case k4_9 => assumption); (case k5_9 => with_unfolding_all rfl)); intro _)
  k_with "my size" => (simp only [Str.length_append, mk_len, figs_len, item_len, clockT, offT, dayT, lit0, lit1, lit2, lit3, lit4, lit5, lit6, lit7, lit8, lit9, lit10, lit11, lit12, lit13, lit14, lit15, lit16, lit17, lit18, lit19, lit20, lit21, lit22, lit23, lit24, lit25, lit26, lit27, lit28, lit29, lit30, lit31, lit32, lit33, lit34, lit35, lit36, lit37, lit38, lit39, lit40, lit41, lit42, lit43, lit44, lit45, lit46, lit47, lit48, lit49, lit50, lit51, lit52, lit53, List.length_append, List.length_cons, List.length_nil]; (try split); omega)
  trivial
theorem c_day_text (w : World) (x y i : Int) (t : Tok) (hy : YF x y) (hm : MF x y i) (hb : BF x y i) : Ctr w 213 8 [.int x t] (strv (mk (dayT x y i))) := by
  k_dflt (refine' ctrS_enter (bs := [(Str.ofString "time", _)]) ?k6 ?k7 ?kb ?kB ?kr ?c2 ?c3 ?c4 ?c5 ?_; (case k6 => k_is); (case k7 => k_is); (case kb => exact rfl); (case kB => exact rfl); (case kr => exact rfl); (case c2 => exact rfl); (case c3 => exact rfl); (case c4 => exact rfl); (case c5 => decide))
  intro mean mg mb dp un gd outer A₀ base g' L' h9 gs9 d9 tk9 o9 Q
  intro A9 P9 u9 B' F9 X' N' T' hdp hun hret
  obtain ⟨y0, y1, d0, d1⟩ := hb
  obtain ⟨w0, w1⟩ := wd_b x
  have m0 := hm.1
  have m1 := hm.2.1
  have wl := wdN_len w0 w1
  have ml := moN_len m0 (by omega)
  have m2 : i < 12 := by omega
  walk_at "steps"
  all_goals first | (refine hret _ _ _ ?_ (by k_asm); (simp only [lit0, lit1, lit2, lit3, lit4, lit5, lit6, lit7, lit8, lit9, lit10, lit11, lit12, lit13, lit14, lit15, lit16, lit17, lit18, lit19, lit20, lit21, lit22, lit23, lit24, lit25, lit26, lit27, lit28, lit29, lit30, lit31, lit32, lit33, lit34, lit35, lit36, lit37, lit38, lit39, lit40, lit41, lit42, lit43, lit44, lit45, lit46, lit47, lit48, lit49, lit50, lit51, lit52, lit53, mk_app, dayT])) | (refine hret _ _ _ ?_ (by k_asm) (by first | with_reducible assumption | exact drop_news (by with_reducible assumption) (by first | with_reducible exact ktn_subA | repeat (first | with_reducible exact sub_refl | with_reducible refine sub_cons ?_ | with_reducible refine sub_skip ?_))); (simp only [lit0, lit1, lit2, lit3, lit4, lit5, lit6, lit7, lit8, lit9, lit10, lit11, lit12, lit13, lit14, lit15, lit16, lit17, lit18, lit19, lit20, lit21, lit22, lit23, lit24, lit25, lit26, lit27, lit28, lit29, lit30, lit31, lit32, lit33, lit34, lit35, lit36, lit37, lit38, lit39, lit40, lit41, lit42, lit43, lit44, lit45, lit46, lit47, lit48, lit49, lit50, lit51, lit52, lit53, mk_app, dayT])) | (refine hret _ _ _ ⟨_, congrArg (fun z => Value.str z _) ?_⟩ (by k_asm); (simp only [lit0, lit1, lit2, lit3, lit4, lit5, lit6, lit7, lit8, lit9, lit10, lit11, lit12, lit13, lit14, lit15, lit16, lit17, lit18, lit19, lit20, lit21, lit22, lit23, lit24, lit25, lit26, lit27, lit28, lit29, lit30, lit31, lit32, lit33, lit34, lit35, lit36, lit37, lit38, lit39, lit40, lit41, lit42, lit43, lit44, lit45, lit46, lit47, lit48, lit49, lit50, lit51, lit52, lit53, mk_app, dayT])) | (refine hret _ _ _ ⟨_, congrArg (fun z => Value.str z _) ?_⟩ (by k_asm) (by first | with_reducible assumption | exact drop_news (by with_reducible assumption) (by first | with_reducible exact ktn_subA | repeat (first | with_reducible exact sub_refl | with_reducible refine sub_cons ?_ | with_reducible refine sub_skip ?_))); (simp only [lit0, lit1, lit2, lit3, lit4, lit5, lit6, lit7, lit8, lit9, lit10, lit11, lit12, lit13, lit14, lit15, lit16, lit17, lit18, lit19, lit20, lit21, lit22, lit23, lit24, lit25, lit26, lit27, lit28, lit29, lit30, lit31, lit32, lit33, lit34, lit35, lit36, lit37, lit38, lit39, lit40, lit41, lit42, lit43, lit44, lit45, lit46, lit47, lit48, lit49, lit50, lit51, lit52, lit53, mk_app, dayT]))
theorem ru_A4_2 : True := by
  k_with "CallK" => (k_here; (guard_target = CallK _ _ (Value.ref 213) _ _ _ _); k_dflt (refine' use_ctrX (c_day_text _ _ _ _ _ ?p0_9 ?p1_9 ?p2_9) ?g9_9 ?n9_9 ?F9_9 ?N9_9 ?_; (case g9_9 => with_reducible assumption); (case n9_9 => exact rfl); (case F9_9 => k_asm); (case N9_9 => k_asm); (case p0_9 => assumption); (case p1_9 => assumption); (case p2_9 => assumption); k_whole); walk_at "uX")
  trivial
noncomputable def timeT (x o : Int) : List Nat := clockT (hourF x) (minF x) (secF x) ++ [32] ++ offT o
theorem clockT_len (h m s : Int) : (clockT h m s).length = 8 := by simp [clockT, figs_len]
theorem offT_len (o : Int) : (offT o).length = 8 := by unfold offT; split <;> simp [figs_len]
theorem timeT_len (x o : Int) : (timeT x o).length = 17 := by simp [timeT, clockT_len, offT_len]
theorem wdN_le (i : Int) : (wdN i).length ≤ 3 := by
  unfold wdN
  rw [List.getD_eq_getElem?_getD]
  cases h : wdL[i.toNat]? with
  | none => simp
  | some l =>
    have : ∀ l ∈ wdL, l.length ≤ 3 := by decide
    exact this l (List.mem_of_getElem? h)
theorem moN_le (i : Int) : (moN i).length ≤ 3 := by
  unfold moN
  rw [List.getD_eq_getElem?_getD]
  cases h : moL[i.toNat]? with
  | none => simp
  | some l =>
    have : ∀ l ∈ moL, l.length ≤ 3 := by decide
    exact this l (List.mem_of_getElem? h)
theorem dayT_le (x y i : Int) : (dayT x y i).length ≤ 15 := by
  have := wdN_le (wdF x)
  have := moN_le i
  simp only [dayT, List.length_append, figs_len, List.length_cons, List.length_nil]
  (first | lia | omega)
theorem ru_A4_3 : True := by
  k_with "my size" => (simp only [Str.length_append, mk_len, figs_len, item_len, clockT_len, offT_len, timeT_len, lit0, lit1, lit2, lit3, lit4, lit5, lit6, lit7, lit8, lit9, lit10, lit11, lit12, lit13, lit14, lit15, lit16, lit17, lit18, lit19, lit20, lit21, lit22, lit23, lit24, lit25, lit26, lit27, lit28, lit29, lit30, lit31, lit32, lit33, lit34, lit35, lit36, lit37, lit38, lit39, lit40, lit41, lit42, lit43, lit44, lit45, lit46, lit47, lit48, lit49, lit50, lit51, lit52, lit53, List.length_append, List.length_cons, List.length_nil]; omega)
  trivial
theorem c_time_text (w : World) (x o y i : Int) (t t' : Tok) (hy : YF x y) (hm : MF x y i) (h0 : -6000 < o) (h1 : o < 6000) : Ctr w 227 8 [.int x t, .int o t'] (strv (mk (timeT x o))) := by
  k_dflt (refine' ctrS_enter (bs := [(Str.ofString "offset", _), (Str.ofString "time", _)]) ?k6 ?k7 ?kb ?kB ?kr ?c2 ?c3 ?c4 ?c5 ?_; (case k6 => k_is); (case k7 => k_is); (case kb => exact rfl); (case kB => exact rfl); (case kr => exact rfl); (case c2 => exact rfl); (case c3 => exact rfl); (case c4 => exact rfl); (case c5 => decide))
  intro mean mg mb dp un gd outer A₀ base g' L' h9 gs9 d9 tk9 o9 Q
  intro A9 P9 u9 B' F9 X' N' T' hdp hun hret
  obtain ⟨a0, a1⟩ := hour_b x
  obtain ⟨b0, b1⟩ := min_b x
  obtain ⟨c0, c1⟩ := sec_b x
  walk_at "steps"
  all_goals first | (refine hret _ _ _ ?_ (by k_asm); (simp only [lit0, lit1, lit2, lit3, lit4, lit5, lit6, lit7, lit8, lit9, lit10, lit11, lit12, lit13, lit14, lit15, lit16, lit17, lit18, lit19, lit20, lit21, lit22, lit23, lit24, lit25, lit26, lit27, lit28, lit29, lit30, lit31, lit32, lit33, lit34, lit35, lit36, lit37, lit38, lit39, lit40, lit41, lit42, lit43, lit44, lit45, lit46, lit47, lit48, lit49, lit50, lit51, lit52, lit53, mk_app, timeT])) | (refine hret _ _ _ ?_ (by k_asm) (by first | with_reducible assumption | exact drop_news (by with_reducible assumption) (by first | with_reducible exact ktn_subA | repeat (first | with_reducible exact sub_refl | with_reducible refine sub_cons ?_ | with_reducible refine sub_skip ?_))); (simp only [lit0, lit1, lit2, lit3, lit4, lit5, lit6, lit7, lit8, lit9, lit10, lit11, lit12, lit13, lit14, lit15, lit16, lit17, lit18, lit19, lit20, lit21, lit22, lit23, lit24, lit25, lit26, lit27, lit28, lit29, lit30, lit31, lit32, lit33, lit34, lit35, lit36, lit37, lit38, lit39, lit40, lit41, lit42, lit43, lit44, lit45, lit46, lit47, lit48, lit49, lit50, lit51, lit52, lit53, mk_app, timeT])) | (refine hret _ _ _ ⟨_, congrArg (fun z => Value.str z _) ?_⟩ (by k_asm); (simp only [lit0, lit1, lit2, lit3, lit4, lit5, lit6, lit7, lit8, lit9, lit10, lit11, lit12, lit13, lit14, lit15, lit16, lit17, lit18, lit19, lit20, lit21, lit22, lit23, lit24, lit25, lit26, lit27, lit28, lit29, lit30, lit31, lit32, lit33, lit34, lit35, lit36, lit37, lit38, lit39, lit40, lit41, lit42, lit43, lit44, lit45, lit46, lit47, lit48, lit49, lit50, lit51, lit52, lit53, mk_app, timeT])) | (refine hret _ _ _ ⟨_, congrArg (fun z => Value.str z _) ?_⟩ (by k_asm) (by first | with_reducible assumption | exact drop_news (by with_reducible assumption) (by first | with_reducible exact ktn_subA | repeat (first | with_reducible exact sub_refl | with_reducible refine sub_cons ?_ | with_reducible refine sub_skip ?_))); (simp only [lit0, lit1, lit2, lit3, lit4, lit5, lit6, lit7, lit8, lit9, lit10, lit11, lit12, lit13, lit14, lit15, lit16, lit17, lit18, lit19, lit20, lit21, lit22, lit23, lit24, lit25, lit26, lit27, lit28, lit29, lit30, lit31, lit32, lit33, lit34, lit35, lit36, lit37, lit38, lit39, lit40, lit41, lit42, lit43, lit44, lit45, lit46, lit47, lit48, lit49, lit50, lit51, lit52, lit53, mk_app, timeT]))
theorem ru_A4_4 : True := by
  k_with "CallK" => (k_here; (guard_target = CallK _ _ (Value.ref 227) _ _ _ _); k_dflt (refine' use_ctrX (c_time_text _ _ _ _ _ _ _ ?p0_9 ?p1_9 ?p2_9 ?p3_9) ?g9_9 ?n9_9 ?F9_9 ?N9_9 ?_; (case g9_9 => with_reducible assumption); (case n9_9 => exact rfl); (case F9_9 => k_asm); (case N9_9 => k_asm); (case p0_9 => assumption); (case p1_9 => assumption); (case p2_9 => first | with_reducible assumption | decide | l_fact); (case p3_9 => first | with_reducible assumption | decide | l_fact); k_whole); walk_at "uX")
  trivial
theorem c_whole_text (w : World) (x o y i : Int) (t t' : Tok) (hy : YF (x + o * 60000) y) (hm : MF (x + o * 60000) y i) (hb : BF (x + o * 60000) y i) (h0 : -6000 < o) (h1 : o < 6000) : Ctr w 234 9 [.int x t, .int o t'] (strv (mk (dayT (x + o * 60000) y i ++ [32] ++ timeT (x + o * 60000) o))) := by
  k_dflt (refine' ctrS_enter (bs := [(Str.ofString "offset", _), (Str.ofString "time", _)]) ?k6 ?k7 ?kb ?kB ?kr ?c2 ?c3 ?c4 ?c5 ?_; (case k6 => k_is); (case k7 => k_is); (case kb => exact rfl); (case kB => exact rfl); (case kr => exact rfl); (case c2 => exact rfl); (case c3 => exact rfl); (case c4 => exact rfl); (case c5 => decide))
  intro mean mg mb dp un gd outer A₀ base g' L' h9 gs9 d9 tk9 o9 Q
  intro A9 P9 u9 B' F9 X' N' T' hdp hun hret
  have dl := dayT_le (x + o * 60000) y i
  walk_at "steps"
  all_goals first | (refine hret _ _ _ ?_ (by k_asm); (simp only [lit0, lit1, lit2, lit3, lit4, lit5, lit6, lit7, lit8, lit9, lit10, lit11, lit12, lit13, lit14, lit15, lit16, lit17, lit18, lit19, lit20, lit21, lit22, lit23, lit24, lit25, lit26, lit27, lit28, lit29, lit30, lit31, lit32, lit33, lit34, lit35, lit36, lit37, lit38, lit39, lit40, lit41, lit42, lit43, lit44, lit45, lit46, lit47, lit48, lit49, lit50, lit51, lit52, lit53, mk_app])) | (refine hret _ _ _ ?_ (by k_asm) (by first | with_reducible assumption | exact drop_news (by with_reducible assumption) (by first | with_reducible exact ktn_subA | repeat (first | with_reducible exact sub_refl | with_reducible refine sub_cons ?_ | with_reducible refine sub_skip ?_))); (simp only [lit0, lit1, lit2, lit3, lit4, lit5, lit6, lit7, lit8, lit9, lit10, lit11, lit12, lit13, lit14, lit15, lit16, lit17, lit18, lit19, lit20, lit21, lit22, lit23, lit24, lit25, lit26, lit27, lit28, lit29, lit30, lit31, lit32, lit33, lit34, lit35, lit36, lit37, lit38, lit39, lit40, lit41, lit42, lit43, lit44, lit45, lit46, lit47, lit48, lit49, lit50, lit51, lit52, lit53, mk_app])) | (refine hret _ _ _ ⟨_, congrArg (fun z => Value.str z _) ?_⟩ (by k_asm); (simp only [lit0, lit1, lit2, lit3, lit4, lit5, lit6, lit7, lit8, lit9, lit10, lit11, lit12, lit13, lit14, lit15, lit16, lit17, lit18, lit19, lit20, lit21, lit22, lit23, lit24, lit25, lit26, lit27, lit28, lit29, lit30, lit31, lit32, lit33, lit34, lit35, lit36, lit37, lit38, lit39, lit40, lit41, lit42, lit43, lit44, lit45, lit46, lit47, lit48, lit49, lit50, lit51, lit52, lit53, mk_app])) | (refine hret _ _ _ ⟨_, congrArg (fun z => Value.str z _) ?_⟩ (by k_asm) (by first | with_reducible assumption | exact drop_news (by with_reducible assumption) (by first | with_reducible exact ktn_subA | repeat (first | with_reducible exact sub_refl | with_reducible refine sub_cons ?_ | with_reducible refine sub_skip ?_))); (simp only [lit0, lit1, lit2, lit3, lit4, lit5, lit6, lit7, lit8, lit9, lit10, lit11, lit12, lit13, lit14, lit15, lit16, lit17, lit18, lit19, lit20, lit21, lit22, lit23, lit24, lit25, lit26, lit27, lit28, lit29, lit30, lit31, lit32, lit33, lit34, lit35, lit36, lit37, lit38, lit39, lit40, lit41, lit42, lit43, lit44, lit45, lit46, lit47, lit48, lit49, lit50, lit51, lit52, lit53, mk_app]))
theorem ru_A4_5 : True := by
  k_with "CallK" => (k_here; (guard_target = CallK _ _ (Value.ref 234) _ _ _ _); k_dflt (refine' use_ctrX (c_whole_text _ _ _ _ _ _ _ ?p0_9 ?p1_9 ?p2_9 ?p3_9 ?p4_9) ?g9_9 ?n9_9 ?F9_9 ?N9_9 ?_; (case g9_9 => with_reducible assumption); (case n9_9 => exact rfl); (case F9_9 => k_asm); (case N9_9 => k_asm); (case p0_9 => assumption); (case p1_9 => assumption); (case p2_9 => assumption); (case p3_9 => first | with_reducible assumption | decide | l_fact); (case p4_9 => first | with_reducible assumption | decide | l_fact); k_whole); walk_at "uX")
  trivial
theorem c_whole_none (w : World) (o : Int) (t' : Tok) : Ctr w 234 1 [.none, .int o t'] (strv (Str.ofString "Invalid Date")) := by
  k_dflt (refine' ctrS_enter (bs := [(Str.ofString "offset", _), (Str.ofString "time", _)]) ?k6 ?k7 ?kb ?kB ?kr ?c2 ?c3 ?c4 ?c5 ?_; (case k6 => k_is); (case k7 => k_is); (case kb => exact rfl); (case kB => exact rfl); (case kr => exact rfl); (case c2 => exact rfl); (case c3 => exact rfl); (case c4 => exact rfl); (case c5 => decide))
  intro mean mg mb dp un gd outer A₀ base g' L' h9 gs9 d9 tk9 o9 Q
  intro A9 P9 u9 B' F9 X' N' T' hdp hun hret
  walk_at "steps"
  all_goals first | (refine hret _ _ _ ?_ (by k_asm); rfl) | (refine hret _ _ _ ?_ (by k_asm) (by first | with_reducible assumption | exact drop_news (by with_reducible assumption) (by first | with_reducible exact ktn_subA | repeat (first | with_reducible exact sub_refl | with_reducible refine sub_cons ?_ | with_reducible refine sub_skip ?_))); rfl) | (refine hret _ _ _ ⟨_, congrArg (fun z => Value.str z _) ?_⟩ (by k_asm); rfl) | (refine hret _ _ _ ⟨_, congrArg (fun z => Value.str z _) ?_⟩ (by k_asm) (by first | with_reducible assumption | exact drop_news (by with_reducible assumption) (by first | with_reducible exact ktn_subA | repeat (first | with_reducible exact sub_refl | with_reducible refine sub_cons ?_ | with_reducible refine sub_skip ?_))); rfl)
theorem ru_A4_6 : True := by
  k_with "CallK" => (k_here; (guard_target = CallK _ _ (Value.ref 234) _ _ _ _); k_dflt (refine' use_ctrX (c_whole_none _ _ _) ?g9_9 ?n9_9 ?F9_9 ?N9_9 ?_; (case g9_9 => with_reducible assumption); (case n9_9 => exact rfl); (case F9_9 => k_asm); (case N9_9 => k_asm); k_whole); walk_at "uX")
  trivial
noncomputable def utcT (x y i : Int) : List Nat := wdN (wdF x) ++ [44, 32] ++ figs (dateF x y i).toNat 2 ++ [32] ++ moN i ++ [32] ++ figs y.toNat 4 ++ [32] ++ clockT (hourF x) (minF x) (secF x) ++ [32, 71, 77, 84]
theorem c_utc_text (w : World) (x y i : Int) (t : Tok) (hy : YF x y) (hm : MF x y i) (hb : BF x y i) : Ctr w 241 9 [.int x t] (strv (mk (utcT x y i))) := by
  k_dflt (refine' ctrS_enter (bs := [(Str.ofString "time", _)]) ?k6 ?k7 ?kb ?kB ?kr ?c2 ?c3 ?c4 ?c5 ?_; (case k6 => k_is); (case k7 => k_is); (case kb => exact rfl); (case kB => exact rfl); (case kr => exact rfl); (case c2 => exact rfl); (case c3 => exact rfl); (case c4 => exact rfl); (case c5 => decide))
  intro mean mg mb dp un gd outer A₀ base g' L' h9 gs9 d9 tk9 o9 Q
  intro A9 P9 u9 B' F9 X' N' T' hdp hun hret
  obtain ⟨y0, y1, d0, d1⟩ := hb
  obtain ⟨w0, w1⟩ := wd_b x
  obtain ⟨a0, a1⟩ := hour_b x
  obtain ⟨b0, b1⟩ := min_b x
  obtain ⟨c0, c1⟩ := sec_b x
  have m0 := hm.1
  have m1 := hm.2.1
  have wl := wdN_len w0 w1
  have ml := moN_len m0 (by omega)
  have m2 : i < 12 := by omega
  walk_at "steps"
  all_goals first | (refine hret _ _ _ ?_ (by k_asm); (simp only [lit0, lit1, lit2, lit3, lit4, lit5, lit6, lit7, lit8, lit9, lit10, lit11, lit12, lit13, lit14, lit15, lit16, lit17, lit18, lit19, lit20, lit21, lit22, lit23, lit24, lit25, lit26, lit27, lit28, lit29, lit30, lit31, lit32, lit33, lit34, lit35, lit36, lit37, lit38, lit39, lit40, lit41, lit42, lit43, lit44, lit45, lit46, lit47, lit48, lit49, lit50, lit51, lit52, lit53, mk_app, utcT])) | (refine hret _ _ _ ?_ (by k_asm) (by first | with_reducible assumption | exact drop_news (by with_reducible assumption) (by first | with_reducible exact ktn_subA | repeat (first | with_reducible exact sub_refl | with_reducible refine sub_cons ?_ | with_reducible refine sub_skip ?_))); (simp only [lit0, lit1, lit2, lit3, lit4, lit5, lit6, lit7, lit8, lit9, lit10, lit11, lit12, lit13, lit14, lit15, lit16, lit17, lit18, lit19, lit20, lit21, lit22, lit23, lit24, lit25, lit26, lit27, lit28, lit29, lit30, lit31, lit32, lit33, lit34, lit35, lit36, lit37, lit38, lit39, lit40, lit41, lit42, lit43, lit44, lit45, lit46, lit47, lit48, lit49, lit50, lit51, lit52, lit53, mk_app, utcT])) | (refine hret _ _ _ ⟨_, congrArg (fun z => Value.str z _) ?_⟩ (by k_asm); (simp only [lit0, lit1, lit2, lit3, lit4, lit5, lit6, lit7, lit8, lit9, lit10, lit11, lit12, lit13, lit14, lit15, lit16, lit17, lit18, lit19, lit20, lit21, lit22, lit23, lit24, lit25, lit26, lit27, lit28, lit29, lit30, lit31, lit32, lit33, lit34, lit35, lit36, lit37, lit38, lit39, lit40, lit41, lit42, lit43, lit44, lit45, lit46, lit47, lit48, lit49, lit50, lit51, lit52, lit53, mk_app, utcT])) | (refine hret _ _ _ ⟨_, congrArg (fun z => Value.str z _) ?_⟩ (by k_asm) (by first | with_reducible assumption | exact drop_news (by with_reducible assumption) (by first | with_reducible exact ktn_subA | repeat (first | with_reducible exact sub_refl | with_reducible refine sub_cons ?_ | with_reducible refine sub_skip ?_))); (simp only [lit0, lit1, lit2, lit3, lit4, lit5, lit6, lit7, lit8, lit9, lit10, lit11, lit12, lit13, lit14, lit15, lit16, lit17, lit18, lit19, lit20, lit21, lit22, lit23, lit24, lit25, lit26, lit27, lit28, lit29, lit30, lit31, lit32, lit33, lit34, lit35, lit36, lit37, lit38, lit39, lit40, lit41, lit42, lit43, lit44, lit45, lit46, lit47, lit48, lit49, lit50, lit51, lit52, lit53, mk_app, utcT]))
theorem ru_A4_7 : True := by
  k_with "CallK" => (k_here; (guard_target = CallK _ _ (Value.ref 241) _ _ _ _); k_dflt (refine' use_ctrX (c_utc_text _ _ _ _ _ ?p0_9 ?p1_9 ?p2_9) ?g9_9 ?n9_9 ?F9_9 ?N9_9 ?_; (case g9_9 => with_reducible assumption); (case n9_9 => exact rfl); (case F9_9 => k_asm); (case N9_9 => k_asm); (case p0_9 => assumption); (case p1_9 => assumption); (case p2_9 => assumption); k_whole); walk_at "uX")
  trivial
theorem c_utc_none (w : World) : Ctr w 241 1 [.none] (strv (Str.ofString "Invalid Date")) := by
  k_dflt (refine' ctrS_enter (bs := [(Str.ofString "time", _)]) ?k6 ?k7 ?kb ?kB ?kr ?c2 ?c3 ?c4 ?c5 ?_; (case k6 => k_is); (case k7 => k_is); (case kb => exact rfl); (case kB => exact rfl); (case kr => exact rfl); (case c2 => exact rfl); (case c3 => exact rfl); (case c4 => exact rfl); (case c5 => decide))
  intro mean mg mb dp un gd outer A₀ base g' L' h9 gs9 d9 tk9 o9 Q
  intro A9 P9 u9 B' F9 X' N' T' hdp hun hret
  walk_at "steps"
  all_goals first | (refine hret _ _ _ ?_ (by k_asm); rfl) | (refine hret _ _ _ ?_ (by k_asm) (by first | with_reducible assumption | exact drop_news (by with_reducible assumption) (by first | with_reducible exact ktn_subA | repeat (first | with_reducible exact sub_refl | with_reducible refine sub_cons ?_ | with_reducible refine sub_skip ?_))); rfl) | (refine hret _ _ _ ⟨_, congrArg (fun z => Value.str z _) ?_⟩ (by k_asm); rfl) | (refine hret _ _ _ ⟨_, congrArg (fun z => Value.str z _) ?_⟩ (by k_asm) (by first | with_reducible assumption | exact drop_news (by with_reducible assumption) (by first | with_reducible exact ktn_subA | repeat (first | with_reducible exact sub_refl | with_reducible refine sub_cons ?_ | with_reducible refine sub_skip ?_))); rfl)
theorem ru_A4_8 : True := by
  k_with "CallK" => (k_here; (guard_target = CallK _ _ (Value.ref 241) _ _ _ _); k_dflt (refine' use_ctrX (c_utc_none _) ?g9_9 ?n9_9 ?F9_9 ?N9_9 ?_; (case g9_9 => with_reducible assumption); (case n9_9 => exact rfl); (case F9_9 => k_asm); (case N9_9 => k_asm); k_whole); walk_at "uX")
  trivial
end

section -- T1
theorem rst_T1 : True := by
  w_top off
  trivial
open PySem PySem.W PySem.Calls PyProof.Rows
open PySem.Builtin PySem.Builtin.Str
theorem nof_0 : (∀ c ∈ ([] : List Nat), isDig c = true) ∧ (0 : Int) = val [] := ⟨fun _ h => (nomatch h), rfl⟩
theorem nof_c {c : Nat} (h : ¬ Txt.find FIG (mk [c]) < 0) : isDig c = true ∧ Txt.find FIG (mk [c]) = (c : Int) - 48 := by
  rw [find_fig] at h ⊢
  by_cases q : isDig c = true
  · rw [if_pos q]; exact ⟨q, rfl⟩
  · rw [if_neg q] at h; exact absurd (by decide) h
theorem nof_n {c : Nat} (h : Txt.find FIG (mk [c]) < 0) : isDig c = false := by
  rw [find_fig] at h
  by_cases q : isDig c = true
  · rw [if_pos q] at h; unfold isDig at q; simp at q; (first | lia | omega)
  · simpa using q
theorem nof_0i : (∀ c ∈ ([] : List Int), isDig c.toNat = true) ∧ (0 : Int) = val (([] : List Int).map Int.toNat) := ⟨fun _ h => (nomatch h), rfl⟩
theorem nof_s {pre : List Int} {c : Nat} {f : Int} (h1 : ∀ c ∈ pre, isDig c.toNat = true) (h2 : f = val (pre.map Int.toNat)) (h : ¬ Txt.find FIG (mk [c]) < 0) :
    (∀ d ∈ pre ++ [(c : Int)], isDig d.toNat = true) ∧ f * 10 + Txt.find FIG (mk [c]) = val ((pre ++ [(c : Int)]).map Int.toNat) := by
  have q := nof_c h
  refine ⟨fun d hd => ?_, ?_⟩
  · rcases List.mem_append.mp hd with hd | hd
    · exact h1 d hd
    · rw [List.mem_singleton.mp hd]; exact q.1
  · rw [List.map_append, List.map_cons, List.map_nil, Int.toNat_natCast, val_snoc, q.2, h2]
theorem codes_mk (l : List Nat) : (KStt.codes (mk l)).map Int.toNat = l := by
  unfold KStt.codes
  simp [List.map_map, Function.comp_def]
theorem nof_none {l : List Nat} {pre post : List Int} {c : Nat} (h0 : KStt.codes (mk l) = pre ++ (c : Int) :: post) (h : Txt.find FIG (mk [c]) < 0) : nofF l = none := by
  have e := codes_mk l
  rw [h0] at e
  unfold nofF
  have n : l ≠ [] := by rw [← e]; simp
  rw [if_neg n, if_neg]
  intro q
  rw [List.all_eq_true] at q
  have := q c (by rw [← e]; simp)
  rw [nof_n h] at this
  cases this
theorem nof_some {l : List Nat} {f : Int} (n : (mk l == Str.ofString "") = false) (h1 : ∀ c ∈ KStt.codes (mk l), isDig c.toNat = true) (h2 : f = val ((KStt.codes (mk l)).map Int.toNat)) : nofF l = some f := by
  have e := codes_mk l
  rw [e] at h2
  unfold nofF
  have n : l ≠ [] := by
    intro q; subst q
    rw [nil_mk] at n
    simp at n
  rw [if_neg n, if_pos, h2]
  rw [List.all_eq_true]
  intro c hc
  rw [← e] at hc
  obtain ⟨d, hd, rfl⟩ := List.mem_map.mp hc
  exact h1 d hd
theorem nof_nil {l : List Nat} (h : (mk l == Str.ofString "") = true) : nofF l = none := by
  have q := beq_iff_eq.mp h
  rw [nil_mk, mk_inj] at q
  subst q
  rfl
end

section -- A5
theorem rst_A5 : True := by
  w_top off
  trivial
open PySem PySem.W PySem.Calls PyProof.Rows
theorem ru_A5_0 : True := by
  k_with_none
  k_with "steps" => (repeat' (first | k_unfold | (k_end; kc_close) | walk1 | (dsimp only; walk1) | (leave1; (try dsimp only)) | fail "no step"))
  k_with "eval Constant int" => (k_here; (with_reducible refine ct9 ?_); intro _ _)
  k_with "eval Constant str" => (k_here; (with_reducible refine cs9 ?_); intro _ _)
  k_with "binaryOp Add int int" => (k_here; (with_reducible refine ar_add ?_); intro _ _)
  k_with "binaryOp Sub int int" => (k_here; (with_reducible refine ar_sub ?_); intro _ _)
  k_with "binaryOp Mult int int" => (k_here; (with_reducible refine' ar_mul ?_ ?m9_9); k_dflt (case m9_9 => mul_fits); intro _ _)
  k_with "binaryOp FloorDiv int int" => (k_here; (with_reducible refine' ar_div ?b9_9 ?_ ?p9_9); k_dflt (case b9_9 => decide); k_dflt (case p9_9 => first | exact PyProof.noPylong_of_log2 (by decide +kernel) | exact PyProof.noPylong_small (by omega)); intro _ _)
  k_with "binaryOp Mod int int" => (k_here; (with_reducible refine ar_mod ?b9_9 ?_); (case b9_9 => first | decide | omega | assumption); intro _ _)
  k_with "inplaceOp Add int int" => (k_here; (with_reducible refine ar_iadd ?_); intro _ _)
  k_with "storeName" => (k_here; k_dflt (refine' st9 ?F_9 ?N_9 ?_ ?a_9 ?b_9; (case F_9 => with_reducible assumption); (case N_9 => with_reducible assumption); (case a_9 => exact rfl); (case b_9 => exact rfl); k_whole); intro h9 k9 F9 N9; (try k_sweep))
  k_with "newTuple" => (k_here; kup_bare; k_dflt (refine' nt9 ?F_9 ?N_9 ?_ ?z_9; (case F_9 => with_reducible assumption); (case N_9 => with_reducible assumption); (case z_9 => kmk_size)); intro D9 h9 F9 N9; (try k_sweep))
  k_with "eval Tuple" => (k_here; k_whole; (with_reducible refine tk_go ?h9_9 ?_); k_dflt (case h9_9 => exact rfl))
  k_with "eval Tuple" => (k_here; walk_at "fold")
  k_with "TupK" => (k_here; (with_reducible refine tk_e ?_))
  k_with "TupK" => (k_here; (with_reducible refine' tk_n ?k1_9 ?k2_9 ?k3_9 ?k4_9 ?k5_9 ?_); k_dflt ((case k3_9 => exact rfl); (case k4_9 => exact rfl); (case k1_9 => k_asm); (case k2_9 => exact rfl); (case k5_9 => exact rfl); k_whole))
  k_with "TupK" => (k_here; (with_reducible refine tk_i ?_); intro _ _)
  k_with "TupK" => (k_here; (first | with_reducible refine tk_2 ?_ | with_reducible refine tk_3 ?_ | with_reducible refine tk_4 ?_ | with_reducible refine tk_5 ?_ | with_reducible refine tk_6 ?_))
  k_with "uX" => (intro t9 h9 tk9 F9 N9; (try dsimp only); (try k_sweep); (try k_fold))
  k_with "uV" => (intro h9 tk9 F9 N9; (try dsimp only); (try k_sweep); (try k_fold))
  k_with "callWith ref" => (k_here; k_dflt (first | (refine' cw_K0 ?k1_9 ?k2_9 ?_; (case k1_9 => k_is); (case k2_9 => exact rfl); k_whole) | (refine' cw_K1 ?k1_9 ?k2_9 ?_; (case k1_9 => k_is); (case k2_9 => exact rfl); k_whole)))
  k_with "eval Call" => (k_here; (with_reducible refine' cg_K ?k1_9 ?k2_9 ?k3_9 ?k4_9 ?k5_9 ?k6_9 ?k7_9 ?k8_9 ?k9_9 ?_); k_dflt ((case k7_9 => exact rfl); (case k8_9 => exact rfl); (case k9_9 => exact rfl); (case k1_9 => k_asm); (case k2_9 => k_asm); (case k3_9 => k_asm); (case k4_9 => k_is); (case k5_9 => exact rfl); (case k6_9 => k_is); k_whole))
  k_with "eval Name" => (k_here; k_dflt (refine' nm9 ?k1_9 ?k2_9 ?k3_9 ?k4_9 ?k5_9 ?_; (case k4_9 => exact rfl); (case k3_9 => exact rfl); (case k1_9 => k_asm); (case k2_9 => exact rfl); (case k5_9 => exact rfl); k_whole))
  k_with "fold" => (k_whole; (fail_if_success (fail_if_success k_fold)); refine fold9 ?_; intro qk)
  k_with "eval Call" => (k_here; walk_at "fold")
  k_with "eval BinOp" => (k_here; walk_at "fold")
  k_with "ArgK" => (k_here; (with_reducible refine ak_e ?_))
  k_with "ArgK" => (k_here; (with_reducible refine' ak_n ?k1_9 ?k2_9 ?k3_9 ?k4_9 ?k5_9 ?_); k_dflt ((case k3_9 => exact rfl); (case k4_9 => exact rfl); (case k1_9 => k_asm); (case k2_9 => exact rfl); (case k5_9 => exact rfl); k_whole))
  k_with "ArgK" => (k_here; (first | with_reducible refine ak_i ?_ | with_reducible refine ak_s ?_); intro _ _)
  k_with "ArgK" => (k_here; (first | with_reducible refine ak_1 ?_ | with_reducible refine ak_2 ?_ | with_reducible refine ak_3 ?_ | with_reducible refine ak_4 ?_ | with_reducible refine ak_0 ?_))
  k_with "ne" => first | with_reducible assumption | exact ne_news (by with_reducible assumption) (by k_mem) (by k_mem) rfl | k_ne
  k_with "upd" => first | (refine' Upd.head ?a_9; (case a_9 => walk_at "nall")) | (refine' Upd.tail ?a_9 ?b_9; (case a_9 => walk_at "ne"); (case b_9 => walk_at "upd"))
  k_with "setAttr ref" => (k_here; k_dflt (refine' set_dict ?k1_9 ?k2_9 ?k3_9 ?k4_9 ?k5_9 ?k6_9 ?k7_9 ?k8_9 ?k9_9 ?k10_9 ?k11_9 ?k12_9 ?k13_9 ?_; (case k1_9 => k_asm); (case k2_9 => k_asm); (case k3_9 => k_asm); (case k4_9 => k_inst); (case k5_9 => exact rfl); (case k6_9 => k_is); (case k7_9 => k_is); (case k8_9 => k_is); (case k9_9 => k_is); (case k10_9 => k_get); (case k11_9 => k_put); (case k12_9 => walk_at "upd"); (case k13_9 => exact Nat.le_of_ble_eq_true rfl); k_whole); intro h' F' N'; (try k_sweep))
  k_with "nall" => first | exact List.forall_mem_nil _ | (refine' List.forall_mem_cons.mpr ⟨?a_9, ?b_9⟩; (case a_9 => walk_at "ne"); (case b_9 => walk_at "nall"))
  k_with "execs cons" => (k_here; (with_reducible refine gen_toks ?_); intro _)
  k_with "execs nil" => (k_here; (with_reducible refine gen_toks ?_); intro _)
  k_with "end eq" => (law_clear; (try simp only [decide_eq_true_eq, decide_eq_false_iff_not, ne_eq, Bool.not_eq_true, Bool.not_eq_false, bne_iff_ne, beq_iff_eq] at *); first | rfl | omega | (simp_all; done) | (simp_all; rfl) | ((simp_all); omega))
  k_with "CallK" => (k_here; (guard_target = CallK _ _ (Value.ref 22) _ _ _ _); k_dflt (refine' use_ctrX (c_day_of _ _ _) ?g9_9 ?n9_9 ?F9_9 ?N9_9 ?_; (case g9_9 => with_reducible assumption); (case n9_9 => exact rfl); (case F9_9 => k_asm); (case N9_9 => k_asm); k_whole); walk_at "uX")
  k_with "CallK" => (k_here; (guard_target = CallK _ _ (Value.ref 29) _ _ _ _); k_dflt (refine' use_ctrX (c_time_in_day _ _ _) ?g9_9 ?n9_9 ?F9_9 ?N9_9 ?_; (case g9_9 => with_reducible assumption); (case n9_9 => exact rfl); (case F9_9 => k_asm); (case N9_9 => k_asm); k_whole); walk_at "uX")
  k_with "CallK" => (k_here; (guard_target = CallK _ _ (Value.ref 36) _ _ _ _); k_dflt (refine' use_ctrV (c_leap _ _ _) ?g9_9 ?n9_9 ?F9_9 ?N9_9 ?_; (case g9_9 => with_reducible assumption); (case n9_9 => exact rfl); (case F9_9 => k_asm); (case N9_9 => k_asm); k_whole); walk_at "uV")
  k_with "CallK" => (k_here; (guard_target = CallK _ _ (Value.ref 43) _ _ _ _); k_dflt (refine' use_ctrX (c_dfy _ _ _) ?g9_9 ?n9_9 ?F9_9 ?N9_9 ?_; (case g9_9 => with_reducible assumption); (case n9_9 => exact rfl); (case F9_9 => k_asm); (case N9_9 => k_asm); k_whole); walk_at "uX")
  k_with "CallK" => (k_here; (guard_target = CallK _ _ (Value.ref 71) _ _ _ _); k_dflt (refine' use_ctrX (c_days_ahead _ _ _ _ ?p0_9 ?p1_9) ?g9_9 ?n9_9 ?F9_9 ?N9_9 ?_; (case g9_9 => with_reducible assumption); (case n9_9 => exact rfl); (case F9_9 => k_asm); (case N9_9 => k_asm); (case p0_9 => first | with_reducible assumption | decide | l_fact); (case p1_9 => first | with_reducible assumption | decide | l_fact); k_whole); walk_at "uX")
  k_with "CallK" => (k_here; (guard_target = CallK _ _ (Value.ref 50) _ _ _ _); k_dflt (refine' use_ctrX (c_year_of_day _ _ _ _ ?p0_9 ?p1_9) ?g9_9 ?n9_9 ?F9_9 ?N9_9 ?_; (case g9_9 => with_reducible assumption); (case n9_9 => exact rfl); (case F9_9 => k_asm); (case N9_9 => k_asm); (case p0_9 => assumption); (case p1_9 => assumption); k_whole); walk_at "uX")
  k_with "CallK" => (k_here; (guard_target = CallK _ _ (Value.ref 78) _ _ _ _); k_dflt (refine' use_ctrX (c_days_of_month _ _ _ _ _ ?p0_9 ?p1_9) ?g9_9 ?n9_9 ?F9_9 ?N9_9 ?_; (case g9_9 => with_reducible assumption); (case n9_9 => exact rfl); (case F9_9 => k_asm); (case N9_9 => k_asm); (case p0_9 => first | with_reducible assumption | decide | l_fact); (case p1_9 => first | with_reducible assumption | decide | l_fact); k_whole); walk_at "uX")
  k_with "CallK" => (k_here; (guard_target = CallK _ _ (Value.ref 57) _ _ _ _); k_dflt (refine' use_ctrX (c_year_of _ _ _ _ ?p0_9) ?g9_9 ?n9_9 ?F9_9 ?N9_9 ?_; (case g9_9 => with_reducible assumption); (case n9_9 => exact rfl); (case F9_9 => k_asm); (case N9_9 => k_asm); (case p0_9 => assumption); k_whole); walk_at "uX")
  k_with "CallK" => (k_here; (guard_target = CallK _ _ (Value.ref 64) _ _ _ _); k_dflt (refine' use_ctrX (c_day_in_year _ _ _ _ ?p0_9) ?g9_9 ?n9_9 ?F9_9 ?N9_9 ?_; (case g9_9 => with_reducible assumption); (case n9_9 => exact rfl); (case F9_9 => k_asm); (case N9_9 => k_asm); (case p0_9 => assumption); k_whole); walk_at "uX")
  k_with "CallK" => (k_here; (guard_target = CallK _ _ (Value.ref 85) _ _ _ _); k_dflt (refine' use_ctrX (c_month_of _ _ _ _ _ ?p0_9 ?p1_9) ?g9_9 ?n9_9 ?F9_9 ?N9_9 ?_; (case g9_9 => with_reducible assumption); (case n9_9 => exact rfl); (case F9_9 => k_asm); (case N9_9 => k_asm); (case p0_9 => assumption); (case p1_9 => assumption); k_whole); walk_at "uX")
  k_with "CallK" => (k_here; (guard_target = CallK _ _ (Value.ref 92) _ _ _ _); k_dflt (refine' use_ctrX (c_date_of _ _ _ _ _ ?p0_9 ?p1_9) ?g9_9 ?n9_9 ?F9_9 ?N9_9 ?_; (case g9_9 => with_reducible assumption); (case n9_9 => exact rfl); (case F9_9 => k_asm); (case N9_9 => k_asm); (case p0_9 => assumption); (case p1_9 => assumption); k_whole); walk_at "uX")
  k_with "CallK" => (k_here; (guard_target = CallK _ _ (Value.ref 99) _ _ _ _); k_dflt (refine' use_ctrX (c_week_day_of _ _ _) ?g9_9 ?n9_9 ?F9_9 ?N9_9 ?_; (case g9_9 => with_reducible assumption); (case n9_9 => exact rfl); (case F9_9 => k_asm); (case N9_9 => k_asm); k_whole); walk_at "uX")
  k_with "CallK" => (k_here; (guard_target = CallK _ _ (Value.ref 106) _ _ _ _); k_dflt (refine' use_ctrX (c_hour_of _ _ _) ?g9_9 ?n9_9 ?F9_9 ?N9_9 ?_; (case g9_9 => with_reducible assumption); (case n9_9 => exact rfl); (case F9_9 => k_asm); (case N9_9 => k_asm); k_whole); walk_at "uX")
  k_with "CallK" => (k_here; (guard_target = CallK _ _ (Value.ref 113) _ _ _ _); k_dflt (refine' use_ctrX (c_minute_of _ _ _) ?g9_9 ?n9_9 ?F9_9 ?N9_9 ?_; (case g9_9 => with_reducible assumption); (case n9_9 => exact rfl); (case F9_9 => k_asm); (case N9_9 => k_asm); k_whole); walk_at "uX")
  k_with "CallK" => (k_here; (guard_target = CallK _ _ (Value.ref 120) _ _ _ _); k_dflt (refine' use_ctrX (c_second_of _ _ _) ?g9_9 ?n9_9 ?F9_9 ?N9_9 ?_; (case g9_9 => with_reducible assumption); (case n9_9 => exact rfl); (case F9_9 => k_asm); (case N9_9 => k_asm); k_whole); walk_at "uX")
  k_with "CallK" => (k_here; (guard_target = CallK _ _ (Value.ref 127) _ _ _ _); k_dflt (refine' use_ctrX (c_ms_of _ _ _) ?g9_9 ?n9_9 ?F9_9 ?N9_9 ?_; (case g9_9 => with_reducible assumption); (case n9_9 => exact rfl); (case F9_9 => k_asm); (case N9_9 => k_asm); k_whole); walk_at "uX")
  k_with "compareOp In" => (k_here; (guard_target = wpAny _ _ (compareOp CmpOp.In Value.none (Value.ref _)) _ _ _); k_dflt (first | (refine' none_in4 ?N_9 ?a_9 ?n_9 ?_; (case N_9 => k_asm); (case a_9 => k_mem); (case n_9 => first | with_reducible assumption | ktr_units); k_whole) | (refine' none_in3 ?N_9 ?a_9 ?n_9 ?_; (case N_9 => k_asm); (case a_9 => k_mem); (case n_9 => first | with_reducible assumption | ktr_units); k_whole)); (try dsimp only))
  k_with "CallK" => (k_here; (guard_target = CallK _ _ (Value.ref 141) _ _ _ _); k_dflt (refine' use_ctrX (c_make_time _ _ _ _ _ _ _ _ _) ?g9_9 ?n9_9 ?F9_9 ?N9_9 ?_; (case g9_9 => with_reducible assumption); (case n9_9 => exact rfl); (case F9_9 => k_asm); (case N9_9 => k_asm); k_whole); walk_at "uX")
  k_with "CallK" => (k_here; (guard_target = CallK _ _ (Value.ref 148) _ _ _ _); k_dflt (refine' use_ctrX (c_make_day _ _ _ _ _ _ _) ?g9_9 ?n9_9 ?F9_9 ?N9_9 ?_; (case g9_9 => with_reducible assumption); (case n9_9 => exact rfl); (case F9_9 => k_asm); (case N9_9 => k_asm); k_whole); walk_at "uX")
  k_with "CallK" => (k_here; (guard_target = CallK _ _ (Value.ref 155) _ _ _ _); k_dflt (refine' use_ctrX (c_make_date _ _ _ _ _) ?g9_9 ?n9_9 ?F9_9 ?N9_9 ?_; (case g9_9 => with_reducible assumption); (case n9_9 => exact rfl); (case F9_9 => k_asm); (case N9_9 => k_asm); k_whole); walk_at "uX")
  k_with "CallK" => (k_here; (guard_target = CallK _ _ (Value.ref 176) _ _ _ _); k_dflt (refine' use_ctrX (c_local_of _ _ _ _ _) ?g9_9 ?n9_9 ?F9_9 ?N9_9 ?_; (case g9_9 => with_reducible assumption); (case n9_9 => exact rfl); (case F9_9 => k_asm); (case N9_9 => k_asm); k_whole); walk_at "uX")
  k_with "CallK" => (k_here; (guard_target = CallK _ _ (Value.ref 183) _ _ _ _); k_dflt (refine' use_ctrX (c_utc_of _ _ _ _ _) ?g9_9 ?n9_9 ?F9_9 ?N9_9 ?_; (case g9_9 => with_reducible assumption); (case n9_9 => exact rfl); (case F9_9 => k_asm); (case N9_9 => k_asm); k_whole); walk_at "uX")
  k_with "CallK" => (k_here; (guard_target = CallK _ _ (Value.ref 162) _ _ _ _); k_dflt (refine' use_ctr (c_time_clip _ _ _) ?g9_9 ?n9_9 ?F9_9 ?N9_9 ?_; (case g9_9 => with_reducible assumption); (case n9_9 => exact rfl); (case F9_9 => k_asm); (case N9_9 => k_asm); k_whole); intro r9 h9 tk9 hP9 F9 N9; (try dsimp only); (try k_sweep); (try k_fold))
  k_with "my size" => (simp only [Str.length_append, mk_len, figs_len, item_len, lit0, lit1, lit2, lit3, lit4, lit5, lit6, lit7, lit8, lit9, lit10, lit11, lit12, lit13, lit14, lit15, lit16, lit17, lit18, lit19, lit20, lit21, lit22, lit23, lit24, lit25, lit26, lit27, lit28, lit29, lit30, lit31, lit32, lit33, lit34, lit35, lit36, lit37, lit38, lit39, lit40, lit41, lit42, lit43, lit44, lit45, lit46, lit47, lit48, lit49, lit50, lit51, lit52, lit53, List.length_append, List.length_cons, List.length_nil]; omega)
  k_with "binaryOp Add str str" => (k_here; (guard_target = wpAny _ _ (binaryOp Operator.Add (Value.str _ _) (Value.str _ _)) _ _ _); (refine' add_txt ?z_9 ?_; (case z_9 => walk_at "my size")); intro _ _)
  k_with "CallK" => (k_here; (guard_target = CallK _ _ (Value.ref 192) _ _ _ _); k_dflt (refine' use_ctrX (c_padded2 _ _ _ _ ?p0_9 ?p1_9) ?g9_9 ?n9_9 ?F9_9 ?N9_9 ?_; (case g9_9 => with_reducible assumption); (case n9_9 => exact rfl); (case F9_9 => k_asm); (case N9_9 => k_asm); (case p0_9 => first | with_reducible assumption | decide | l_fact); (case p1_9 => first | with_reducible assumption | decide | l_fact); k_whole); walk_at "uX")
  k_with "CallK" => (k_here; (guard_target = CallK _ _ (Value.ref 192) _ _ _ _); k_dflt (refine' use_ctrX (c_padded4 _ _ _ _ ?p0_9 ?p1_9) ?g9_9 ?n9_9 ?F9_9 ?N9_9 ?_; (case g9_9 => with_reducible assumption); (case n9_9 => exact rfl); (case F9_9 => k_asm); (case N9_9 => k_asm); (case p0_9 => first | with_reducible assumption | decide | l_fact); (case p1_9 => first | with_reducible assumption | decide | l_fact); k_whole); walk_at "uX")
  k_with "CallK" => (k_here; (guard_target = CallK _ _ (Value.ref 199) _ _ _ _); k_dflt (refine' use_ctrX (c_plain_year _ _ _ ?p0_9 ?p1_9) ?g9_9 ?n9_9 ?F9_9 ?N9_9 ?_; (case g9_9 => with_reducible assumption); (case n9_9 => exact rfl); (case F9_9 => k_asm); (case N9_9 => k_asm); (case p0_9 => first | with_reducible assumption | decide | l_fact); (case p1_9 => first | with_reducible assumption | decide | l_fact); k_whole); walk_at "uX")
  k_with "CallK" => (k_here; (guard_target = CallK _ _ (Value.ref 206) _ _ _ _); k_dflt (refine' use_ctrX (c_clock_text _ _ _ _ _ _ _ ?p0_9 ?p1_9 ?p2_9 ?p3_9 ?p4_9 ?p5_9) ?g9_9 ?n9_9 ?F9_9 ?N9_9 ?_; (case g9_9 => with_reducible assumption); (case n9_9 => exact rfl); (case F9_9 => k_asm); (case N9_9 => k_asm); (case p0_9 => first | with_reducible assumption | decide | l_fact); (case p1_9 => first | with_reducible assumption | decide | l_fact); (case p2_9 => first | with_reducible assumption | decide | l_fact); (case p3_9 => first | with_reducible assumption | decide | l_fact); (case p4_9 => first | with_reducible assumption | decide | l_fact); (case p5_9 => first | with_reducible assumption | decide | l_fact); k_whole); walk_at "uX")
  k_with "CallK" => (k_here; (guard_target = CallK _ _ (Value.ref 220) _ _ _ _); k_dflt (refine' use_ctrX (c_offset_text _ _ _ ?p0_9 ?p1_9) ?g9_9 ?n9_9 ?F9_9 ?N9_9 ?_; (case g9_9 => with_reducible assumption); (case n9_9 => exact rfl); (case F9_9 => k_asm); (case N9_9 => k_asm); (case p0_9 => first | with_reducible assumption | decide | l_fact); (case p1_9 => first | with_reducible assumption | decide | l_fact); k_whole); walk_at "uX")
  k_with "CallK" => (k_here; (guard_target = CallK _ _ (Value.ref 134) _ _ _ _); k_dflt (refine' use_fields (c_fields_of _ _ _ _ _ ?p0_9 ?p1_9) ?g9_9 ?n9_9 ?F9_9 ?N9_9 ?_; (case g9_9 => with_reducible assumption); (case n9_9 => exact rfl); (case F9_9 => k_asm); (case N9_9 => k_asm); (case p0_9 => assumption); (case p1_9 => assumption); k_whole); intro q9 t91 t92 t93 t94 t95 t96 t97 h9 tk9 F9 N9; (try dsimp only); (try k_sweep); (try k_fold))
  k_with "subscriptTail" => (k_here; (guard_target = wpAny _ _ (subscriptTail _ _ (Value.ref 185) (Value.int _ _)) _ _ _); k_dflt (refine' wd_item ?k1_9 ?k2_9 ?k3_9 ?k4_9 ?_ ?k5_9; (case k1_9 => k_asm); (case k2_9 => k_asm); (case k3_9 => assumption); (case k4_9 => assumption); (case k5_9 => with_unfolding_all rfl)); intro _)
  k_with "subscriptTail" => (k_here; (guard_target = wpAny _ _ (subscriptTail _ _ (Value.ref 184) (Value.int _ _)) _ _ _); k_dflt (refine' mo_item ?k1_9 ?k2_9 ?k3_9 ?k4_9 ?_ ?k5_9; (case k1_9 => k_asm); (case k2_9 => k_asm); (case k3_9 => assumption); (case k4_9 => assumption); (case k5_9 => with_unfolding_all rfl)); intro _)
  k_with "my size" => (simp only [Str.length_append, mk_len, figs_len, item_len, clockT, offT, dayT, lit0, lit1, lit2, lit3, lit4, lit5, lit6, lit7, lit8, lit9, lit10, lit11, lit12, lit13, lit14, lit15, lit16, lit17, lit18, lit19, lit20, lit21, lit22, lit23, lit24, lit25, lit26, lit27, lit28, lit29, lit30, lit31, lit32, lit33, lit34, lit35, lit36, lit37, lit38, lit39, lit40, lit41, lit42, lit43, lit44, lit45, lit46, lit47, lit48, lit49, lit50, lit51, lit52, lit53, List.length_append, List.length_cons, List.length_nil]; (try split); omega)
  k_with "CallK" => (k_here; (guard_target = CallK _ _ (Value.ref 213) _ _ _ _); k_dflt (refine' use_ctrX (c_day_text _ _ _ _ _ ?p0_9 ?p1_9 ?p2_9) ?g9_9 ?n9_9 ?F9_9 ?N9_9 ?_; (case g9_9 => with_reducible assumption); (case n9_9 => exact rfl); (case F9_9 => k_asm); (case N9_9 => k_asm); (case p0_9 => assumption); (case p1_9 => assumption); (case p2_9 => assumption); k_whole); walk_at "uX")
  k_with "my size" => (simp only [Str.length_append, mk_len, figs_len, item_len, clockT_len, offT_len, timeT_len, lit0, lit1, lit2, lit3, lit4, lit5, lit6, lit7, lit8, lit9, lit10, lit11, lit12, lit13, lit14, lit15, lit16, lit17, lit18, lit19, lit20, lit21, lit22, lit23, lit24, lit25, lit26, lit27, lit28, lit29, lit30, lit31, lit32, lit33, lit34, lit35, lit36, lit37, lit38, lit39, lit40, lit41, lit42, lit43, lit44, lit45, lit46, lit47, lit48, lit49, lit50, lit51, lit52, lit53, List.length_append, List.length_cons, List.length_nil]; omega)
  k_with "CallK" => (k_here; (guard_target = CallK _ _ (Value.ref 227) _ _ _ _); k_dflt (refine' use_ctrX (c_time_text _ _ _ _ _ _ _ ?p0_9 ?p1_9 ?p2_9 ?p3_9) ?g9_9 ?n9_9 ?F9_9 ?N9_9 ?_; (case g9_9 => with_reducible assumption); (case n9_9 => exact rfl); (case F9_9 => k_asm); (case N9_9 => k_asm); (case p0_9 => assumption); (case p1_9 => assumption); (case p2_9 => first | with_reducible assumption | decide | l_fact); (case p3_9 => first | with_reducible assumption | decide | l_fact); k_whole); walk_at "uX")
  k_with "CallK" => (k_here; (guard_target = CallK _ _ (Value.ref 234) _ _ _ _); k_dflt (refine' use_ctrX (c_whole_text _ _ _ _ _ _ _ ?p0_9 ?p1_9 ?p2_9 ?p3_9 ?p4_9) ?g9_9 ?n9_9 ?F9_9 ?N9_9 ?_; (case g9_9 => with_reducible assumption); (case n9_9 => exact rfl); (case F9_9 => k_asm); (case N9_9 => k_asm); (case p0_9 => assumption); (case p1_9 => assumption); (case p2_9 => assumption); (case p3_9 => first | with_reducible assumption | decide | l_fact); (case p4_9 => first | with_reducible assumption | decide | l_fact); k_whole); walk_at "uX")
  k_with "CallK" => (k_here; (guard_target = CallK _ _ (Value.ref 234) _ _ _ _); k_dflt (refine' use_ctrX (c_whole_none _ _ _) ?g9_9 ?n9_9 ?F9_9 ?N9_9 ?_; (case g9_9 => with_reducible assumption); (case n9_9 => exact rfl); (case F9_9 => k_asm); (case N9_9 => k_asm); k_whole); walk_at "uX")
  k_with "CallK" => (k_here; (guard_target = CallK _ _ (Value.ref 241) _ _ _ _); k_dflt (refine' use_ctrX (c_utc_text _ _ _ _ _ ?p0_9 ?p1_9 ?p2_9) ?g9_9 ?n9_9 ?F9_9 ?N9_9 ?_; (case g9_9 => with_reducible assumption); (case n9_9 => exact rfl); (case F9_9 => k_asm); (case N9_9 => k_asm); (case p0_9 => assumption); (case p1_9 => assumption); (case p2_9 => assumption); k_whole); walk_at "uX")
  k_with "CallK" => (k_here; (guard_target = CallK _ _ (Value.ref 241) _ _ _ _); k_dflt (refine' use_ctrX (c_utc_none _) ?g9_9 ?n9_9 ?F9_9 ?N9_9 ?_; (case g9_9 => with_reducible assumption); (case n9_9 => exact rfl); (case F9_9 => k_asm); (case N9_9 => k_asm); k_whole); walk_at "uX")
  trivial
set_option maxRecDepth 100000
set_option maxHeartbeats 8000000

theorem c_nof (w : World) (l : List Nat) (t : Tok) (hl : l.length ≤ 60) : Ctr w 248 1 [.str (mk l) t] (optv (nofF l)) := by
  k_dflt (refine' ctr_enter (bs := [(Str.ofString "text", _)]) ?k6 ?k7 ?kb ?kB ?kr ?c2 ?c3 ?c4 ?c5 ?_; (case k6 => k_is); (case k7 => k_is); (case kb => exact rfl); (case kB => exact rfl); (case kr => exact rfl); (case c2 => exact rfl); (case c3 => exact rfl); (case c4 => exact rfl); (case c5 => decide))
  intro mean mg mb dp un gd outer A₀ base g' L' h9 gs9 d9 tk9 o9 Q
  intro A9 P9 u9 B' F9 X' N' T' hdp hun hret
  k_with "pyIter str" => k_state (fun pre found => (∀ c ∈ pre, isDig c.toNat = true) ∧ found = val (pre.map Int.toNat)) "found"
  k_with "state" => first | exact nof_0i | exact nof_s (by assumption) (by assumption) (by assumption)
  walk_at "steps"
  all_goals first | (refine hret _ _ _ ?_ (by k_asm); (first | (rw [nof_nil (by assumption)]; exact rfl) | (rw [nof_none (by assumption) (by assumption)]; exact rfl) | (rw [nof_some (by assumption) (by assumption) (by assumption)]; exact ⟨_, rfl⟩))) | (refine hret _ _ _ ?_ (by k_asm) (by first | with_reducible assumption | exact drop_news (by with_reducible assumption) (by first | with_reducible exact ktn_subA | repeat (first | with_reducible exact sub_refl | with_reducible refine sub_cons ?_ | with_reducible refine sub_skip ?_))); (first | (rw [nof_nil (by assumption)]; exact rfl) | (rw [nof_none (by assumption) (by assumption)]; exact rfl) | (rw [nof_some (by assumption) (by assumption) (by assumption)]; exact ⟨_, rfl⟩)))
end

section -- T2
theorem rst_T2 : True := by
  w_top off
  trivial
open PySem PySem.W PySem.Calls PyProof.Rows
open PySem.Builtin PySem.Builtin.Str
/-- where the reader stands, and whether it is wrong -/
structure RS where
  p : Nat
  b : Bool
noncomputable def rs0 : RS := ⟨0, false⟩
noncomputable def cut (l : List Nat) (s : RS) (k : Nat) : List Nat := (l.drop s.p).take k
noncomputable def hasB (l : List Nat) (s : RS) (g : List Nat) : Bool := !s.b && decide (cut l s g.length = g)
noncomputable def hasS (l : List Nat) (s : RS) (g : List Nat) : RS := if hasB l s g = true then ⟨s.p + g.length, s.b⟩ else s
noncomputable def needS (l : List Nat) (s : RS) (g : List Nat) : RS := if hasB l s g = true then ⟨s.p + g.length, s.b⟩ else ⟨s.p, true⟩
noncomputable def numOk (l : List Nat) (s : RS) (k : Nat) (lo hi : Int) : Bool := !s.b && decide (s.p + k ≤ l.length) && (match nofF (cut l s k) with | none => false | some f => decide (lo ≤ f ∧ f ≤ hi))
noncomputable def numV (l : List Nat) (s : RS) (k : Nat) (lo hi : Int) : Int := if numOk l s k lo hi = true then (nofF (cut l s k)).getD 0 else lo
noncomputable def numS (l : List Nat) (s : RS) (k : Nat) (lo hi : Int) : RS := if numOk l s k lo hi = true then ⟨s.p + k, s.b⟩ else ⟨s.p, true⟩
noncomputable def amOk (ws : List (List Nat)) (l : List Nat) (s : RS) : Bool := !s.b && ws.contains (cut l s 3)
noncomputable def amV (ws : List (List Nat)) (l : List Nat) (s : RS) : Int := if amOk ws l s = true then (ws.idxOf (cut l s 3) : Nat) else 0
noncomputable def amS (ws : List (List Nat)) (l : List Nat) (s : RS) : RS := if amOk ws l s = true then ⟨s.p + 3, s.b⟩ else ⟨s.p, true⟩
noncomputable def endsB (l : List Nat) (s : RS) : Bool := !s.b && decide (s.p = l.length)
noncomputable def yearV (l : List Nat) (s : RS) : Int :=
  if hasB l s [43] = true then numV l (hasS l s [43]) 6 0 999999
  else if hasB l (hasS l s [43]) [45] = true then -numV l (hasS l (hasS l s [43]) [45]) 6 1 999999
  else numV l (hasS l (hasS l s [43]) [45]) 4 0 9999
noncomputable def yearS (l : List Nat) (s : RS) : RS :=
  if hasB l s [43] = true then numS l (hasS l s [43]) 6 0 999999
  else if hasB l (hasS l s [43]) [45] = true then numS l (hasS l (hasS l s [43]) [45]) 6 1 999999
  else numS l (hasS l (hasS l s [43]) [45]) 4 0 9999
/-- how many figures stand from the place on -/
noncomputable def run (l : List Nat) (p : Nat) : Nat := ((l.drop p).takeWhile isDig).length
noncomputable def lyK (l : List Nat) (s : RS) : Nat := max 4 (run l (hasS l s [45]).p)
noncomputable def lyV (l : List Nat) (s : RS) : Int := if hasB l s [45] = true then -numV l (hasS l s [45]) (lyK l s) 0 999999 else numV l (hasS l s [45]) (lyK l s) 0 999999
noncomputable def lyS (l : List Nat) (s : RS) : RS := numS l (hasS l s [45]) (lyK l s) 0 999999
noncomputable def ckS1 (l : List Nat) (s : RS) : RS := needS l (numS l s 2 0 23) [58]
noncomputable def ckS2 (l : List Nat) (s : RS) : RS := needS l (numS l (ckS1 l s) 2 0 59) [58]
noncomputable def ckS (l : List Nat) (s : RS) : RS := numS l (ckS2 l s) 2 0 59
noncomputable def znS0 (l : List Nat) (s : RS) : RS := if hasB l s [45] = true then hasS l s [45] else needS l (hasS l s [45]) [43]
noncomputable def znS1 (l : List Nat) (s : RS) (iso : Bool) : RS := if iso = true then needS l (numS l (znS0 l s) 2 0 23) [58] else numS l (znS0 l s) 2 0 23
noncomputable def znS (l : List Nat) (s : RS) (iso : Bool) : RS := numS l (znS1 l s iso) 2 0 59
noncomputable def znM (l : List Nat) (s : RS) (iso : Bool) : Int := numV l (znS0 l s) 2 0 23 * 60 + numV l (znS1 l s iso) 2 0 59
noncomputable def znV (l : List Nat) (s : RS) (iso : Bool) : Int := if hasB l s [45] = true then -znM l s iso else znM l s iso
/-- the ISO clock: the place behind it, and its four numbers -/
noncomputable abbrev icS1 (l : List Nat) (s : RS) : RS := needS l (numS l s 2 0 24) [58]
noncomputable abbrev icS2 (l : List Nat) (s : RS) : RS := numS l (icS1 l s) 2 0 59
noncomputable abbrev icS3 (l : List Nat) (s : RS) : RS := numS l (hasS l (icS2 l s) [58]) 2 0 59
noncomputable abbrev icH (l : List Nat) (s : RS) : Int := numV l s 2 0 24
noncomputable abbrev icM (l : List Nat) (s : RS) : Int := numV l (icS1 l s) 2 0 59
noncomputable def icC (l : List Nat) (s : RS) : Int := if hasB l (icS2 l s) [58] = true then numV l (hasS l (icS2 l s) [58]) 2 0 59 else 0
noncomputable def icL (l : List Nat) (s : RS) : Int := if hasB l (icS2 l s) [58] = true then (if hasB l (icS3 l s) [46] = true then numV l (hasS l (icS3 l s) [46]) 3 0 999 else 0) else 0
noncomputable def icS4 (l : List Nat) (s : RS) : RS := if hasB l (icS2 l s) [58] = true then (if hasB l (icS3 l s) [46] = true then numS l (hasS l (icS3 l s) [46]) 3 0 999 else hasS l (icS3 l s) [46]) else hasS l (icS2 l s) [58]
noncomputable def icBad (l : List Nat) (s : RS) : Bool := decide (icH l s = 24) && decide (0 < icM l s + icC l s + icL l s)
noncomputable def icS (l : List Nat) (s : RS) : RS := if icBad l s = true then ⟨(icS4 l s).p, true⟩ else icS4 l s
theorem ic_a1 {l : List Nat} {s : RS} (h58 : hasB l (icS2 l s) [58] = true) (h46 : hasB l (icS3 l s) [46] = true) (h1 : icH l s = 24) (h2 : 0 < icM l s + numV l (hasS l (icS2 l s) [58]) 2 0 59 + numV l (hasS l (icS3 l s) [46]) 3 0 999) : icC l s = numV l (hasS l (icS2 l s) [58]) 2 0 59 ∧ icL l s = numV l (hasS l (icS3 l s) [46]) 3 0 999 ∧ icS l s = ⟨(numS l (hasS l (icS3 l s) [46]) 3 0 999).p, true⟩ := by
  have e1 : icC l s = numV l (hasS l (icS2 l s) [58]) 2 0 59 := by simp only [icC, h58, h46, if_true, Bool.false_eq_true, if_false]
  have e2 : icL l s = numV l (hasS l (icS3 l s) [46]) 3 0 999 := by simp only [icL, h58, h46, if_true, Bool.false_eq_true, if_false]
  have e3 : icS4 l s = numS l (hasS l (icS3 l s) [46]) 3 0 999 := by simp only [icS4, h58, h46, if_true, Bool.false_eq_true, if_false]
  refine ⟨e1, e2, ?_⟩
  have e4 : icBad l s = true := by unfold icBad; rw [e1, e2]; rw [decide_eq_true h1, decide_eq_true h2]; rfl
  unfold icS; rw [e4, e3]; rfl
theorem ic_a2 {l : List Nat} {s : RS} (h58 : hasB l (icS2 l s) [58] = true) (h46 : hasB l (icS3 l s) [46] = true) (h1 : icH l s = 24) (h2 : ¬ 0 < icM l s + numV l (hasS l (icS2 l s) [58]) 2 0 59 + numV l (hasS l (icS3 l s) [46]) 3 0 999) : icC l s = numV l (hasS l (icS2 l s) [58]) 2 0 59 ∧ icL l s = numV l (hasS l (icS3 l s) [46]) 3 0 999 ∧ icS l s = numS l (hasS l (icS3 l s) [46]) 3 0 999 := by
  have e1 : icC l s = numV l (hasS l (icS2 l s) [58]) 2 0 59 := by simp only [icC, h58, h46, if_true, Bool.false_eq_true, if_false]
  have e2 : icL l s = numV l (hasS l (icS3 l s) [46]) 3 0 999 := by simp only [icL, h58, h46, if_true, Bool.false_eq_true, if_false]
  have e3 : icS4 l s = numS l (hasS l (icS3 l s) [46]) 3 0 999 := by simp only [icS4, h58, h46, if_true, Bool.false_eq_true, if_false]
  refine ⟨e1, e2, ?_⟩
  have e4 : icBad l s = false := by unfold icBad; rw [e1, e2]; rw [decide_eq_true h1, decide_eq_false h2]; rfl
  unfold icS; rw [e4, e3]; rfl
theorem ic_a3 {l : List Nat} {s : RS} (h58 : hasB l (icS2 l s) [58] = true) (h46 : hasB l (icS3 l s) [46] = true) (h1 : icH l s ≠ 24) : icC l s = numV l (hasS l (icS2 l s) [58]) 2 0 59 ∧ icL l s = numV l (hasS l (icS3 l s) [46]) 3 0 999 ∧ icS l s = numS l (hasS l (icS3 l s) [46]) 3 0 999 := by
  have e1 : icC l s = numV l (hasS l (icS2 l s) [58]) 2 0 59 := by simp only [icC, h58, h46, if_true, Bool.false_eq_true, if_false]
  have e2 : icL l s = numV l (hasS l (icS3 l s) [46]) 3 0 999 := by simp only [icL, h58, h46, if_true, Bool.false_eq_true, if_false]
  have e3 : icS4 l s = numS l (hasS l (icS3 l s) [46]) 3 0 999 := by simp only [icS4, h58, h46, if_true, Bool.false_eq_true, if_false]
  refine ⟨e1, e2, ?_⟩
  have e4 : icBad l s = false := by unfold icBad; rw [e1, e2]; rw [decide_eq_false h1]; rfl
  unfold icS; rw [e4, e3]; rfl
theorem ic_b1 {l : List Nat} {s : RS} (h58 : hasB l (icS2 l s) [58] = true) (h46 : hasB l (icS3 l s) [46] = false) (h1 : icH l s = 24) (h2 : 0 < icM l s + numV l (hasS l (icS2 l s) [58]) 2 0 59 + 0) : icC l s = numV l (hasS l (icS2 l s) [58]) 2 0 59 ∧ icL l s = 0 ∧ icS l s = ⟨(hasS l (icS3 l s) [46]).p, true⟩ := by
  have e1 : icC l s = numV l (hasS l (icS2 l s) [58]) 2 0 59 := by simp only [icC, h58, h46, if_true, Bool.false_eq_true, if_false]
  have e2 : icL l s = 0 := by simp only [icL, h58, h46, if_true, Bool.false_eq_true, if_false]
  have e3 : icS4 l s = hasS l (icS3 l s) [46] := by simp only [icS4, h58, h46, if_true, Bool.false_eq_true, if_false]
  refine ⟨e1, e2, ?_⟩
  have e4 : icBad l s = true := by unfold icBad; rw [e1, e2]; rw [decide_eq_true h1, decide_eq_true h2]; rfl
  unfold icS; rw [e4, e3]; rfl
theorem ic_b2 {l : List Nat} {s : RS} (h58 : hasB l (icS2 l s) [58] = true) (h46 : hasB l (icS3 l s) [46] = false) (h1 : icH l s = 24) (h2 : ¬ 0 < icM l s + numV l (hasS l (icS2 l s) [58]) 2 0 59 + 0) : icC l s = numV l (hasS l (icS2 l s) [58]) 2 0 59 ∧ icL l s = 0 ∧ icS l s = hasS l (icS3 l s) [46] := by
  have e1 : icC l s = numV l (hasS l (icS2 l s) [58]) 2 0 59 := by simp only [icC, h58, h46, if_true, Bool.false_eq_true, if_false]
  have e2 : icL l s = 0 := by simp only [icL, h58, h46, if_true, Bool.false_eq_true, if_false]
  have e3 : icS4 l s = hasS l (icS3 l s) [46] := by simp only [icS4, h58, h46, if_true, Bool.false_eq_true, if_false]
  refine ⟨e1, e2, ?_⟩
  have e4 : icBad l s = false := by unfold icBad; rw [e1, e2]; rw [decide_eq_true h1, decide_eq_false h2]; rfl
  unfold icS; rw [e4, e3]; rfl
theorem ic_b3 {l : List Nat} {s : RS} (h58 : hasB l (icS2 l s) [58] = true) (h46 : hasB l (icS3 l s) [46] = false) (h1 : icH l s ≠ 24) : icC l s = numV l (hasS l (icS2 l s) [58]) 2 0 59 ∧ icL l s = 0 ∧ icS l s = hasS l (icS3 l s) [46] := by
  have e1 : icC l s = numV l (hasS l (icS2 l s) [58]) 2 0 59 := by simp only [icC, h58, h46, if_true, Bool.false_eq_true, if_false]
  have e2 : icL l s = 0 := by simp only [icL, h58, h46, if_true, Bool.false_eq_true, if_false]
  have e3 : icS4 l s = hasS l (icS3 l s) [46] := by simp only [icS4, h58, h46, if_true, Bool.false_eq_true, if_false]
  refine ⟨e1, e2, ?_⟩
  have e4 : icBad l s = false := by unfold icBad; rw [e1, e2]; rw [decide_eq_false h1]; rfl
  unfold icS; rw [e4, e3]; rfl
theorem ic_c1 {l : List Nat} {s : RS} (h58 : hasB l (icS2 l s) [58] = false) (h1 : icH l s = 24) (h2 : 0 < icM l s + 0 + 0) : icC l s = 0 ∧ icL l s = 0 ∧ icS l s = ⟨(hasS l (icS2 l s) [58]).p, true⟩ := by
  have e1 : icC l s = 0 := by simp only [icC, h58, if_true, Bool.false_eq_true, if_false]
  have e2 : icL l s = 0 := by simp only [icL, h58, if_true, Bool.false_eq_true, if_false]
  have e3 : icS4 l s = hasS l (icS2 l s) [58] := by simp only [icS4, h58, if_true, Bool.false_eq_true, if_false]
  refine ⟨e1, e2, ?_⟩
  have e4 : icBad l s = true := by unfold icBad; rw [e1, e2]; rw [decide_eq_true h1, decide_eq_true h2]; rfl
  unfold icS; rw [e4, e3]; rfl
theorem ic_c2 {l : List Nat} {s : RS} (h58 : hasB l (icS2 l s) [58] = false) (h1 : icH l s = 24) (h2 : ¬ 0 < icM l s + 0 + 0) : icC l s = 0 ∧ icL l s = 0 ∧ icS l s = hasS l (icS2 l s) [58] := by
  have e1 : icC l s = 0 := by simp only [icC, h58, if_true, Bool.false_eq_true, if_false]
  have e2 : icL l s = 0 := by simp only [icL, h58, if_true, Bool.false_eq_true, if_false]
  have e3 : icS4 l s = hasS l (icS2 l s) [58] := by simp only [icS4, h58, if_true, Bool.false_eq_true, if_false]
  refine ⟨e1, e2, ?_⟩
  have e4 : icBad l s = false := by unfold icBad; rw [e1, e2]; rw [decide_eq_true h1, decide_eq_false h2]; rfl
  unfold icS; rw [e4, e3]; rfl
theorem ic_c3 {l : List Nat} {s : RS} (h58 : hasB l (icS2 l s) [58] = false) (h1 : icH l s ≠ 24) : icC l s = 0 ∧ icL l s = 0 ∧ icS l s = hasS l (icS2 l s) [58] := by
  have e1 : icC l s = 0 := by simp only [icC, h58, if_true, Bool.false_eq_true, if_false]
  have e2 : icL l s = 0 := by simp only [icL, h58, if_true, Bool.false_eq_true, if_false]
  have e3 : icS4 l s = hasS l (icS2 l s) [58] := by simp only [icS4, h58, if_true, Bool.false_eq_true, if_false]
  refine ⟨e1, e2, ?_⟩
  have e4 : icBad l s = false := by unfold icBad; rw [e1, e2]; rw [decide_eq_false h1]; rfl
  unfold icS; rw [e4, e3]; rfl
end

section -- A6
theorem rst_A6 : True := by
  w_top off
  trivial
open PySem PySem.W PySem.Calls PyProof.Rows
theorem ru_A6_0 : True := by
  k_with_none
  k_with "steps" => (repeat' (first | k_unfold | (k_end; kc_close) | walk1 | (dsimp only; walk1) | (leave1; (try dsimp only)) | fail "no step"))
  k_with "eval Constant int" => (k_here; (with_reducible refine ct9 ?_); intro _ _)
  k_with "eval Constant str" => (k_here; (with_reducible refine cs9 ?_); intro _ _)
  k_with "binaryOp Add int int" => (k_here; (with_reducible refine ar_add ?_); intro _ _)
  k_with "binaryOp Sub int int" => (k_here; (with_reducible refine ar_sub ?_); intro _ _)
  k_with "binaryOp Mult int int" => (k_here; (with_reducible refine' ar_mul ?_ ?m9_9); k_dflt (case m9_9 => mul_fits); intro _ _)
  k_with "binaryOp FloorDiv int int" => (k_here; (with_reducible refine' ar_div ?b9_9 ?_ ?p9_9); k_dflt (case b9_9 => decide); k_dflt (case p9_9 => first | exact PyProof.noPylong_of_log2 (by decide +kernel) | exact PyProof.noPylong_small (by omega)); intro _ _)
  k_with "binaryOp Mod int int" => (k_here; (with_reducible refine ar_mod ?b9_9 ?_); (case b9_9 => first | decide | omega | assumption); intro _ _)
  k_with "inplaceOp Add int int" => (k_here; (with_reducible refine ar_iadd ?_); intro _ _)
  k_with "storeName" => (k_here; k_dflt (refine' st9 ?F_9 ?N_9 ?_ ?a_9 ?b_9; (case F_9 => with_reducible assumption); (case N_9 => with_reducible assumption); (case a_9 => exact rfl); (case b_9 => exact rfl); k_whole); intro h9 k9 F9 N9; (try k_sweep))
  k_with "newTuple" => (k_here; kup_bare; k_dflt (refine' nt9 ?F_9 ?N_9 ?_ ?z_9; (case F_9 => with_reducible assumption); (case N_9 => with_reducible assumption); (case z_9 => kmk_size)); intro D9 h9 F9 N9; (try k_sweep))
  k_with "eval Tuple" => (k_here; k_whole; (with_reducible refine tk_go ?h9_9 ?_); k_dflt (case h9_9 => exact rfl))
  k_with "eval Tuple" => (k_here; walk_at "fold")
  k_with "TupK" => (k_here; (with_reducible refine tk_e ?_))
  k_with "TupK" => (k_here; (with_reducible refine' tk_n ?k1_9 ?k2_9 ?k3_9 ?k4_9 ?k5_9 ?_); k_dflt ((case k3_9 => exact rfl); (case k4_9 => exact rfl); (case k1_9 => k_asm); (case k2_9 => exact rfl); (case k5_9 => exact rfl); k_whole))
  k_with "TupK" => (k_here; (with_reducible refine tk_i ?_); intro _ _)
  k_with "TupK" => (k_here; (first | with_reducible refine tk_2 ?_ | with_reducible refine tk_3 ?_ | with_reducible refine tk_4 ?_ | with_reducible refine tk_5 ?_ | with_reducible refine tk_6 ?_))
  k_with "uX" => (intro t9 h9 tk9 F9 N9; (try dsimp only); (try k_sweep); (try k_fold))
  k_with "uV" => (intro h9 tk9 F9 N9; (try dsimp only); (try k_sweep); (try k_fold))
  k_with "callWith ref" => (k_here; k_dflt (first | (refine' cw_K0 ?k1_9 ?k2_9 ?_; (case k1_9 => k_is); (case k2_9 => exact rfl); k_whole) | (refine' cw_K1 ?k1_9 ?k2_9 ?_; (case k1_9 => k_is); (case k2_9 => exact rfl); k_whole)))
  k_with "eval Call" => (k_here; (with_reducible refine' cg_K ?k1_9 ?k2_9 ?k3_9 ?k4_9 ?k5_9 ?k6_9 ?k7_9 ?k8_9 ?k9_9 ?_); k_dflt ((case k7_9 => exact rfl); (case k8_9 => exact rfl); (case k9_9 => exact rfl); (case k1_9 => k_asm); (case k2_9 => k_asm); (case k3_9 => k_asm); (case k4_9 => k_is); (case k5_9 => exact rfl); (case k6_9 => k_is); k_whole))
  k_with "eval Name" => (k_here; k_dflt (refine' nm9 ?k1_9 ?k2_9 ?k3_9 ?k4_9 ?k5_9 ?_; (case k4_9 => exact rfl); (case k3_9 => exact rfl); (case k1_9 => k_asm); (case k2_9 => exact rfl); (case k5_9 => exact rfl); k_whole))
  k_with "fold" => (k_whole; (fail_if_success (fail_if_success k_fold)); refine fold9 ?_; intro qk)
  k_with "eval Call" => (k_here; walk_at "fold")
  k_with "eval BinOp" => (k_here; walk_at "fold")
  k_with "ArgK" => (k_here; (with_reducible refine ak_e ?_))
  k_with "ArgK" => (k_here; (with_reducible refine' ak_n ?k1_9 ?k2_9 ?k3_9 ?k4_9 ?k5_9 ?_); k_dflt ((case k3_9 => exact rfl); (case k4_9 => exact rfl); (case k1_9 => k_asm); (case k2_9 => exact rfl); (case k5_9 => exact rfl); k_whole))
  k_with "ArgK" => (k_here; (first | with_reducible refine ak_i ?_ | with_reducible refine ak_s ?_); intro _ _)
  k_with "ArgK" => (k_here; (first | with_reducible refine ak_1 ?_ | with_reducible refine ak_2 ?_ | with_reducible refine ak_3 ?_ | with_reducible refine ak_4 ?_ | with_reducible refine ak_0 ?_))
  k_with "ne" => first | with_reducible assumption | exact ne_news (by with_reducible assumption) (by k_mem) (by k_mem) rfl | k_ne
  k_with "upd" => first | (refine' Upd.head ?a_9; (case a_9 => walk_at "nall")) | (refine' Upd.tail ?a_9 ?b_9; (case a_9 => walk_at "ne"); (case b_9 => walk_at "upd"))
  k_with "setAttr ref" => (k_here; k_dflt (refine' set_dict ?k1_9 ?k2_9 ?k3_9 ?k4_9 ?k5_9 ?k6_9 ?k7_9 ?k8_9 ?k9_9 ?k10_9 ?k11_9 ?k12_9 ?k13_9 ?_; (case k1_9 => k_asm); (case k2_9 => k_asm); (case k3_9 => k_asm); (case k4_9 => k_inst); (case k5_9 => exact rfl); (case k6_9 => k_is); (case k7_9 => k_is); (case k8_9 => k_is); (case k9_9 => k_is); (case k10_9 => k_get); (case k11_9 => k_put); (case k12_9 => walk_at "upd"); (case k13_9 => exact Nat.le_of_ble_eq_true rfl); k_whole); intro h' F' N'; (try k_sweep))
  k_with "nall" => first | exact List.forall_mem_nil _ | (refine' List.forall_mem_cons.mpr ⟨?a_9, ?b_9⟩; (case a_9 => walk_at "ne"); (case b_9 => walk_at "nall"))
  k_with "execs cons" => (k_here; (with_reducible refine gen_toks ?_); intro _)
  k_with "execs nil" => (k_here; (with_reducible refine gen_toks ?_); intro _)
  k_with "end eq" => (law_clear; (try simp only [decide_eq_true_eq, decide_eq_false_iff_not, ne_eq, Bool.not_eq_true, Bool.not_eq_false, bne_iff_ne, beq_iff_eq] at *); first | rfl | omega | (simp_all; done) | (simp_all; rfl) | ((simp_all); omega))
  k_with "CallK" => (k_here; (guard_target = CallK _ _ (Value.ref 22) _ _ _ _); k_dflt (refine' use_ctrX (c_day_of _ _ _) ?g9_9 ?n9_9 ?F9_9 ?N9_9 ?_; (case g9_9 => with_reducible assumption); (case n9_9 => exact rfl); (case F9_9 => k_asm); (case N9_9 => k_asm); k_whole); walk_at "uX")
  k_with "CallK" => (k_here; (guard_target = CallK _ _ (Value.ref 29) _ _ _ _); k_dflt (refine' use_ctrX (c_time_in_day _ _ _) ?g9_9 ?n9_9 ?F9_9 ?N9_9 ?_; (case g9_9 => with_reducible assumption); (case n9_9 => exact rfl); (case F9_9 => k_asm); (case N9_9 => k_asm); k_whole); walk_at "uX")
  k_with "CallK" => (k_here; (guard_target = CallK _ _ (Value.ref 36) _ _ _ _); k_dflt (refine' use_ctrV (c_leap _ _ _) ?g9_9 ?n9_9 ?F9_9 ?N9_9 ?_; (case g9_9 => with_reducible assumption); (case n9_9 => exact rfl); (case F9_9 => k_asm); (case N9_9 => k_asm); k_whole); walk_at "uV")
  k_with "CallK" => (k_here; (guard_target = CallK _ _ (Value.ref 43) _ _ _ _); k_dflt (refine' use_ctrX (c_dfy _ _ _) ?g9_9 ?n9_9 ?F9_9 ?N9_9 ?_; (case g9_9 => with_reducible assumption); (case n9_9 => exact rfl); (case F9_9 => k_asm); (case N9_9 => k_asm); k_whole); walk_at "uX")
  k_with "CallK" => (k_here; (guard_target = CallK _ _ (Value.ref 71) _ _ _ _); k_dflt (refine' use_ctrX (c_days_ahead _ _ _ _ ?p0_9 ?p1_9) ?g9_9 ?n9_9 ?F9_9 ?N9_9 ?_; (case g9_9 => with_reducible assumption); (case n9_9 => exact rfl); (case F9_9 => k_asm); (case N9_9 => k_asm); (case p0_9 => first | with_reducible assumption | decide | l_fact); (case p1_9 => first | with_reducible assumption | decide | l_fact); k_whole); walk_at "uX")
  k_with "CallK" => (k_here; (guard_target = CallK _ _ (Value.ref 50) _ _ _ _); k_dflt (refine' use_ctrX (c_year_of_day _ _ _ _ ?p0_9 ?p1_9) ?g9_9 ?n9_9 ?F9_9 ?N9_9 ?_; (case g9_9 => with_reducible assumption); (case n9_9 => exact rfl); (case F9_9 => k_asm); (case N9_9 => k_asm); (case p0_9 => assumption); (case p1_9 => assumption); k_whole); walk_at "uX")
  k_with "CallK" => (k_here; (guard_target = CallK _ _ (Value.ref 78) _ _ _ _); k_dflt (refine' use_ctrX (c_days_of_month _ _ _ _ _ ?p0_9 ?p1_9) ?g9_9 ?n9_9 ?F9_9 ?N9_9 ?_; (case g9_9 => with_reducible assumption); (case n9_9 => exact rfl); (case F9_9 => k_asm); (case N9_9 => k_asm); (case p0_9 => first | with_reducible assumption | decide | l_fact); (case p1_9 => first | with_reducible assumption | decide | l_fact); k_whole); walk_at "uX")
  k_with "CallK" => (k_here; (guard_target = CallK _ _ (Value.ref 57) _ _ _ _); k_dflt (refine' use_ctrX (c_year_of _ _ _ _ ?p0_9) ?g9_9 ?n9_9 ?F9_9 ?N9_9 ?_; (case g9_9 => with_reducible assumption); (case n9_9 => exact rfl); (case F9_9 => k_asm); (case N9_9 => k_asm); (case p0_9 => assumption); k_whole); walk_at "uX")
  k_with "CallK" => (k_here; (guard_target = CallK _ _ (Value.ref 64) _ _ _ _); k_dflt (refine' use_ctrX (c_day_in_year _ _ _ _ ?p0_9) ?g9_9 ?n9_9 ?F9_9 ?N9_9 ?_; (case g9_9 => with_reducible assumption); (case n9_9 => exact rfl); (case F9_9 => k_asm); (case N9_9 => k_asm); (case p0_9 => assumption); k_whole); walk_at "uX")
  k_with "CallK" => (k_here; (guard_target = CallK _ _ (Value.ref 85) _ _ _ _); k_dflt (refine' use_ctrX (c_month_of _ _ _ _ _ ?p0_9 ?p1_9) ?g9_9 ?n9_9 ?F9_9 ?N9_9 ?_; (case g9_9 => with_reducible assumption); (case n9_9 => exact rfl); (case F9_9 => k_asm); (case N9_9 => k_asm); (case p0_9 => assumption); (case p1_9 => assumption); k_whole); walk_at "uX")
  k_with "CallK" => (k_here; (guard_target = CallK _ _ (Value.ref 92) _ _ _ _); k_dflt (refine' use_ctrX (c_date_of _ _ _ _ _ ?p0_9 ?p1_9) ?g9_9 ?n9_9 ?F9_9 ?N9_9 ?_; (case g9_9 => with_reducible assumption); (case n9_9 => exact rfl); (case F9_9 => k_asm); (case N9_9 => k_asm); (case p0_9 => assumption); (case p1_9 => assumption); k_whole); walk_at "uX")
  k_with "CallK" => (k_here; (guard_target = CallK _ _ (Value.ref 99) _ _ _ _); k_dflt (refine' use_ctrX (c_week_day_of _ _ _) ?g9_9 ?n9_9 ?F9_9 ?N9_9 ?_; (case g9_9 => with_reducible assumption); (case n9_9 => exact rfl); (case F9_9 => k_asm); (case N9_9 => k_asm); k_whole); walk_at "uX")
  k_with "CallK" => (k_here; (guard_target = CallK _ _ (Value.ref 106) _ _ _ _); k_dflt (refine' use_ctrX (c_hour_of _ _ _) ?g9_9 ?n9_9 ?F9_9 ?N9_9 ?_; (case g9_9 => with_reducible assumption); (case n9_9 => exact rfl); (case F9_9 => k_asm); (case N9_9 => k_asm); k_whole); walk_at "uX")
  k_with "CallK" => (k_here; (guard_target = CallK _ _ (Value.ref 113) _ _ _ _); k_dflt (refine' use_ctrX (c_minute_of _ _ _) ?g9_9 ?n9_9 ?F9_9 ?N9_9 ?_; (case g9_9 => with_reducible assumption); (case n9_9 => exact rfl); (case F9_9 => k_asm); (case N9_9 => k_asm); k_whole); walk_at "uX")
  k_with "CallK" => (k_here; (guard_target = CallK _ _ (Value.ref 120) _ _ _ _); k_dflt (refine' use_ctrX (c_second_of _ _ _) ?g9_9 ?n9_9 ?F9_9 ?N9_9 ?_; (case g9_9 => with_reducible assumption); (case n9_9 => exact rfl); (case F9_9 => k_asm); (case N9_9 => k_asm); k_whole); walk_at "uX")
  k_with "CallK" => (k_here; (guard_target = CallK _ _ (Value.ref 127) _ _ _ _); k_dflt (refine' use_ctrX (c_ms_of _ _ _) ?g9_9 ?n9_9 ?F9_9 ?N9_9 ?_; (case g9_9 => with_reducible assumption); (case n9_9 => exact rfl); (case F9_9 => k_asm); (case N9_9 => k_asm); k_whole); walk_at "uX")
  k_with "compareOp In" => (k_here; (guard_target = wpAny _ _ (compareOp CmpOp.In Value.none (Value.ref _)) _ _ _); k_dflt (first | (refine' none_in4 ?N_9 ?a_9 ?n_9 ?_; (case N_9 => k_asm); (case a_9 => k_mem); (case n_9 => first | with_reducible assumption | ktr_units); k_whole) | (refine' none_in3 ?N_9 ?a_9 ?n_9 ?_; (case N_9 => k_asm); (case a_9 => k_mem); (case n_9 => first | with_reducible assumption | ktr_units); k_whole)); (try dsimp only))
  k_with "CallK" => (k_here; (guard_target = CallK _ _ (Value.ref 141) _ _ _ _); k_dflt (refine' use_ctrX (c_make_time _ _ _ _ _ _ _ _ _) ?g9_9 ?n9_9 ?F9_9 ?N9_9 ?_; (case g9_9 => with_reducible assumption); (case n9_9 => exact rfl); (case F9_9 => k_asm); (case N9_9 => k_asm); k_whole); walk_at "uX")
  k_with "CallK" => (k_here; (guard_target = CallK _ _ (Value.ref 148) _ _ _ _); k_dflt (refine' use_ctrX (c_make_day _ _ _ _ _ _ _) ?g9_9 ?n9_9 ?F9_9 ?N9_9 ?_; (case g9_9 => with_reducible assumption); (case n9_9 => exact rfl); (case F9_9 => k_asm); (case N9_9 => k_asm); k_whole); walk_at "uX")
  k_with "CallK" => (k_here; (guard_target = CallK _ _ (Value.ref 155) _ _ _ _); k_dflt (refine' use_ctrX (c_make_date _ _ _ _ _) ?g9_9 ?n9_9 ?F9_9 ?N9_9 ?_; (case g9_9 => with_reducible assumption); (case n9_9 => exact rfl); (case F9_9 => k_asm); (case N9_9 => k_asm); k_whole); walk_at "uX")
  k_with "CallK" => (k_here; (guard_target = CallK _ _ (Value.ref 176) _ _ _ _); k_dflt (refine' use_ctrX (c_local_of _ _ _ _ _) ?g9_9 ?n9_9 ?F9_9 ?N9_9 ?_; (case g9_9 => with_reducible assumption); (case n9_9 => exact rfl); (case F9_9 => k_asm); (case N9_9 => k_asm); k_whole); walk_at "uX")
  k_with "CallK" => (k_here; (guard_target = CallK _ _ (Value.ref 183) _ _ _ _); k_dflt (refine' use_ctrX (c_utc_of _ _ _ _ _) ?g9_9 ?n9_9 ?F9_9 ?N9_9 ?_; (case g9_9 => with_reducible assumption); (case n9_9 => exact rfl); (case F9_9 => k_asm); (case N9_9 => k_asm); k_whole); walk_at "uX")
  k_with "CallK" => (k_here; (guard_target = CallK _ _ (Value.ref 162) _ _ _ _); k_dflt (refine' use_ctr (c_time_clip _ _ _) ?g9_9 ?n9_9 ?F9_9 ?N9_9 ?_; (case g9_9 => with_reducible assumption); (case n9_9 => exact rfl); (case F9_9 => k_asm); (case N9_9 => k_asm); k_whole); intro r9 h9 tk9 hP9 F9 N9; (try dsimp only); (try k_sweep); (try k_fold))
  k_with "my size" => (simp only [Str.length_append, mk_len, figs_len, item_len, lit0, lit1, lit2, lit3, lit4, lit5, lit6, lit7, lit8, lit9, lit10, lit11, lit12, lit13, lit14, lit15, lit16, lit17, lit18, lit19, lit20, lit21, lit22, lit23, lit24, lit25, lit26, lit27, lit28, lit29, lit30, lit31, lit32, lit33, lit34, lit35, lit36, lit37, lit38, lit39, lit40, lit41, lit42, lit43, lit44, lit45, lit46, lit47, lit48, lit49, lit50, lit51, lit52, lit53, List.length_append, List.length_cons, List.length_nil]; omega)
  k_with "binaryOp Add str str" => (k_here; (guard_target = wpAny _ _ (binaryOp Operator.Add (Value.str _ _) (Value.str _ _)) _ _ _); (refine' add_txt ?z_9 ?_; (case z_9 => walk_at "my size")); intro _ _)
  k_with "CallK" => (k_here; (guard_target = CallK _ _ (Value.ref 192) _ _ _ _); k_dflt (refine' use_ctrX (c_padded2 _ _ _ _ ?p0_9 ?p1_9) ?g9_9 ?n9_9 ?F9_9 ?N9_9 ?_; (case g9_9 => with_reducible assumption); (case n9_9 => exact rfl); (case F9_9 => k_asm); (case N9_9 => k_asm); (case p0_9 => first | with_reducible assumption | decide | l_fact); (case p1_9 => first | with_reducible assumption | decide | l_fact); k_whole); walk_at "uX")
  k_with "CallK" => (k_here; (guard_target = CallK _ _ (Value.ref 192) _ _ _ _); k_dflt (refine' use_ctrX (c_padded4 _ _ _ _ ?p0_9 ?p1_9) ?g9_9 ?n9_9 ?F9_9 ?N9_9 ?_; (case g9_9 => with_reducible assumption); (case n9_9 => exact rfl); (case F9_9 => k_asm); (case N9_9 => k_asm); (case p0_9 => first | with_reducible assumption | decide | l_fact); (case p1_9 => first | with_reducible assumption | decide | l_fact); k_whole); walk_at "uX")
  k_with "CallK" => (k_here; (guard_target = CallK _ _ (Value.ref 199) _ _ _ _); k_dflt (refine' use_ctrX (c_plain_year _ _ _ ?p0_9 ?p1_9) ?g9_9 ?n9_9 ?F9_9 ?N9_9 ?_; (case g9_9 => with_reducible assumption); (case n9_9 => exact rfl); (case F9_9 => k_asm); (case N9_9 => k_asm); (case p0_9 => first | with_reducible assumption | decide | l_fact); (case p1_9 => first | with_reducible assumption | decide | l_fact); k_whole); walk_at "uX")
  k_with "CallK" => (k_here; (guard_target = CallK _ _ (Value.ref 206) _ _ _ _); k_dflt (refine' use_ctrX (c_clock_text _ _ _ _ _ _ _ ?p0_9 ?p1_9 ?p2_9 ?p3_9 ?p4_9 ?p5_9) ?g9_9 ?n9_9 ?F9_9 ?N9_9 ?_; (case g9_9 => with_reducible assumption); (case n9_9 => exact rfl); (case F9_9 => k_asm); (case N9_9 => k_asm); (case p0_9 => first | with_reducible assumption | decide | l_fact); (case p1_9 => first | with_reducible assumption | decide | l_fact); (case p2_9 => first | with_reducible assumption | decide | l_fact); (case p3_9 => first | with_reducible assumption | decide | l_fact); (case p4_9 => first | with_reducible assumption | decide | l_fact); (case p5_9 => first | with_reducible assumption | decide | l_fact); k_whole); walk_at "uX")
  k_with "CallK" => (k_here; (guard_target = CallK _ _ (Value.ref 220) _ _ _ _); k_dflt (refine' use_ctrX (c_offset_text _ _ _ ?p0_9 ?p1_9) ?g9_9 ?n9_9 ?F9_9 ?N9_9 ?_; (case g9_9 => with_reducible assumption); (case n9_9 => exact rfl); (case F9_9 => k_asm); (case N9_9 => k_asm); (case p0_9 => first | with_reducible assumption | decide | l_fact); (case p1_9 => first | with_reducible assumption | decide | l_fact); k_whole); walk_at "uX")
  k_with "CallK" => (k_here; (guard_target = CallK _ _ (Value.ref 134) _ _ _ _); k_dflt (refine' use_fields (c_fields_of _ _ _ _ _ ?p0_9 ?p1_9) ?g9_9 ?n9_9 ?F9_9 ?N9_9 ?_; (case g9_9 => with_reducible assumption); (case n9_9 => exact rfl); (case F9_9 => k_asm); (case N9_9 => k_asm); (case p0_9 => assumption); (case p1_9 => assumption); k_whole); intro q9 t91 t92 t93 t94 t95 t96 t97 h9 tk9 F9 N9; (try dsimp only); (try k_sweep); (try k_fold))
  k_with "subscriptTail" => (k_here; (guard_target = wpAny _ _ (subscriptTail _ _ (Value.ref 185) (Value.int _ _)) _ _ _); k_dflt (refine' wd_item ?k1_9 ?k2_9 ?k3_9 ?k4_9 ?_ ?k5_9; (case k1_9 => k_asm); (case k2_9 => k_asm); (case k3_9 => assumption); (case k4_9 => assumption); (case k5_9 => with_unfolding_all rfl)); intro _)
  k_with "subscriptTail" => (k_here; (guard_target = wpAny _ _ (subscriptTail _ _ (Value.ref 184) (Value.int _ _)) _ _ _); k_dflt (refine' mo_item ?k1_9 ?k2_9 ?k3_9 ?k4_9 ?_ ?k5_9; (case k1_9 => k_asm); (case k2_9 => k_asm); (case k3_9 => assumption); (case k4_9 => assumption); (case k5_9 => with_unfolding_all rfl)); intro _)
  k_with "my size" => (simp only [Str.length_append, mk_len, figs_len, item_len, clockT, offT, dayT, lit0, lit1, lit2, lit3, lit4, lit5, lit6, lit7, lit8, lit9, lit10, lit11, lit12, lit13, lit14, lit15, lit16, lit17, lit18, lit19, lit20, lit21, lit22, lit23, lit24, lit25, lit26, lit27, lit28, lit29, lit30, lit31, lit32, lit33, lit34, lit35, lit36, lit37, lit38, lit39, lit40, lit41, lit42, lit43, lit44, lit45, lit46, lit47, lit48, lit49, lit50, lit51, lit52, lit53, List.length_append, List.length_cons, List.length_nil]; (try split); omega)
  k_with "CallK" => (k_here; (guard_target = CallK _ _ (Value.ref 213) _ _ _ _); k_dflt (refine' use_ctrX (c_day_text _ _ _ _ _ ?p0_9 ?p1_9 ?p2_9) ?g9_9 ?n9_9 ?F9_9 ?N9_9 ?_; (case g9_9 => with_reducible assumption); (case n9_9 => exact rfl); (case F9_9 => k_asm); (case N9_9 => k_asm); (case p0_9 => assumption); (case p1_9 => assumption); (case p2_9 => assumption); k_whole); walk_at "uX")
  k_with "my size" => (simp only [Str.length_append, mk_len, figs_len, item_len, clockT_len, offT_len, timeT_len, lit0, lit1, lit2, lit3, lit4, lit5, lit6, lit7, lit8, lit9, lit10, lit11, lit12, lit13, lit14, lit15, lit16, lit17, lit18, lit19, lit20, lit21, lit22, lit23, lit24, lit25, lit26, lit27, lit28, lit29, lit30, lit31, lit32, lit33, lit34, lit35, lit36, lit37, lit38, lit39, lit40, lit41, lit42, lit43, lit44, lit45, lit46, lit47, lit48, lit49, lit50, lit51, lit52, lit53, List.length_append, List.length_cons, List.length_nil]; omega)
  k_with "CallK" => (k_here; (guard_target = CallK _ _ (Value.ref 227) _ _ _ _); k_dflt (refine' use_ctrX (c_time_text _ _ _ _ _ _ _ ?p0_9 ?p1_9 ?p2_9 ?p3_9) ?g9_9 ?n9_9 ?F9_9 ?N9_9 ?_; (case g9_9 => with_reducible assumption); (case n9_9 => exact rfl); (case F9_9 => k_asm); (case N9_9 => k_asm); (case p0_9 => assumption); (case p1_9 => assumption); (case p2_9 => first | with_reducible assumption | decide | l_fact); (case p3_9 => first | with_reducible assumption | decide | l_fact); k_whole); walk_at "uX")
  k_with "CallK" => (k_here; (guard_target = CallK _ _ (Value.ref 234) _ _ _ _); k_dflt (refine' use_ctrX (c_whole_text _ _ _ _ _ _ _ ?p0_9 ?p1_9 ?p2_9 ?p3_9 ?p4_9) ?g9_9 ?n9_9 ?F9_9 ?N9_9 ?_; (case g9_9 => with_reducible assumption); (case n9_9 => exact rfl); (case F9_9 => k_asm); (case N9_9 => k_asm); (case p0_9 => assumption); (case p1_9 => assumption); (case p2_9 => assumption); (case p3_9 => first | with_reducible assumption | decide | l_fact); (case p4_9 => first | with_reducible assumption | decide | l_fact); k_whole); walk_at "uX")
  k_with "CallK" => (k_here; (guard_target = CallK _ _ (Value.ref 234) _ _ _ _); k_dflt (refine' use_ctrX (c_whole_none _ _ _) ?g9_9 ?n9_9 ?F9_9 ?N9_9 ?_; (case g9_9 => with_reducible assumption); (case n9_9 => exact rfl); (case F9_9 => k_asm); (case N9_9 => k_asm); k_whole); walk_at "uX")
  k_with "CallK" => (k_here; (guard_target = CallK _ _ (Value.ref 241) _ _ _ _); k_dflt (refine' use_ctrX (c_utc_text _ _ _ _ _ ?p0_9 ?p1_9 ?p2_9) ?g9_9 ?n9_9 ?F9_9 ?N9_9 ?_; (case g9_9 => with_reducible assumption); (case n9_9 => exact rfl); (case F9_9 => k_asm); (case N9_9 => k_asm); (case p0_9 => assumption); (case p1_9 => assumption); (case p2_9 => assumption); k_whole); walk_at "uX")
  k_with "CallK" => (k_here; (guard_target = CallK _ _ (Value.ref 241) _ _ _ _); k_dflt (refine' use_ctrX (c_utc_none _) ?g9_9 ?n9_9 ?F9_9 ?N9_9 ?_; (case g9_9 => with_reducible assumption); (case n9_9 => exact rfl); (case F9_9 => k_asm); (case N9_9 => k_asm); k_whole); walk_at "uX")
  trivial
set_option maxRecDepth 100000
set_option maxHeartbeats 8000000

/-- the reader's own dict -/
noncomputable abbrev rdD (P : Params) (k1 k2 k3 t1 t2 : Tok) (T : Str) (p : Int) (b : Bool) : Obj := dictOf [⟨PyData.keyHash P (Str.ofString "text"), .str (Str.ofString "text") k1, .str T t1⟩, ⟨PyData.keyHash P (Str.ofString "at"), .str (Str.ofString "at") k2, .int p t2⟩, ⟨PyData.keyHash P (Str.ofString "is_wrong"), .str (Str.ofString "is_wrong") k3, .bool b⟩] 3
/-- a call of a method that turns the reader (or a helper that takes it) -/
noncomputable def CtrR (w : World) (f : Addr) (n : Nat) (vs : List Value) (l : List Nat) (s₀ s₁ : RS) (P : Value → Prop) : Prop :=
  ∀ (rest : Led) (x dx : Addr) (k1 k2 k3 t1 t2 : Tok), (∀ q ∈ rest, q.1 ≠ dx) → (x : Nat) ≠ dx → CtG w f n (.ref x :: vs) ((x, instObj 328 dx) :: (dx, rdD w.params k1 k2 k3 t1 t2 (mk l) (s₀.p : Int) s₀.b) :: rest)
    (fun r n' => ∃ t2', P r ∧ n' = ((x, instObj 328 dx) :: (dx, rdD w.params k1 k2 k3 t1 t2' (mk l) (s₁.p : Int) s₁.b) :: rest))
theorem back_rd {h₀ hh g h' : Heap} {L0 L : Addr} {m' : Str → Option Value} {rest : Led} {x dx : Addr} {ox od od' : Obj} (hfr : ∀ b ob, b ∉ [(x, ox), (dx, od)].map (·.1) → hh.get? b = some ob → g.get? b = some ob) (F' : Fr g L h' m') (N : News h₀ L0 hh ((x, ox) :: (dx, od) :: rest)) (hne : ∀ q ∈ rest, q.1 ≠ dx)
    (N1 : News h₀ L0 h' [(x, ox), (dx, od')]) : News h₀ L0 h' rest := fun q hq => by
  have a := N q (.tail _ (.tail _ hq))
  by_cases e : q.1 = x
  · have b := (N _ (.head _)).1
    have a1 := a.1
    rw [e, b] at a1
    have c : q = (x, ox) := Prod.ext e (Option.some.inj a1).symm
    rw [c]; exact N1 _ (.head _)
  · exact ⟨F'.keep _ _ (hfr _ _ (by simpa using ⟨e, hne q hq⟩) a.1), a.2⟩
section
variable {w : World} {f : Addr} {n k : Nat} {vs : List Value} {l : List Nat} {s₀ s₁ : RS} {rest : Led} {x dx : Addr} {k1 k2 k3 t1 t2 : Tok} {A : Around} {h₀ h : Heap} {L : Addr} {m : Str → Option Value} {g : Array GenState} {d : Drawn} {tk : Nat} {o : OsState} {Q E : Value → Shared → Prop}
theorem use_ctrR {P : Value → Prop} (C : CtrR w f n vs l s₀ s₁ P) (G : Pl w k A h₀ L) (hn : Nat.ble n k = true) (F : Fr h₀ L h m) (N : News h₀ L h ((x, instObj 328 dx) :: (dx, rdD w.params k1 k2 k3 t1 t2 (mk l) (s₀.p : Int) s₀.b) :: rest)) (hne : ∀ q ∈ rest, q.1 ≠ dx) (hxd : (x : Nat) ≠ dx)
    (hret : ∀ (r : Value) (t2' : Tok) (h' : Heap) (tk' : Nat), P r → Fr h₀ L h' m → News h₀ L h' ((x, instObj 328 dx) :: (dx, rdD w.params k1 k2 k3 t1 t2' (mk l) (s₁.p : Int) s₁.b) :: rest) → Q r ⟨h', g, d, tk', o⟩) : CallK w A (.ref f) (.ref x :: vs) Q E ⟨h, g, d, tk, o⟩ :=
  use_g (C rest x dx k1 k2 k3 t1 t2 hne hxd) G hn F N (fun r h' k' n' hp F' N' => by obtain ⟨t2', hp, rfl⟩ := hp; exact hret r t2' h' k' hp F' N')
theorem use_ctrRX {V : Tok → Value} (C : CtrR w f n vs l s₀ s₁ (fun r => ∃ t, r = V t)) (G : Pl w k A h₀ L) (hn : Nat.ble n k = true) (F : Fr h₀ L h m) (N : News h₀ L h ((x, instObj 328 dx) :: (dx, rdD w.params k1 k2 k3 t1 t2 (mk l) (s₀.p : Int) s₀.b) :: rest)) (hne : ∀ q ∈ rest, q.1 ≠ dx) (hxd : (x : Nat) ≠ dx)
    (hret : ∀ (t t2' : Tok) (h' : Heap) (tk' : Nat), Fr h₀ L h' m → News h₀ L h' ((x, instObj 328 dx) :: (dx, rdD w.params k1 k2 k3 t1 t2' (mk l) (s₁.p : Int) s₁.b) :: rest) → Q (V t) ⟨h', g, d, tk', o⟩) : CallK w A (.ref f) (.ref x :: vs) Q E ⟨h, g, d, tk, o⟩ :=
  use_ctrR C G hn F N hne hxd (fun r t2 h tk hp => by obtain ⟨t, rfl⟩ := hp; exact hret t t2 h tk)
theorem use_ctrRV {v : Value} (C : CtrR w f n vs l s₀ s₁ (fun r => r = v)) (G : Pl w k A h₀ L) (hn : Nat.ble n k = true) (F : Fr h₀ L h m) (N : News h₀ L h ((x, instObj 328 dx) :: (dx, rdD w.params k1 k2 k3 t1 t2 (mk l) (s₀.p : Int) s₀.b) :: rest)) (hne : ∀ q ∈ rest, q.1 ≠ dx) (hxd : (x : Nat) ≠ dx)
    (hret : ∀ (t2' : Tok) (h' : Heap) (tk' : Nat), Fr h₀ L h' m → News h₀ L h' ((x, instObj 328 dx) :: (dx, rdD w.params k1 k2 k3 t1 t2' (mk l) (s₁.p : Int) s₁.b) :: rest) → Q v ⟨h', g, d, tk', o⟩) : CallK w A (.ref f) (.ref x :: vs) Q E ⟨h, g, d, tk, o⟩ :=
  use_ctrR C G hn F N hne hxd (fun r t2 h tk hp => by subst hp; exact hret t2 h tk)
end
theorem rd_app {h₀ h : Heap} {L : Addr} {a b : Addr × Obj} {r : Led} (N : News h₀ L h [a, b]) (M : News h₀ L h r) : News h₀ L h (a :: b :: r) := fun p hp => by
  rcases List.mem_cons.mp hp with rfl | hp
  · exact N _ (.head _)
  · rcases List.mem_cons.mp hp with rfl | hp
    · exact N _ (.tail _ (.head _))
    · exact M p hp
theorem rd_two {h₀ h : Heap} {L : Addr} {a b : Addr × Obj} {r : Led} (N : News h₀ L h (a :: b :: r)) : News h₀ L h [a, b] := fun p hp => N p (by
  simp only [List.mem_cons, List.not_mem_nil, or_false] at hp ⊢
  rcases hp with hp | hp <;> simp [hp])
/-- a call of a method of the reader that a local name holds -/
theorem rd_call {w : World} {A : Around} {Q E : Value → Shared → Prop} {es : List PySem.Expr} {h₀ : Heap} {L a q dx fm : Addr} {m : Str → Option Value} {cn : Str} {cs : Scope} {ccd : Value} {cl : List (Str × Addr)} {x name : Str} {pos pa px : Pos} {s : Shared} {k1 k2 k3 t1 t2 : Tok} {T : Str} {p : Int} {b : Bool} {news : Led}
    (F : Fr h₀ L s.heap m) (X : (hd.heap_1 w.params).In h₀) (N : News h₀ L s.heap news) (hv : some (Value.ref q) = m x) (h1 : (q, instObj 328 dx) ∈ news) (h2 : (dx, rdD w.params k1 k2 k3 t1 t2 T p b) ∈ news) (hf : findIn (hd.heap_1 w.params) (.ref 328) name = some (some (.ref fm)))
    (hg : plainGet (hd.heap_1 w.params) 328 name = true) (ht : isFn (hd.heap_1 w.params) (.ref fm) = true) (hl : getL name [⟨PyData.keyHash w.params (Str.ofString "text"), .str (Str.ofString "text") k1, .str T t1⟩, ⟨PyData.keyHash w.params (Str.ofString "at"), .str (Str.ofString "at") k2, .int p t2⟩, ⟨PyData.keyHash w.params (Str.ofString "is_wrong"), .str (Str.ofString "is_wrong") k3, .bool b⟩] = some none)
    (hk' : keepIn (hd.heap_1 w.params) (.ref fm) = true) (hp : true = es.all plainE) (hk : ScopeKind.function = cs.kind) (hx : some NameKind.local = (envX cn cs L a ccd cl).kindOf x) (hd : false = (x == ("__debug__" : Str))) {pl : Sem Bool} (he : eval (.Call (.Attribute (.Name x px) name pa) es [] pos) (envX cn cs L a ccd cl) = (do
      let ov ← eval (.Name x px) (envX cn cs L a ccd cl)
      standAt pa.atName
      let (f, first) ← holding [ov] (getMethod ov name pl)
      callWith pos f first (backTo pos (starEach es (envX cn cs L a ccd cl))) []))
    (H : ArgK w A (envX cn cs L a ccd cl) (.ref fm) Q E es [.ref q] s) : wpAny (model PP w) A (eval (.Call (.Attribute (.Name x px) name pa) es [] pos) (envX cn cs L a ccd cl)) Q E s :=
  MethodCall_ (nameX_L F hv.symm (method_inst F X (InstAt.of_news N h1 h2) hg hf ht hl (cw_K1 hk' hp.symm H)) hk.symm hx.symm hd.symm) he
theorem ctrR_enter {w : World} {f : Addr} {n : Nat} {vs : List Value} {name qual : Str} {params : Arguments} {body : List Stmt} {scope : Scope} {dV kV doc pm cdv ct oc : Value} {an od : Option Addr} {osl : Array (Option Value)} {binds bs : Addr → List (Str × Value)} {l : List Nat} {s₀ s₁ : RS} {P : Value → Prop}
    (ho : (hd.heap_1 w.params).lookup f = some ⟨oc, od, .func (fnOf name qual params body scope dV kV doc pm an cdv ct), osl⟩) (hcd : codeIn (hd.heap_1 w.params) cdv qual = true)
    (hbind : ∀ x : Addr, bindArgs (fnOf name qual params body scope dV kV doc pm an cdv ct) ⟨.ref x :: vs, []⟩ = pure (binds x)) (hloc : ∀ x, ((binds x).all fun x => decide (scope.names.lookup x.1 = some .local)) = true) (hbs : ∀ x, (binds x).reverse = bs x)
    (hco : scope.isCoroutine = false) (hgen : scope.isGenerator = false) (hk : scope.kind = .function) (hcell : ∀ x ∈ scope.names, x.2 ≠ .cell)
    (hw : ∀ (x dx : Addr) (k1 k2 k3 t1 t2 : Tok) (hxd : (x : Nat) ≠ dx) (mean : ExcName → Option Value) (mg mb : Str → Option Value) (dp un : Nat) (gd : Option (List Code)) (outer : List Env) (A₀ : Around) (base g : Heap) (L : Addr) (h : Heap) (gs : Array GenState) (d : Drawn) (tk : Nat) (o : OsState) (Q : Flow → Shared → Prop),
      let A9 := ktrTop dp un gd qual scope L f cdv [] outer
      Pl w n A9 g L → A9.units + 64 < cLine → Below A₀ base outer g → Fr g L h (fun y => List.lookup y (bs x)) → (hd.heap_1 w.params).In g → News g L h ((x, instObj 328 dx) :: (dx, rdD w.params k1 k2 k3 t1 t2 (mk l) (s₀.p : Int) s₀.b) :: []) → Top vw LZ mean mg mb g → dp + n < recursionLimit → un + 8 * n + 200 < cLine →
      (∀ (r : Value) (t2' : Tok) (h' : Heap) (k' : Nat) {m' : Str → Option Value}, P r → Fr g L h' m' → News g L h' ((x, instObj 328 dx) :: (dx, rdD w.params k1 k2 k3 t1 t2' (mk l) (s₁.p : Int) s₁.b) :: []) → Q (.ret r) ⟨h', gs, d, k', o⟩) →
      wpAny (model PP w) A9 (execs body (envX qual scope L f cdv [])) Q (fun _ _ => False) ⟨h, gs, d, tk, o⟩) : CtrR w f (n + 1) vs l s₀ s₁ P :=
  fun rest x dx k1 k2 k3 t1 t2 hne hxd A h₀ L0 m0 hh gs d k o Q0 E0 G F N hret => ctg_enter ho hcd (hbind x) (hloc x) (hbs x) hco hgen hk hcell G F (rd_two N) (fun mean mg mb dp un gd outer A₀ base g L h tk Q G9 U B F9 X N9 T hd hu hfr r1 => hw x dx k1 k2 k3 t1 t2 hxd mean mg mb dp un gd outer A₀ base g L h gs d tk o Q G9 U B F9 X N9 T hd hu
    (fun r t2' h' k' m' hp F' N' => r1 (.ret r) h' k' _ m' F' N' (fun kF kN => hret r h' k' _ ⟨t2', hp, rfl⟩ kF (rd_app kN (back_rd hfr F' N hne kN)))))
theorem ctrRU_enter {w : World} {f : Addr} {n : Nat} {vs : List Value} {name qual : Str} {params : Arguments} {body : List Stmt} {scope : Scope} {dV kV doc pm cdv ct oc : Value} {an od : Option Addr} {osl : Array (Option Value)} {binds bs : Addr → List (Str × Value)} {l : List Nat} {s₀ s₁ : RS} {P : Value → Prop}
    (ho : (hd.heap_1 w.params).lookup f = some ⟨oc, od, .func (fnOf name qual params body scope dV kV doc pm an cdv ct), osl⟩) (hcd : codeIn (hd.heap_1 w.params) cdv qual = true)
    (hbind : ∀ x : Addr, bindArgs (fnOf name qual params body scope dV kV doc pm an cdv ct) ⟨.ref x :: vs, []⟩ = pure (binds x)) (hloc : ∀ x, ((binds x).all fun x => decide (scope.names.lookup x.1 = some .local)) = true) (hbs : ∀ x, (binds x).reverse = bs x)
    (hco : scope.isCoroutine = false) (hgen : scope.isGenerator = false) (hk : scope.kind = .function) (hcell : ∀ x ∈ scope.names, x.2 ≠ .cell)
    (hw : ∀ (x dx : Addr) (k1 k2 k3 t1 t2 : Tok) (hxd : (x : Nat) ≠ dx) (mean : ExcName → Option Value) (mg mb : Str → Option Value) (dp un : Nat) (gd : Option (List Code)) (outer : List Env) (A₀ : Around) (base g : Heap) (L : Addr) (h : Heap) (gs : Array GenState) (d : Drawn) (tk : Nat) (o : OsState) (Q : Flow → Shared → Prop),
      let A9 := ktrTop dp un gd qual scope L f cdv [] outer
      Pl w n A9 g L → A9.units + 64 < cLine → Below A₀ base outer g → Fr g L h (fun y => List.lookup y (bs x)) → (hd.heap_1 w.params).In g → News g L h ((x, instObj 328 dx) :: (dx, rdD w.params k1 k2 k3 t1 t2 (mk l) (s₀.p : Int) s₀.b) :: []) → Top vw LZ mean mg mb g → dp + n < recursionLimit → un + 8 * n + 200 < cLine →
      (∀ (t2' : Tok) (h' : Heap) (k' : Nat) {m' : Str → Option Value}, P .none → Fr g L h' m' → News g L h' ((x, instObj 328 dx) :: (dx, rdD w.params k1 k2 k3 t1 t2' (mk l) (s₁.p : Int) s₁.b) :: []) → Q .next ⟨h', gs, d, k', o⟩) →
      wpAny (model PP w) A9 (execs body (envX qual scope L f cdv [])) Q (fun _ _ => False) ⟨h, gs, d, tk, o⟩) : CtrR w f (n + 1) vs l s₀ s₁ P :=
  fun rest x dx k1 k2 k3 t1 t2 hne hxd A h₀ L0 m0 hh gs d k o Q0 E0 G F N hret => ctg_enter ho hcd (hbind x) (hloc x) (hbs x) hco hgen hk hcell G F (rd_two N) (fun mean mg mb dp un gd outer A₀ base g L h tk Q G9 U B F9 X N9 T hd hu hfr r1 => hw x dx k1 k2 k3 t1 t2 hxd mean mg mb dp un gd outer A₀ base g L h gs d tk o Q G9 U B F9 X N9 T hd hu
    (fun t2' h' k' m' hp F' N' => r1 .next h' k' _ m' F' N' (fun kF kN => hret .none h' k' _ ⟨t2', hp, rfl⟩ kF (rd_app kN (back_rd hfr F' N hne kN)))))
section
variable {h₀ h : Heap} {L : Addr} {x d p1 p2 p3 p4 : Addr × Obj} {rest : List (Addr × Obj)}
theorem rd_perm1 (N : News h₀ L h (p1 :: x :: d :: rest)) : News h₀ L h (x :: d :: p1 :: rest) := fun p hp => N p (by
  simp only [List.mem_cons] at hp ⊢
  rcases hp with hp | hp | hp | hp <;> simp [hp])
theorem rd_perm2 (N : News h₀ L h (p1 :: p2 :: x :: d :: rest)) : News h₀ L h (x :: d :: p1 :: p2 :: rest) := fun p hp => N p (by
  simp only [List.mem_cons] at hp ⊢
  rcases hp with hp | hp | hp | hp | hp <;> simp [hp])
theorem rd_perm3 (N : News h₀ L h (p1 :: p2 :: p3 :: x :: d :: rest)) : News h₀ L h (x :: d :: p1 :: p2 :: p3 :: rest) := fun p hp => N p (by
  simp only [List.mem_cons] at hp ⊢
  rcases hp with hp | hp | hp | hp | hp | hp <;> simp [hp])
theorem rd_perm4 (N : News h₀ L h (p1 :: p2 :: p3 :: p4 :: x :: d :: rest)) : News h₀ L h (x :: d :: p1 :: p2 :: p3 :: p4 :: rest) := fun p hp => N p (by
  simp only [List.mem_cons] at hp ⊢
  rcases hp with hp | hp | hp | hp | hp | hp | hp <;> simp [hp])
end
section
variable {prog : Program} {w : World} {A : Around} {E : Value → Shared → Prop} {s : Shared} {h₀ : Heap} {L : Addr} {m : Str → Option Value} {news : List (Addr × Obj)} {l : List Nat} {t : Tok}
theorem len_mk {Q : Value → Shared → Prop} (hl : l.length ≤ 100000) (h : ∀ t' k, Q (.int (l.length : Int) t') { s with toks := k }) : wpAny (model prog w) A (call (.builtin "len") [.str (mk l) t]) Q E s :=
  len_str (by rw [mk_len]; (first | lia | omega)) (by rw [mk_len]; exact h _ _)
theorem slice_mk_ss {value slice : PySem.Expr} {i j : Int} {ui uj : Tok} {Q : Value → Shared → Prop} (hF : Fr h₀ L s.heap m) (hN : News h₀ L s.heap news) (h0 : 0 ≤ i) (h1 : i ≤ j) (hl : l.length ≤ 100000)
    (h : ∀ h' t' k, Fr h₀ L h' m → News h₀ L h' news → Q (.str (mk ((l.drop i.toNat).take (j - i).toNat)) t') { s with heap := h', toks := k })
    (hs : subscripted slice false (.str (mk l) t) (.ref s.heap.objs.size) = operate [.ref s.heap.objs.size, .str (mk l) t] (getItem (.str (mk l) t) (.ref s.heap.objs.size)) := by with_unfolding_all rfl)
    (ht : ∀ r, letTemporaryGo value (.str (mk l) t) r = pure () := by intro _; with_unfolding_all rfl) :
    wpAny (model prog w) A (subscriptTail value slice (.str (mk l) t) (.ref s.heap.objs.size)) Q E { s with heap := s.heap.push { cls := .type "slice", data := .fields #[.int i ui, .int j uj, .none] } } :=
  slice_strN_ss hF hN (by rw [slice_ss l h0 h1]; exact h) hs ht (by rw [mk_len, sizeLine_eq]; (first | lia | omega))
theorem slice_mk_rd {value slice : PySem.Expr} {p : Nat} {W : Int} {ui uj : Tok} {Q : Value → Shared → Prop} (hF : Fr h₀ L s.heap m) (hN : News h₀ L s.heap news) (hW : 0 ≤ W) (hl : l.length ≤ 100000)
    (h : ∀ h' t' n, Fr h₀ L h' m → News h₀ L h' news → Q (.str (mk ((l.drop p).take W.toNat)) t') { s with heap := h', toks := n })
    (hs : subscripted slice false (.str (mk l) t) (.ref s.heap.objs.size) = operate [.ref s.heap.objs.size, .str (mk l) t] (getItem (.str (mk l) t) (.ref s.heap.objs.size)) := by with_unfolding_all rfl)
    (ht : ∀ r, letTemporaryGo value (.str (mk l) t) r = pure () := by intro _; with_unfolding_all rfl) :
    wpAny (model prog w) A (subscriptTail value slice (.str (mk l) t) (.ref s.heap.objs.size)) Q E { s with heap := s.heap.push { cls := .type "slice", data := .fields #[.int (p : Int) ui, .int ((p : Int) + W) uj, .none] } } :=
  slice_mk_ss hF hN (by (first | lia | omega)) (by (first | lia | omega)) hl (by rw [Int.toNat_natCast, show ((p : Int) + W - (p : Int)).toNat = W.toNat by (first | lia | omega)]; exact h) hs ht
end
theorem ru_A6_1 : True := by
  k_with "uRX" => (intro t9 t29 h9 tk9 F9 N9; (try dsimp only); (try k_sweep); (try k_fold))
  k_with "uRV" => (intro t29 h9 tk9 F9 N9; (try dsimp only); (try k_sweep); (try k_fold))
  k_with "call builtin:len" => (k_here; (guard_target = wpAny _ _ (call (Value.builtin "len") [Value.str _ _]) _ _ _); k_dflt (refine' len_mk ?z_9 ?_; (case z_9 => first | omega | (simp only [List.length_take, List.length_drop]; omega))); intro _ _; (try dsimp only))
  k_with "subscriptTail Name Slice str ref" => (k_here; k_dflt (refine' slice_mk_rd (s := ⟨_, _, _, _, _⟩) ?k1_9 ?k2_9 ?k3_9 ?k4_9 ?_ ?k5_9 ?k6_9; (case k1_9 => k_asm); (case k2_9 => k_asm); (case k3_9 => omega); (case k4_9 => omega); (case k5_9 => with_unfolding_all rfl); (case k6_9 => intro _; with_unfolding_all rfl)); intro _ _ _ _ _; (try dsimp only); (try k_sweep))
  k_with "eval Call Attribute" => (k_here; (with_reducible refine' rd_call ?k1_9 ?k2_9 ?k3_9 ?k4_9 ?k5_9 ?k6_9 ?kf_9 ?kg_9 ?kh_9 ?ki_9 ?kj_9 ?kk_9 ?kl_9 ?km_9 ?kn_9 ?kp_9 ?_); k_dflt ((case kp_9 => exact rfl); (case kl_9 => exact rfl); (case km_9 => exact rfl); (case kn_9 => exact rfl); (case k1_9 => k_asm); (case k2_9 => k_asm); (case k3_9 => k_asm); (case k4_9 => exact rfl); (case k5_9 => k_mem); (case k6_9 => k_mem); (case kf_9 => k_is); (case kg_9 => k_is); (case kh_9 => k_is); (case ki_9 => k_get); (case kj_9 => k_is); (case kk_9 => exact rfl); k_whole))
  k_with "eval Call Attribute" => (k_here; walk_at "fold")
  k_with "rd" => first | with_reducible assumption | exact rd_perm1 (by with_reducible assumption) | exact rd_perm2 (by with_reducible assumption) | exact rd_perm3 (by with_reducible assumption) | exact rd_perm4 (by with_reducible assumption) | k_asm
  trivial
theorem has_a {l g : List Nat} {s : RS} (h : s.b = true) : hasB l s g = false := by simp [hasB, h]
theorem has_b {l g : List Nat} {s : RS} (_ : s.b = false) (h : (mk ((l.drop s.p).take g.length) != mk g) = true) : hasB l s g = false := by
  simp only [bne_iff_ne, ne_eq, mk_inj] at h
  simp [hasB, cut, h]
theorem has_c {l g : List Nat} {s : RS} (h0 : s.b = false) (h : (mk ((l.drop s.p).take g.length) != mk g) = false) : hasB l s g = true := by
  have h : mk ((l.drop s.p).take g.length) = mk g := by simpa using h
  rw [mk_inj] at h
  simp [hasB, cut, h, h0]
theorem c_has (w : World) (l g : List Nat) (s : RS) (t : Tok) (hl : l.length ≤ 1000) (hg : g.length ≤ 20) :
    CtrR w 269 1 [.str (mk g) t] l s (hasS l s g) (bolv (hasB l s g)) := by
  k_dflt (refine' ctrR_enter (bs := fun x => [(Str.ofString "sign", .str (mk g) t), (Str.ofString "self", .ref x)]) ?k6 ?k7 ?kb ?kB ?kr ?c2 ?c3 ?c4 ?c5 ?_; (case k6 => k_is); (case k7 => k_is); (case kb => exact fun _ => rfl); (case kB => exact fun _ => rfl); (case kr => exact fun _ => rfl); (case c2 => exact rfl); (case c3 => exact rfl); (case c4 => exact rfl); (case c5 => decide))
  intro x dx k1 k2 k3 t1 t2 hxd mean mg mb dp un gd outer A₀ base g' L' h9 gs9 d9 tk9 o9 Q
  intro A9 P9 u9 B' F9 X' N' T' hdp hun hret
  walk_at "steps"
  all_goals first
    | (have e := has_a (l := l) (g := g) (by assumption); unfold hasS at hret; rw [e] at hret; exact hret _ _ _ _ rfl (by k_asm) (by k_asm))
    | (have e := has_b (l := l) (g := g) (by assumption) (by assumption); unfold hasS at hret; rw [e] at hret; exact hret _ _ _ _ rfl (by k_asm) (by k_asm))
    | (have e := has_c (l := l) (g := g) (by assumption) (by assumption); unfold hasS at hret; rw [e, if_pos rfl] at hret; exact hret _ _ _ _ rfl (by k_asm) (by k_asm))
theorem c_has' (w : World) (l g : List Nat) (s : RS) (x : Str) (t : Tok) (hl : l.length ≤ 1000) (hx : x = mk g) (hg : g.length ≤ 20) :
    CtrR w 269 1 [.str x t] l s (hasS l s g) (bolv (hasB l s g)) := by rw [hx]; exact c_has w l g s t hl hg
theorem ru_A6_2 : True := by
  k_with "CallK" => (k_here; (guard_target = CallK _ _ (Value.ref 269) _ _ _ _); k_dflt (refine' use_ctrRV (c_has' _ _ _ _ _ _ ?p0_9 ?p1_9 ?p2_9) ?g9_9 ?n9_9 ?F9_9 ?R9_9 ?e9_9 ?x9_9 ?_; (case g9_9 => with_reducible assumption); (case n9_9 => exact rfl); (case F9_9 => k_asm); (case R9_9 => walk_at "rd"); (case e9_9 => walk_at "nall"); (case x9_9 => with_reducible assumption); (case p0_9 => first | exact Nat.le_trans (by with_reducible assumption) (by decide) | omega); (case p1_9 => with_reducible (first | exact lit1 | exact lit2 | exact lit4 | exact lit8 | exact lit5 | exact lit15 | exact lit6 | exact lit7 | exact lit3 | exact rfl)); (case p2_9 => (first | decide | omega)); k_whole); walk_at "uRV")
  trivial
end

section -- A7
theorem rst_A7 : True := by
  w_top off
  trivial
open PySem PySem.W PySem.Calls PyProof.Rows
theorem ru_A7_0 : True := by
  k_with_none
  k_with "steps" => (repeat' (first | k_unfold | (k_end; kc_close) | walk1 | (dsimp only; walk1) | (leave1; (try dsimp only)) | fail "no step"))
  k_with "eval Constant int" => (k_here; (with_reducible refine ct9 ?_); intro _ _)
  k_with "eval Constant str" => (k_here; (with_reducible refine cs9 ?_); intro _ _)
  k_with "binaryOp Add int int" => (k_here; (with_reducible refine ar_add ?_); intro _ _)
  k_with "binaryOp Sub int int" => (k_here; (with_reducible refine ar_sub ?_); intro _ _)
  k_with "binaryOp Mult int int" => (k_here; (with_reducible refine' ar_mul ?_ ?m9_9); k_dflt (case m9_9 => mul_fits); intro _ _)
  k_with "binaryOp FloorDiv int int" => (k_here; (with_reducible refine' ar_div ?b9_9 ?_ ?p9_9); k_dflt (case b9_9 => decide); k_dflt (case p9_9 => first | exact PyProof.noPylong_of_log2 (by decide +kernel) | exact PyProof.noPylong_small (by omega)); intro _ _)
  k_with "binaryOp Mod int int" => (k_here; (with_reducible refine ar_mod ?b9_9 ?_); (case b9_9 => first | decide | omega | assumption); intro _ _)
  k_with "inplaceOp Add int int" => (k_here; (with_reducible refine ar_iadd ?_); intro _ _)
  k_with "storeName" => (k_here; k_dflt (refine' st9 ?F_9 ?N_9 ?_ ?a_9 ?b_9; (case F_9 => with_reducible assumption); (case N_9 => with_reducible assumption); (case a_9 => exact rfl); (case b_9 => exact rfl); k_whole); intro h9 k9 F9 N9; (try k_sweep))
  k_with "newTuple" => (k_here; kup_bare; k_dflt (refine' nt9 ?F_9 ?N_9 ?_ ?z_9; (case F_9 => with_reducible assumption); (case N_9 => with_reducible assumption); (case z_9 => kmk_size)); intro D9 h9 F9 N9; (try k_sweep))
  k_with "eval Tuple" => (k_here; k_whole; (with_reducible refine tk_go ?h9_9 ?_); k_dflt (case h9_9 => exact rfl))
  k_with "eval Tuple" => (k_here; walk_at "fold")
  k_with "TupK" => (k_here; (with_reducible refine tk_e ?_))
  k_with "TupK" => (k_here; (with_reducible refine' tk_n ?k1_9 ?k2_9 ?k3_9 ?k4_9 ?k5_9 ?_); k_dflt ((case k3_9 => exact rfl); (case k4_9 => exact rfl); (case k1_9 => k_asm); (case k2_9 => exact rfl); (case k5_9 => exact rfl); k_whole))
  k_with "TupK" => (k_here; (with_reducible refine tk_i ?_); intro _ _)
  k_with "TupK" => (k_here; (first | with_reducible refine tk_2 ?_ | with_reducible refine tk_3 ?_ | with_reducible refine tk_4 ?_ | with_reducible refine tk_5 ?_ | with_reducible refine tk_6 ?_))
  k_with "uX" => (intro t9 h9 tk9 F9 N9; (try dsimp only); (try k_sweep); (try k_fold))
  k_with "uV" => (intro h9 tk9 F9 N9; (try dsimp only); (try k_sweep); (try k_fold))
  k_with "callWith ref" => (k_here; k_dflt (first | (refine' cw_K0 ?k1_9 ?k2_9 ?_; (case k1_9 => k_is); (case k2_9 => exact rfl); k_whole) | (refine' cw_K1 ?k1_9 ?k2_9 ?_; (case k1_9 => k_is); (case k2_9 => exact rfl); k_whole)))
  k_with "eval Call" => (k_here; (with_reducible refine' cg_K ?k1_9 ?k2_9 ?k3_9 ?k4_9 ?k5_9 ?k6_9 ?k7_9 ?k8_9 ?k9_9 ?_); k_dflt ((case k7_9 => exact rfl); (case k8_9 => exact rfl); (case k9_9 => exact rfl); (case k1_9 => k_asm); (case k2_9 => k_asm); (case k3_9 => k_asm); (case k4_9 => k_is); (case k5_9 => exact rfl); (case k6_9 => k_is); k_whole))
  k_with "eval Name" => (k_here; k_dflt (refine' nm9 ?k1_9 ?k2_9 ?k3_9 ?k4_9 ?k5_9 ?_; (case k4_9 => exact rfl); (case k3_9 => exact rfl); (case k1_9 => k_asm); (case k2_9 => exact rfl); (case k5_9 => exact rfl); k_whole))
  k_with "fold" => (k_whole; (fail_if_success (fail_if_success k_fold)); refine fold9 ?_; intro qk)
  k_with "eval Call" => (k_here; walk_at "fold")
  k_with "eval BinOp" => (k_here; walk_at "fold")
  k_with "ArgK" => (k_here; (with_reducible refine ak_e ?_))
  k_with "ArgK" => (k_here; (with_reducible refine' ak_n ?k1_9 ?k2_9 ?k3_9 ?k4_9 ?k5_9 ?_); k_dflt ((case k3_9 => exact rfl); (case k4_9 => exact rfl); (case k1_9 => k_asm); (case k2_9 => exact rfl); (case k5_9 => exact rfl); k_whole))
  k_with "ArgK" => (k_here; (first | with_reducible refine ak_i ?_ | with_reducible refine ak_s ?_); intro _ _)
  k_with "ArgK" => (k_here; (first | with_reducible refine ak_1 ?_ | with_reducible refine ak_2 ?_ | with_reducible refine ak_3 ?_ | with_reducible refine ak_4 ?_ | with_reducible refine ak_0 ?_))
  k_with "ne" => first | with_reducible assumption | exact ne_news (by with_reducible assumption) (by k_mem) (by k_mem) rfl | k_ne
  k_with "upd" => first | (refine' Upd.head ?a_9; (case a_9 => walk_at "nall")) | (refine' Upd.tail ?a_9 ?b_9; (case a_9 => walk_at "ne"); (case b_9 => walk_at "upd"))
  k_with "setAttr ref" => (k_here; k_dflt (refine' set_dict ?k1_9 ?k2_9 ?k3_9 ?k4_9 ?k5_9 ?k6_9 ?k7_9 ?k8_9 ?k9_9 ?k10_9 ?k11_9 ?k12_9 ?k13_9 ?_; (case k1_9 => k_asm); (case k2_9 => k_asm); (case k3_9 => k_asm); (case k4_9 => k_inst); (case k5_9 => exact rfl); (case k6_9 => k_is); (case k7_9 => k_is); (case k8_9 => k_is); (case k9_9 => k_is); (case k10_9 => k_get); (case k11_9 => k_put); (case k12_9 => walk_at "upd"); (case k13_9 => exact Nat.le_of_ble_eq_true rfl); k_whole); intro h' F' N'; (try k_sweep))
  k_with "nall" => first | exact List.forall_mem_nil _ | (refine' List.forall_mem_cons.mpr ⟨?a_9, ?b_9⟩; (case a_9 => walk_at "ne"); (case b_9 => walk_at "nall"))
  k_with "execs cons" => (k_here; (with_reducible refine gen_toks ?_); intro _)
  k_with "execs nil" => (k_here; (with_reducible refine gen_toks ?_); intro _)
  k_with "end eq" => (law_clear; (try simp only [decide_eq_true_eq, decide_eq_false_iff_not, ne_eq, Bool.not_eq_true, Bool.not_eq_false, bne_iff_ne, beq_iff_eq] at *); first | rfl | omega | (simp_all; done) | (simp_all; rfl) | ((simp_all); omega))
  k_with "CallK" => (k_here; (guard_target = CallK _ _ (Value.ref 22) _ _ _ _); k_dflt (refine' use_ctrX (c_day_of _ _ _) ?g9_9 ?n9_9 ?F9_9 ?N9_9 ?_; (case g9_9 => with_reducible assumption); (case n9_9 => exact rfl); (case F9_9 => k_asm); (case N9_9 => k_asm); k_whole); walk_at "uX")
  k_with "CallK" => (k_here; (guard_target = CallK _ _ (Value.ref 29) _ _ _ _); k_dflt (refine' use_ctrX (c_time_in_day _ _ _) ?g9_9 ?n9_9 ?F9_9 ?N9_9 ?_; (case g9_9 => with_reducible assumption); (case n9_9 => exact rfl); (case F9_9 => k_asm); (case N9_9 => k_asm); k_whole); walk_at "uX")
  k_with "CallK" => (k_here; (guard_target = CallK _ _ (Value.ref 36) _ _ _ _); k_dflt (refine' use_ctrV (c_leap _ _ _) ?g9_9 ?n9_9 ?F9_9 ?N9_9 ?_; (case g9_9 => with_reducible assumption); (case n9_9 => exact rfl); (case F9_9 => k_asm); (case N9_9 => k_asm); k_whole); walk_at "uV")
  k_with "CallK" => (k_here; (guard_target = CallK _ _ (Value.ref 43) _ _ _ _); k_dflt (refine' use_ctrX (c_dfy _ _ _) ?g9_9 ?n9_9 ?F9_9 ?N9_9 ?_; (case g9_9 => with_reducible assumption); (case n9_9 => exact rfl); (case F9_9 => k_asm); (case N9_9 => k_asm); k_whole); walk_at "uX")
  k_with "CallK" => (k_here; (guard_target = CallK _ _ (Value.ref 71) _ _ _ _); k_dflt (refine' use_ctrX (c_days_ahead _ _ _ _ ?p0_9 ?p1_9) ?g9_9 ?n9_9 ?F9_9 ?N9_9 ?_; (case g9_9 => with_reducible assumption); (case n9_9 => exact rfl); (case F9_9 => k_asm); (case N9_9 => k_asm); (case p0_9 => first | with_reducible assumption | decide | l_fact); (case p1_9 => first | with_reducible assumption | decide | l_fact); k_whole); walk_at "uX")
  k_with "CallK" => (k_here; (guard_target = CallK _ _ (Value.ref 50) _ _ _ _); k_dflt (refine' use_ctrX (c_year_of_day _ _ _ _ ?p0_9 ?p1_9) ?g9_9 ?n9_9 ?F9_9 ?N9_9 ?_; (case g9_9 => with_reducible assumption); (case n9_9 => exact rfl); (case F9_9 => k_asm); (case N9_9 => k_asm); (case p0_9 => assumption); (case p1_9 => assumption); k_whole); walk_at "uX")
  k_with "CallK" => (k_here; (guard_target = CallK _ _ (Value.ref 78) _ _ _ _); k_dflt (refine' use_ctrX (c_days_of_month _ _ _ _ _ ?p0_9 ?p1_9) ?g9_9 ?n9_9 ?F9_9 ?N9_9 ?_; (case g9_9 => with_reducible assumption); (case n9_9 => exact rfl); (case F9_9 => k_asm); (case N9_9 => k_asm); (case p0_9 => first | with_reducible assumption | decide | l_fact); (case p1_9 => first | with_reducible assumption | decide | l_fact); k_whole); walk_at "uX")
  k_with "CallK" => (k_here; (guard_target = CallK _ _ (Value.ref 57) _ _ _ _); k_dflt (refine' use_ctrX (c_year_of _ _ _ _ ?p0_9) ?g9_9 ?n9_9 ?F9_9 ?N9_9 ?_; (case g9_9 => with_reducible assumption); (case n9_9 => exact rfl); (case F9_9 => k_asm); (case N9_9 => k_asm); (case p0_9 => assumption); k_whole); walk_at "uX")
  k_with "CallK" => (k_here; (guard_target = CallK _ _ (Value.ref 64) _ _ _ _); k_dflt (refine' use_ctrX (c_day_in_year _ _ _ _ ?p0_9) ?g9_9 ?n9_9 ?F9_9 ?N9_9 ?_; (case g9_9 => with_reducible assumption); (case n9_9 => exact rfl); (case F9_9 => k_asm); (case N9_9 => k_asm); (case p0_9 => assumption); k_whole); walk_at "uX")
  k_with "CallK" => (k_here; (guard_target = CallK _ _ (Value.ref 85) _ _ _ _); k_dflt (refine' use_ctrX (c_month_of _ _ _ _ _ ?p0_9 ?p1_9) ?g9_9 ?n9_9 ?F9_9 ?N9_9 ?_; (case g9_9 => with_reducible assumption); (case n9_9 => exact rfl); (case F9_9 => k_asm); (case N9_9 => k_asm); (case p0_9 => assumption); (case p1_9 => assumption); k_whole); walk_at "uX")
  k_with "CallK" => (k_here; (guard_target = CallK _ _ (Value.ref 92) _ _ _ _); k_dflt (refine' use_ctrX (c_date_of _ _ _ _ _ ?p0_9 ?p1_9) ?g9_9 ?n9_9 ?F9_9 ?N9_9 ?_; (case g9_9 => with_reducible assumption); (case n9_9 => exact rfl); (case F9_9 => k_asm); (case N9_9 => k_asm); (case p0_9 => assumption); (case p1_9 => assumption); k_whole); walk_at "uX")
  k_with "CallK" => (k_here; (guard_target = CallK _ _ (Value.ref 99) _ _ _ _); k_dflt (refine' use_ctrX (c_week_day_of _ _ _) ?g9_9 ?n9_9 ?F9_9 ?N9_9 ?_; (case g9_9 => with_reducible assumption); (case n9_9 => exact rfl); (case F9_9 => k_asm); (case N9_9 => k_asm); k_whole); walk_at "uX")
  k_with "CallK" => (k_here; (guard_target = CallK _ _ (Value.ref 106) _ _ _ _); k_dflt (refine' use_ctrX (c_hour_of _ _ _) ?g9_9 ?n9_9 ?F9_9 ?N9_9 ?_; (case g9_9 => with_reducible assumption); (case n9_9 => exact rfl); (case F9_9 => k_asm); (case N9_9 => k_asm); k_whole); walk_at "uX")
  k_with "CallK" => (k_here; (guard_target = CallK _ _ (Value.ref 113) _ _ _ _); k_dflt (refine' use_ctrX (c_minute_of _ _ _) ?g9_9 ?n9_9 ?F9_9 ?N9_9 ?_; (case g9_9 => with_reducible assumption); (case n9_9 => exact rfl); (case F9_9 => k_asm); (case N9_9 => k_asm); k_whole); walk_at "uX")
  k_with "CallK" => (k_here; (guard_target = CallK _ _ (Value.ref 120) _ _ _ _); k_dflt (refine' use_ctrX (c_second_of _ _ _) ?g9_9 ?n9_9 ?F9_9 ?N9_9 ?_; (case g9_9 => with_reducible assumption); (case n9_9 => exact rfl); (case F9_9 => k_asm); (case N9_9 => k_asm); k_whole); walk_at "uX")
  k_with "CallK" => (k_here; (guard_target = CallK _ _ (Value.ref 127) _ _ _ _); k_dflt (refine' use_ctrX (c_ms_of _ _ _) ?g9_9 ?n9_9 ?F9_9 ?N9_9 ?_; (case g9_9 => with_reducible assumption); (case n9_9 => exact rfl); (case F9_9 => k_asm); (case N9_9 => k_asm); k_whole); walk_at "uX")
  k_with "compareOp In" => (k_here; (guard_target = wpAny _ _ (compareOp CmpOp.In Value.none (Value.ref _)) _ _ _); k_dflt (first | (refine' none_in4 ?N_9 ?a_9 ?n_9 ?_; (case N_9 => k_asm); (case a_9 => k_mem); (case n_9 => first | with_reducible assumption | ktr_units); k_whole) | (refine' none_in3 ?N_9 ?a_9 ?n_9 ?_; (case N_9 => k_asm); (case a_9 => k_mem); (case n_9 => first | with_reducible assumption | ktr_units); k_whole)); (try dsimp only))
  k_with "CallK" => (k_here; (guard_target = CallK _ _ (Value.ref 141) _ _ _ _); k_dflt (refine' use_ctrX (c_make_time _ _ _ _ _ _ _ _ _) ?g9_9 ?n9_9 ?F9_9 ?N9_9 ?_; (case g9_9 => with_reducible assumption); (case n9_9 => exact rfl); (case F9_9 => k_asm); (case N9_9 => k_asm); k_whole); walk_at "uX")
  k_with "CallK" => (k_here; (guard_target = CallK _ _ (Value.ref 148) _ _ _ _); k_dflt (refine' use_ctrX (c_make_day _ _ _ _ _ _ _) ?g9_9 ?n9_9 ?F9_9 ?N9_9 ?_; (case g9_9 => with_reducible assumption); (case n9_9 => exact rfl); (case F9_9 => k_asm); (case N9_9 => k_asm); k_whole); walk_at "uX")
  k_with "CallK" => (k_here; (guard_target = CallK _ _ (Value.ref 155) _ _ _ _); k_dflt (refine' use_ctrX (c_make_date _ _ _ _ _) ?g9_9 ?n9_9 ?F9_9 ?N9_9 ?_; (case g9_9 => with_reducible assumption); (case n9_9 => exact rfl); (case F9_9 => k_asm); (case N9_9 => k_asm); k_whole); walk_at "uX")
  k_with "CallK" => (k_here; (guard_target = CallK _ _ (Value.ref 176) _ _ _ _); k_dflt (refine' use_ctrX (c_local_of _ _ _ _ _) ?g9_9 ?n9_9 ?F9_9 ?N9_9 ?_; (case g9_9 => with_reducible assumption); (case n9_9 => exact rfl); (case F9_9 => k_asm); (case N9_9 => k_asm); k_whole); walk_at "uX")
  k_with "CallK" => (k_here; (guard_target = CallK _ _ (Value.ref 183) _ _ _ _); k_dflt (refine' use_ctrX (c_utc_of _ _ _ _ _) ?g9_9 ?n9_9 ?F9_9 ?N9_9 ?_; (case g9_9 => with_reducible assumption); (case n9_9 => exact rfl); (case F9_9 => k_asm); (case N9_9 => k_asm); k_whole); walk_at "uX")
  k_with "CallK" => (k_here; (guard_target = CallK _ _ (Value.ref 162) _ _ _ _); k_dflt (refine' use_ctr (c_time_clip _ _ _) ?g9_9 ?n9_9 ?F9_9 ?N9_9 ?_; (case g9_9 => with_reducible assumption); (case n9_9 => exact rfl); (case F9_9 => k_asm); (case N9_9 => k_asm); k_whole); intro r9 h9 tk9 hP9 F9 N9; (try dsimp only); (try k_sweep); (try k_fold))
  k_with "my size" => (simp only [Str.length_append, mk_len, figs_len, item_len, lit0, lit1, lit2, lit3, lit4, lit5, lit6, lit7, lit8, lit9, lit10, lit11, lit12, lit13, lit14, lit15, lit16, lit17, lit18, lit19, lit20, lit21, lit22, lit23, lit24, lit25, lit26, lit27, lit28, lit29, lit30, lit31, lit32, lit33, lit34, lit35, lit36, lit37, lit38, lit39, lit40, lit41, lit42, lit43, lit44, lit45, lit46, lit47, lit48, lit49, lit50, lit51, lit52, lit53, List.length_append, List.length_cons, List.length_nil]; omega)
  k_with "binaryOp Add str str" => (k_here; (guard_target = wpAny _ _ (binaryOp Operator.Add (Value.str _ _) (Value.str _ _)) _ _ _); (refine' add_txt ?z_9 ?_; (case z_9 => walk_at "my size")); intro _ _)
  k_with "CallK" => (k_here; (guard_target = CallK _ _ (Value.ref 192) _ _ _ _); k_dflt (refine' use_ctrX (c_padded2 _ _ _ _ ?p0_9 ?p1_9) ?g9_9 ?n9_9 ?F9_9 ?N9_9 ?_; (case g9_9 => with_reducible assumption); (case n9_9 => exact rfl); (case F9_9 => k_asm); (case N9_9 => k_asm); (case p0_9 => first | with_reducible assumption | decide | l_fact); (case p1_9 => first | with_reducible assumption | decide | l_fact); k_whole); walk_at "uX")
  k_with "CallK" => (k_here; (guard_target = CallK _ _ (Value.ref 192) _ _ _ _); k_dflt (refine' use_ctrX (c_padded4 _ _ _ _ ?p0_9 ?p1_9) ?g9_9 ?n9_9 ?F9_9 ?N9_9 ?_; (case g9_9 => with_reducible assumption); (case n9_9 => exact rfl); (case F9_9 => k_asm); (case N9_9 => k_asm); (case p0_9 => first | with_reducible assumption | decide | l_fact); (case p1_9 => first | with_reducible assumption | decide | l_fact); k_whole); walk_at "uX")
  k_with "CallK" => (k_here; (guard_target = CallK _ _ (Value.ref 199) _ _ _ _); k_dflt (refine' use_ctrX (c_plain_year _ _ _ ?p0_9 ?p1_9) ?g9_9 ?n9_9 ?F9_9 ?N9_9 ?_; (case g9_9 => with_reducible assumption); (case n9_9 => exact rfl); (case F9_9 => k_asm); (case N9_9 => k_asm); (case p0_9 => first | with_reducible assumption | decide | l_fact); (case p1_9 => first | with_reducible assumption | decide | l_fact); k_whole); walk_at "uX")
  k_with "CallK" => (k_here; (guard_target = CallK _ _ (Value.ref 206) _ _ _ _); k_dflt (refine' use_ctrX (c_clock_text _ _ _ _ _ _ _ ?p0_9 ?p1_9 ?p2_9 ?p3_9 ?p4_9 ?p5_9) ?g9_9 ?n9_9 ?F9_9 ?N9_9 ?_; (case g9_9 => with_reducible assumption); (case n9_9 => exact rfl); (case F9_9 => k_asm); (case N9_9 => k_asm); (case p0_9 => first | with_reducible assumption | decide | l_fact); (case p1_9 => first | with_reducible assumption | decide | l_fact); (case p2_9 => first | with_reducible assumption | decide | l_fact); (case p3_9 => first | with_reducible assumption | decide | l_fact); (case p4_9 => first | with_reducible assumption | decide | l_fact); (case p5_9 => first | with_reducible assumption | decide | l_fact); k_whole); walk_at "uX")
  k_with "CallK" => (k_here; (guard_target = CallK _ _ (Value.ref 220) _ _ _ _); k_dflt (refine' use_ctrX (c_offset_text _ _ _ ?p0_9 ?p1_9) ?g9_9 ?n9_9 ?F9_9 ?N9_9 ?_; (case g9_9 => with_reducible assumption); (case n9_9 => exact rfl); (case F9_9 => k_asm); (case N9_9 => k_asm); (case p0_9 => first | with_reducible assumption | decide | l_fact); (case p1_9 => first | with_reducible assumption | decide | l_fact); k_whole); walk_at "uX")
  k_with "CallK" => (k_here; (guard_target = CallK _ _ (Value.ref 134) _ _ _ _); k_dflt (refine' use_fields (c_fields_of _ _ _ _ _ ?p0_9 ?p1_9) ?g9_9 ?n9_9 ?F9_9 ?N9_9 ?_; (case g9_9 => with_reducible assumption); (case n9_9 => exact rfl); (case F9_9 => k_asm); (case N9_9 => k_asm); (case p0_9 => assumption); (case p1_9 => assumption); k_whole); intro q9 t91 t92 t93 t94 t95 t96 t97 h9 tk9 F9 N9; (try dsimp only); (try k_sweep); (try k_fold))
  k_with "subscriptTail" => (k_here; (guard_target = wpAny _ _ (subscriptTail _ _ (Value.ref 185) (Value.int _ _)) _ _ _); k_dflt (refine' wd_item ?k1_9 ?k2_9 ?k3_9 ?k4_9 ?_ ?k5_9; (case k1_9 => k_asm); (case k2_9 => k_asm); (case k3_9 => assumption); (case k4_9 => assumption); (case k5_9 => with_unfolding_all rfl)); intro _)
  k_with "subscriptTail" => (k_here; (guard_target = wpAny _ _ (subscriptTail _ _ (Value.ref 184) (Value.int _ _)) _ _ _); k_dflt (refine' mo_item ?k1_9 ?k2_9 ?k3_9 ?k4_9 ?_ ?k5_9; (case k1_9 => k_asm); (case k2_9 => k_asm); (case k3_9 => assumption); (case k4_9 => assumption); (case k5_9 => with_unfolding_all rfl)); intro _)
  k_with "my size" => (simp only [Str.length_append, mk_len, figs_len, item_len, clockT, offT, dayT, lit0, lit1, lit2, lit3, lit4, lit5, lit6, lit7, lit8, lit9, lit10, lit11, lit12, lit13, lit14, lit15, lit16, lit17, lit18, lit19, lit20, lit21, lit22, lit23, lit24, lit25, lit26, lit27, lit28, lit29, lit30, lit31, lit32, lit33, lit34, lit35, lit36, lit37, lit38, lit39, lit40, lit41, lit42, lit43, lit44, lit45, lit46, lit47, lit48, lit49, lit50, lit51, lit52, lit53, List.length_append, List.length_cons, List.length_nil]; (try split); omega)
  k_with "CallK" => (k_here; (guard_target = CallK _ _ (Value.ref 213) _ _ _ _); k_dflt (refine' use_ctrX (c_day_text _ _ _ _ _ ?p0_9 ?p1_9 ?p2_9) ?g9_9 ?n9_9 ?F9_9 ?N9_9 ?_; (case g9_9 => with_reducible assumption); (case n9_9 => exact rfl); (case F9_9 => k_asm); (case N9_9 => k_asm); (case p0_9 => assumption); (case p1_9 => assumption); (case p2_9 => assumption); k_whole); walk_at "uX")
  k_with "my size" => (simp only [Str.length_append, mk_len, figs_len, item_len, clockT_len, offT_len, timeT_len, lit0, lit1, lit2, lit3, lit4, lit5, lit6, lit7, lit8, lit9, lit10, lit11, lit12, lit13, lit14, lit15, lit16, lit17, lit18, lit19, lit20, lit21, lit22, lit23, lit24, lit25, lit26, lit27, lit28, lit29, lit30, lit31, lit32, lit33, lit34, lit35, lit36, lit37, lit38, lit39, lit40, lit41, lit42, lit43, lit44, lit45, lit46, lit47, lit48, lit49, lit50, lit51, lit52, lit53, List.length_append, List.length_cons, List.length_nil]; omega)
  k_with "CallK" => (k_here; (guard_target = CallK _ _ (Value.ref 227) _ _ _ _); k_dflt (refine' use_ctrX (c_time_text _ _ _ _ _ _ _ ?p0_9 ?p1_9 ?p2_9 ?p3_9) ?g9_9 ?n9_9 ?F9_9 ?N9_9 ?_; (case g9_9 => with_reducible assumption); (case n9_9 => exact rfl); (case F9_9 => k_asm); (case N9_9 => k_asm); (case p0_9 => assumption); (case p1_9 => assumption); (case p2_9 => first | with_reducible assumption | decide | l_fact); (case p3_9 => first | with_reducible assumption | decide | l_fact); k_whole); walk_at "uX")
  k_with "CallK" => (k_here; (guard_target = CallK _ _ (Value.ref 234) _ _ _ _); k_dflt (refine' use_ctrX (c_whole_text _ _ _ _ _ _ _ ?p0_9 ?p1_9 ?p2_9 ?p3_9 ?p4_9) ?g9_9 ?n9_9 ?F9_9 ?N9_9 ?_; (case g9_9 => with_reducible assumption); (case n9_9 => exact rfl); (case F9_9 => k_asm); (case N9_9 => k_asm); (case p0_9 => assumption); (case p1_9 => assumption); (case p2_9 => assumption); (case p3_9 => first | with_reducible assumption | decide | l_fact); (case p4_9 => first | with_reducible assumption | decide | l_fact); k_whole); walk_at "uX")
  k_with "CallK" => (k_here; (guard_target = CallK _ _ (Value.ref 234) _ _ _ _); k_dflt (refine' use_ctrX (c_whole_none _ _ _) ?g9_9 ?n9_9 ?F9_9 ?N9_9 ?_; (case g9_9 => with_reducible assumption); (case n9_9 => exact rfl); (case F9_9 => k_asm); (case N9_9 => k_asm); k_whole); walk_at "uX")
  k_with "CallK" => (k_here; (guard_target = CallK _ _ (Value.ref 241) _ _ _ _); k_dflt (refine' use_ctrX (c_utc_text _ _ _ _ _ ?p0_9 ?p1_9 ?p2_9) ?g9_9 ?n9_9 ?F9_9 ?N9_9 ?_; (case g9_9 => with_reducible assumption); (case n9_9 => exact rfl); (case F9_9 => k_asm); (case N9_9 => k_asm); (case p0_9 => assumption); (case p1_9 => assumption); (case p2_9 => assumption); k_whole); walk_at "uX")
  k_with "CallK" => (k_here; (guard_target = CallK _ _ (Value.ref 241) _ _ _ _); k_dflt (refine' use_ctrX (c_utc_none _) ?g9_9 ?n9_9 ?F9_9 ?N9_9 ?_; (case g9_9 => with_reducible assumption); (case n9_9 => exact rfl); (case F9_9 => k_asm); (case N9_9 => k_asm); k_whole); walk_at "uX")
  k_with "uRX" => (intro t9 t29 h9 tk9 F9 N9; (try dsimp only); (try k_sweep); (try k_fold))
  k_with "uRV" => (intro t29 h9 tk9 F9 N9; (try dsimp only); (try k_sweep); (try k_fold))
  k_with "call builtin:len" => (k_here; (guard_target = wpAny _ _ (call (Value.builtin "len") [Value.str _ _]) _ _ _); k_dflt (refine' len_mk ?z_9 ?_; (case z_9 => first | omega | (simp only [List.length_take, List.length_drop]; omega))); intro _ _; (try dsimp only))
  k_with "subscriptTail Name Slice str ref" => (k_here; k_dflt (refine' slice_mk_rd (s := ⟨_, _, _, _, _⟩) ?k1_9 ?k2_9 ?k3_9 ?k4_9 ?_ ?k5_9 ?k6_9; (case k1_9 => k_asm); (case k2_9 => k_asm); (case k3_9 => omega); (case k4_9 => omega); (case k5_9 => with_unfolding_all rfl); (case k6_9 => intro _; with_unfolding_all rfl)); intro _ _ _ _ _; (try dsimp only); (try k_sweep))
  k_with "eval Call Attribute" => (k_here; (with_reducible refine' rd_call ?k1_9 ?k2_9 ?k3_9 ?k4_9 ?k5_9 ?k6_9 ?kf_9 ?kg_9 ?kh_9 ?ki_9 ?kj_9 ?kk_9 ?kl_9 ?km_9 ?kn_9 ?kp_9 ?_); k_dflt ((case kp_9 => exact rfl); (case kl_9 => exact rfl); (case km_9 => exact rfl); (case kn_9 => exact rfl); (case k1_9 => k_asm); (case k2_9 => k_asm); (case k3_9 => k_asm); (case k4_9 => exact rfl); (case k5_9 => k_mem); (case k6_9 => k_mem); (case kf_9 => k_is); (case kg_9 => k_is); (case kh_9 => k_is); (case ki_9 => k_get); (case kj_9 => k_is); (case kk_9 => exact rfl); k_whole))
  k_with "eval Call Attribute" => (k_here; walk_at "fold")
  k_with "rd" => first | with_reducible assumption | exact rd_perm1 (by with_reducible assumption) | exact rd_perm2 (by with_reducible assumption) | exact rd_perm3 (by with_reducible assumption) | exact rd_perm4 (by with_reducible assumption) | k_asm
  k_with "CallK" => (k_here; (guard_target = CallK _ _ (Value.ref 269) _ _ _ _); k_dflt (refine' use_ctrRV (c_has' _ _ _ _ _ _ ?p0_9 ?p1_9 ?p2_9) ?g9_9 ?n9_9 ?F9_9 ?R9_9 ?e9_9 ?x9_9 ?_; (case g9_9 => with_reducible assumption); (case n9_9 => exact rfl); (case F9_9 => k_asm); (case R9_9 => walk_at "rd"); (case e9_9 => walk_at "nall"); (case x9_9 => with_reducible assumption); (case p0_9 => first | exact Nat.le_trans (by with_reducible assumption) (by decide) | omega); (case p1_9 => with_reducible (first | exact lit1 | exact lit2 | exact lit4 | exact lit8 | exact lit5 | exact lit15 | exact lit6 | exact lit7 | exact lit3 | exact rfl)); (case p2_9 => (first | decide | omega)); k_whole); walk_at "uRV")
  trivial
set_option maxRecDepth 100000
set_option maxHeartbeats 8000000

theorem optv_cases {o : Option Int} {r : Value} (h : optv o r) : (o = none ∧ r = .none) ∨ ∃ i t, o = some i ∧ r = .int i t := by
  cases o with
  | none => exact .inl ⟨rfl, h⟩
  | some i => obtain ⟨t, h⟩ := h; exact .inr ⟨i, t, rfl, h⟩
theorem use_opt {w : World} {f : Addr} {n k : Nat} {vs : List Value} {news : Led} {A : Around} {h₀ h : Heap} {L : Addr} {m : Str → Option Value} {g : Array GenState} {d : Drawn} {tk : Nat} {o : OsState} {Q E : Value → Shared → Prop} {oi : Option Int} (C : Ctr w f n vs (optv oi)) (G : Pl w k A h₀ L) (hn : Nat.ble n k = true) (F : Fr h₀ L h m) (N : News h₀ L h news)
    (hN : ∀ (h' : Heap) (tk' : Nat), oi = none → Fr h₀ L h' m → News h₀ L h' news → Q .none ⟨h', g, d, tk', o⟩) (hS : ∀ (i : Int) (t : Tok) (h' : Heap) (tk' : Nat), oi = some i → Fr h₀ L h' m → News h₀ L h' news → Q (.int i t) ⟨h', g, d, tk', o⟩) : CallK w A (.ref f) vs Q E ⟨h, g, d, tk, o⟩ :=
  use_ctr C G hn F N (fun r h' tk' hp F' N' => by
    rcases optv_cases hp with ⟨e, rfl⟩ | ⟨i, t, e, rfl⟩
    · exact hN h' tk' e F' N'
    · exact hS i t h' tk' e F' N')
theorem ru_A7_1 : True := by
  k_with "CallK" => (k_here; (guard_target = CallK _ _ (Value.ref 248) _ _ _ _); k_dflt (refine' use_opt (c_nof _ _ _ ?p0_9) ?g9_9 ?n9_9 ?F9_9 ?N9_9 ?h8_9 ?h9_9; (case g9_9 => with_reducible assumption); (case n9_9 => exact rfl); (case F9_9 => k_asm); (case N9_9 => k_asm); (case p0_9 => (simp only [List.length_take]; omega)); k_whole); all_goals (intros; (try k_sweep)))
  trivial
theorem need_t {l g : List Nat} {s : RS} (h : hasB l s g = true) : needS l s g = hasS l s g := by unfold needS hasS; rw [if_pos h, if_pos h]
theorem need_f {l g : List Nat} {s : RS} (h : hasB l s g = false) : needS l s g = ⟨(hasS l s g).p, true⟩ := by unfold needS hasS; rw [if_neg (by simp [h]), if_neg (by simp [h])]
theorem c_need (w : World) (l g : List Nat) (s : RS) (x : Str) (t : Tok) (hl : l.length ≤ 1000) (hx : x = mk g) (hg : g.length ≤ 20) :
    CtrR w 276 2 [.str x t] l s (needS l s g) (fun r => r = .none) := by
  subst hx
  k_dflt (refine' ctrRU_enter (bs := fun x => [(Str.ofString "sign", .str (mk g) t), (Str.ofString "self", .ref x)]) ?k6 ?k7 ?kb ?kB ?kr ?c2 ?c3 ?c4 ?c5 ?_; (case k6 => k_is); (case k7 => k_is); (case kb => exact fun _ => rfl); (case kB => exact fun _ => rfl); (case kr => exact fun _ => rfl); (case c2 => exact rfl); (case c3 => exact rfl); (case c4 => exact rfl); (case c5 => decide))
  intro x dx k1 k2 k3 t1 t2 hxd mean mg mb dp un gd outer A₀ base g' L' h9 gs9 d9 tk9 o9 Q
  intro A9 P9 u9 B' F9 X' N' T' hdp hun hret
  walk_at "steps"
  all_goals first
    | (rw [need_t (by assumption)] at hret; exact hret _ _ _ rfl (by k_asm) (by k_asm))
    | (rw [need_f (by assumption)] at hret; exact hret _ _ _ rfl (by k_asm) (by k_asm))
theorem num_w {l : List Nat} {s : RS} {k : Nat} {lo hi : Int} (h : numOk l s k lo hi = false) : numV l s k lo hi = lo ∧ numS l s k lo hi = ⟨s.p, true⟩ := by
  unfold numV numS; rw [if_neg (by simp [h]), if_neg (by simp [h])]; exact ⟨rfl, rfl⟩
theorem num_r {l : List Nat} {s : RS} {k : Nat} {lo hi f : Int} (h : numOk l s k lo hi = true) (hf : nofF ((l.drop s.p).take k) = some f) : numV l s k lo hi = f ∧ numS l s k lo hi = ⟨s.p + k, s.b⟩ := by
  unfold numV numS cut; rw [if_pos h, if_pos h, hf]; exact ⟨rfl, rfl⟩
theorem num_1 {l : List Nat} {s : RS} {k : Nat} {lo hi : Int} (h : s.b = true) : numOk l s k lo hi = false := by simp [numOk, h]
theorem num_2 {l : List Nat} {s : RS} {W lo hi : Int} (h0 : 0 ≤ W) (h : (l.length : Int) < (s.p : Int) + W) : numOk l s W.toNat lo hi = false := by
  have : ¬ (s.p + W.toNat ≤ l.length) := by (first | lia | omega)
  simp [numOk, this]
theorem num_3 {l : List Nat} {s : RS} {k : Nat} {lo hi : Int} (h : nofF ((l.drop s.p).take k) = none) : numOk l s k lo hi = false := by simp [numOk, cut, h]
theorem num_4 {l : List Nat} {s : RS} {k : Nat} {lo hi f : Int} (h : nofF ((l.drop s.p).take k) = some f) (q : ¬ lo ≤ f) : numOk l s k lo hi = false := by simp [numOk, cut, h, q]
theorem num_5 {l : List Nat} {s : RS} {k : Nat} {lo hi f : Int} (h : nofF ((l.drop s.p).take k) = some f) (q : ¬ f ≤ hi) : numOk l s k lo hi = false := by simp [numOk, cut, h, q]
theorem num_6 {l : List Nat} {s : RS} {W lo hi f : Int} (h0 : 0 ≤ W) (hb : s.b = false) (h2 : ¬ (l.length : Int) < (s.p : Int) + W) (h : nofF ((l.drop s.p).take W.toNat) = some f) (q : lo ≤ f) (q2 : f ≤ hi) : numOk l s W.toNat lo hi = true := by
  have : s.p + W.toNat ≤ l.length := by (first | lia | omega)
  simp [numOk, cut, h, q, q2, hb, this]
theorem ru_A7_2 : True := by
  k_with "CallK" => (k_here; (guard_target = CallK _ _ (Value.ref 276) _ _ _ _); k_dflt (refine' use_ctrRV (c_need _ _ _ _ _ _ ?p0_9 ?p1_9 ?p2_9) ?g9_9 ?n9_9 ?F9_9 ?R9_9 ?e9_9 ?x9_9 ?_; (case g9_9 => with_reducible assumption); (case n9_9 => exact rfl); (case F9_9 => k_asm); (case R9_9 => walk_at "rd"); (case e9_9 => walk_at "nall"); (case x9_9 => with_reducible assumption); (case p0_9 => first | exact Nat.le_trans (by with_reducible assumption) (by decide) | omega); (case p1_9 => with_reducible (first | exact lit1 | exact lit2 | exact lit4 | exact lit8 | exact lit5 | exact lit15 | exact lit6 | exact lit7 | exact lit3 | exact rfl)); (case p2_9 => (first | decide | omega)); k_whole); walk_at "uRV")
  trivial
theorem c_number (w : World) (l : List Nat) (s : RS) (W lo hi : Int) (t u v : Tok) (hl : l.length ≤ 1000) (hW : 0 ≤ W) (hW1 : W ≤ 60) :
    CtrR w 283 2 [.int W t, .int lo u, .int hi v] l s (numS l s W.toNat lo hi) (intv (numV l s W.toNat lo hi)) := by
  k_dflt (refine' ctrR_enter (bs := fun x => [(Str.ofString "most", .int hi v), (Str.ofString "least", .int lo u), (Str.ofString "wide", .int W t), (Str.ofString "self", .ref x)]) ?k6 ?k7 ?kb ?kB ?kr ?c2 ?c3 ?c4 ?c5 ?_; (case k6 => k_is); (case k7 => k_is); (case kb => exact fun _ => rfl); (case kB => exact fun _ => rfl); (case kr => exact fun _ => rfl); (case c2 => exact rfl); (case c3 => exact rfl); (case c4 => exact rfl); (case c5 => decide))
  intro x dx k1 k2 k3 t1 t2 hxd mean mg mb dp un gd outer A₀ base g' L' h9 gs9 d9 tk9 o9 Q
  intro A9 P9 u9 B' F9 X' N' T' hdp hun hret
  walk_at "steps"
  all_goals first
    | (have e := num_w (l := l) (s := s) (k := W.toNat) (lo := lo) (hi := hi) (by first | exact num_1 (by assumption) | exact num_2 hW (by assumption) | exact num_3 (by assumption) | exact num_4 (by assumption) (by assumption) | exact num_5 (by assumption) (by assumption)); rw [e.1, e.2] at hret; exact hret _ _ _ _ ⟨_, rfl⟩ (by k_asm) (by k_asm))
    | (have e := num_r (num_6 hW (by assumption) (by assumption) (by assumption) (by assumption) (by assumption)) (by assumption); have e2 : ((s.p + W.toNat : Nat) : Int) = s.p + W := (by omega); rw [e.1, e.2] at hret; dsimp only at hret; rw [e2] at hret; exact hret _ _ _ _ ⟨_, rfl⟩ (by k_asm) (by k_asm))
theorem c_number2 (w : World) (l : List Nat) (s : RS) (lo hi : Int) (t u v : Tok) (hl : l.length ≤ 1000) : CtrR w 283 2 [.int 2 t, .int lo u, .int hi v] l s (numS l s 2 lo hi) (intv (numV l s 2 lo hi)) :=
  c_number w l s 2 lo hi t u v hl (by decide) (by decide)
theorem c_number3 (w : World) (l : List Nat) (s : RS) (lo hi : Int) (t u v : Tok) (hl : l.length ≤ 1000) : CtrR w 283 2 [.int 3 t, .int lo u, .int hi v] l s (numS l s 3 lo hi) (intv (numV l s 3 lo hi)) :=
  c_number w l s 3 lo hi t u v hl (by decide) (by decide)
theorem c_number4 (w : World) (l : List Nat) (s : RS) (lo hi : Int) (t u v : Tok) (hl : l.length ≤ 1000) : CtrR w 283 2 [.int 4 t, .int lo u, .int hi v] l s (numS l s 4 lo hi) (intv (numV l s 4 lo hi)) :=
  c_number w l s 4 lo hi t u v hl (by decide) (by decide)
theorem c_number6 (w : World) (l : List Nat) (s : RS) (lo hi : Int) (t u v : Tok) (hl : l.length ≤ 1000) : CtrR w 283 2 [.int 6 t, .int lo u, .int hi v] l s (numS l s 6 lo hi) (intv (numV l s 6 lo hi)) :=
  c_number w l s 6 lo hi t u v hl (by decide) (by decide)
theorem ru_A7_3 : True := by
  k_with "CallK" => (k_here; (guard_target = CallK _ _ (Value.ref 283) _ _ _ _); k_dflt (refine' use_ctrRX (c_number _ _ _ _ _ _ _ _ _ ?p0_9 ?p1_9 ?p2_9) ?g9_9 ?n9_9 ?F9_9 ?R9_9 ?e9_9 ?x9_9 ?_; (case g9_9 => with_reducible assumption); (case n9_9 => exact rfl); (case F9_9 => k_asm); (case R9_9 => walk_at "rd"); (case e9_9 => walk_at "nall"); (case x9_9 => with_reducible assumption); (case p0_9 => first | exact Nat.le_trans (by with_reducible assumption) (by decide) | omega); (case p1_9 => (first | decide | omega)); (case p2_9 => (first | decide | omega)); k_whole); walk_at "uRX")
  k_with "CallK" => (k_here; (guard_target = CallK _ _ (Value.ref 283) _ _ _ _); k_dflt (refine' use_ctrRX (c_number6 _ _ _ _ _ _ _ _ ?p0_9) ?g9_9 ?n9_9 ?F9_9 ?R9_9 ?e9_9 ?x9_9 ?_; (case g9_9 => with_reducible assumption); (case n9_9 => exact rfl); (case F9_9 => k_asm); (case R9_9 => walk_at "rd"); (case e9_9 => walk_at "nall"); (case x9_9 => with_reducible assumption); (case p0_9 => first | exact Nat.le_trans (by with_reducible assumption) (by decide) | omega); k_whole); walk_at "uRX")
  k_with "CallK" => (k_here; (guard_target = CallK _ _ (Value.ref 283) _ _ _ _); k_dflt (refine' use_ctrRX (c_number4 _ _ _ _ _ _ _ _ ?p0_9) ?g9_9 ?n9_9 ?F9_9 ?R9_9 ?e9_9 ?x9_9 ?_; (case g9_9 => with_reducible assumption); (case n9_9 => exact rfl); (case F9_9 => k_asm); (case R9_9 => walk_at "rd"); (case e9_9 => walk_at "nall"); (case x9_9 => with_reducible assumption); (case p0_9 => first | exact Nat.le_trans (by with_reducible assumption) (by decide) | omega); k_whole); walk_at "uRX")
  k_with "CallK" => (k_here; (guard_target = CallK _ _ (Value.ref 283) _ _ _ _); k_dflt (refine' use_ctrRX (c_number3 _ _ _ _ _ _ _ _ ?p0_9) ?g9_9 ?n9_9 ?F9_9 ?R9_9 ?e9_9 ?x9_9 ?_; (case g9_9 => with_reducible assumption); (case n9_9 => exact rfl); (case F9_9 => k_asm); (case R9_9 => walk_at "rd"); (case e9_9 => walk_at "nall"); (case x9_9 => with_reducible assumption); (case p0_9 => first | exact Nat.le_trans (by with_reducible assumption) (by decide) | omega); k_whole); walk_at "uRX")
  k_with "CallK" => (k_here; (guard_target = CallK _ _ (Value.ref 283) _ _ _ _); k_dflt (refine' use_ctrRX (c_number2 _ _ _ _ _ _ _ _ ?p0_9) ?g9_9 ?n9_9 ?F9_9 ?R9_9 ?e9_9 ?x9_9 ?_; (case g9_9 => with_reducible assumption); (case n9_9 => exact rfl); (case F9_9 => k_asm); (case R9_9 => walk_at "rd"); (case e9_9 => walk_at "nall"); (case x9_9 => with_reducible assumption); (case p0_9 => first | exact Nat.le_trans (by with_reducible assumption) (by decide) | omega); k_whole); walk_at "uRX")
  trivial
theorem c_ends (w : World) (l : List Nat) (s : RS) (hl : l.length ≤ 1000) : CtrR w 297 1 [] l s s (bolv (endsB l s)) := by
  k_dflt (refine' ctrR_enter (bs := fun x => [(Str.ofString "self", .ref x)]) ?k6 ?k7 ?kb ?kB ?kr ?c2 ?c3 ?c4 ?c5 ?_; (case k6 => k_is); (case k7 => k_is); (case kb => exact fun _ => rfl); (case kB => exact fun _ => rfl); (case kr => exact fun _ => rfl); (case c2 => exact rfl); (case c3 => exact rfl); (case c4 => exact rfl); (case c5 => decide))
  intro x dx k1 k2 k3 t1 t2 hxd mean mg mb dp un gd outer A₀ base g' L' h9 gs9 d9 tk9 o9 Q
  intro A9 P9 u9 B' F9 X' N' T' hdp hun hret
  walk_at "steps"
  all_goals (refine hret _ _ _ _ (congrArg Value.bool ?_) (by k_asm) (by k_asm); clear hret; unfold endsB; first | (have hq : s.b = true := (by assumption); rw [hq]; rfl) | (have hq : s.b = false := (by assumption); rw [hq]; rw [Bool.eq_iff_iff]; simp; omega))
theorem ru_A7_4 : True := by
  k_with "CallK" => (k_here; (guard_target = CallK _ _ (Value.ref 297) _ _ _ _); k_dflt (refine' use_ctrRV (c_ends _ _ _ ?p0_9) ?g9_9 ?n9_9 ?F9_9 ?R9_9 ?e9_9 ?x9_9 ?_; (case g9_9 => with_reducible assumption); (case n9_9 => exact rfl); (case F9_9 => k_asm); (case R9_9 => walk_at "rd"); (case e9_9 => walk_at "nall"); (case x9_9 => with_reducible assumption); (case p0_9 => first | exact Nat.le_trans (by with_reducible assumption) (by decide) | omega); k_whole); walk_at "uRV")
  trivial


theorem c_year (w : World) (l : List Nat) (s : RS) (hl : l.length ≤ 1000) : CtrR w 304 3 [] l s (yearS l s) (intv (yearV l s)) := by
  k_dflt (refine' ctrR_enter (bs := fun x => [(Str.ofString "self", .ref x)]) ?k6 ?k7 ?kb ?kB ?kr ?c2 ?c3 ?c4 ?c5 ?_; (case k6 => k_is); (case k7 => k_is); (case kb => exact fun _ => rfl); (case kB => exact fun _ => rfl); (case kr => exact fun _ => rfl); (case c2 => exact rfl); (case c3 => exact rfl); (case c4 => exact rfl); (case c5 => decide))
  intro x dx k1 k2 k3 t1 t2 hxd mean mg mb dp un gd outer A₀ base g' L' h9 gs9 d9 tk9 o9 Q
  intro A9 P9 u9 B' F9 X' N' T' hdp hun hret
  walk_at "steps"
  all_goals first
    | (have hq : hasB l s [43] = true := (by assumption); simp only [yearS, yearV, hq, if_true] at hret; exact hret _ _ _ _ ⟨_, rfl⟩ (by k_asm) (by k_asm))
    | (have hq : hasB l s [43] = false := (by assumption); have hr : hasB l (hasS l s [43]) [45] = true := (by assumption); simp only [yearS, yearV, hq, hr, Bool.false_eq_true, if_false, if_true] at hret; exact hret _ _ _ _ ⟨_, rfl⟩ (by k_asm) (by k_asm))
    | (have hq : hasB l s [43] = false := (by assumption); have hr : hasB l (hasS l s [43]) [45] = false := (by assumption); simp only [yearS, yearV, hq, hr, Bool.false_eq_true, if_false] at hret; exact hret _ _ _ _ ⟨_, rfl⟩ (by k_asm) (by k_asm))
theorem ru_A7_5 : True := by
  k_with "CallK" => (k_here; (guard_target = CallK _ _ (Value.ref 304) _ _ _ _); k_dflt (refine' use_ctrRX (c_year _ _ _ ?p0_9) ?g9_9 ?n9_9 ?F9_9 ?R9_9 ?e9_9 ?x9_9 ?_; (case g9_9 => with_reducible assumption); (case n9_9 => exact rfl); (case F9_9 => k_asm); (case R9_9 => walk_at "rd"); (case e9_9 => walk_at "nall"); (case x9_9 => with_reducible assumption); (case p0_9 => first | exact Nat.le_trans (by with_reducible assumption) (by decide) | omega); k_whole); walk_at "uRX")
  trivial
theorem c_zone (w : World) (l : List Nat) (s : RS) (b : Bool) (hl : l.length ≤ 1000) : CtrR w 325 3 [.bool b] l s (znS l s b) (intv (znV l s b)) := by
  k_dflt (refine' ctrR_enter (bs := fun x => [(Str.ofString "is_iso", .bool b), (Str.ofString "self", .ref x)]) ?k6 ?k7 ?kb ?kB ?kr ?c2 ?c3 ?c4 ?c5 ?_; (case k6 => k_is); (case k7 => k_is); (case kb => exact fun _ => rfl); (case kB => exact fun _ => rfl); (case kr => exact fun _ => rfl); (case c2 => exact rfl); (case c3 => exact rfl); (case c4 => exact rfl); (case c5 => decide))
  intro x dx k1 k2 k3 t1 t2 hxd mean mg mb dp un gd outer A₀ base g' L' h9 gs9 d9 tk9 o9 Q
  intro A9 P9 u9 B' F9 X' N' T' hdp hun hret
  walk_at "steps"
  all_goals first
    | (have hq : hasB l s [45] = true := (by assumption); have hr : b = true := (by assumption); simp only [znS, znV, znM, znS1, znS0, hq, hr, if_true] at hret; exact hret _ _ _ _ ⟨_, rfl⟩ (by k_asm) (by k_asm))
    | (have hq : hasB l s [45] = true := (by assumption); have hr : b = false := (by assumption); simp only [znS, znV, znM, znS1, znS0, hq, hr, Bool.false_eq_true, if_false, if_true] at hret; exact hret _ _ _ _ ⟨_, rfl⟩ (by k_asm) (by k_asm))
    | (have hq : hasB l s [45] = false := (by assumption); have hr : b = true := (by assumption); simp only [znS, znV, znM, znS1, znS0, hq, hr, Bool.false_eq_true, if_false, if_true] at hret; exact hret _ _ _ _ ⟨_, rfl⟩ (by k_asm) (by k_asm))
    | (have hq : hasB l s [45] = false := (by assumption); have hr : b = false := (by assumption); simp only [znS, znV, znM, znS1, znS0, hq, hr, Bool.false_eq_true, if_false] at hret; exact hret _ _ _ _ ⟨_, rfl⟩ (by k_asm) (by k_asm))
theorem ru_A7_6 : True := by
  k_with "CallK" => (k_here; (guard_target = CallK _ _ (Value.ref 325) _ _ _ _); k_dflt (refine' use_ctrRX (c_zone _ _ _ _ ?p0_9) ?g9_9 ?n9_9 ?F9_9 ?R9_9 ?e9_9 ?x9_9 ?_; (case g9_9 => with_reducible assumption); (case n9_9 => exact rfl); (case F9_9 => k_asm); (case R9_9 => walk_at "rd"); (case e9_9 => walk_at "nall"); (case x9_9 => with_reducible assumption); (case p0_9 => first | exact Nat.le_trans (by with_reducible assumption) (by decide) | omega); k_whole); walk_at "uRX")
  trivial
/-- a call that moves the reader and comes back with a new tuple -/
noncomputable def CtrRN (w : World) (f : Addr) (n : Nat) (vs : List Value) (l : List Nat) (s₀ s₁ : RS) (P : Value → Addr → Obj → Prop) : Prop :=
  ∀ (rest : Led) (x dx : Addr) (k1 k2 k3 t1 t2 : Tok), (∀ q ∈ rest, q.1 ≠ dx) → (x : Nat) ≠ dx → CtG w f n (.ref x :: vs) ((x, instObj 328 dx) :: (dx, rdD w.params k1 k2 k3 t1 t2 (mk l) (s₀.p : Int) s₀.b) :: rest)
    (fun r n' => ∃ t2' q ob, P r q ob ∧ n' = ((q, ob) :: (x, instObj 328 dx) :: (dx, rdD w.params k1 k2 k3 t1 t2' (mk l) (s₁.p : Int) s₁.b) :: rest))
theorem use_ctrRN {w : World} {f : Addr} {n k : Nat} {vs : List Value} {l : List Nat} {s₀ s₁ : RS} {rest : Led} {x dx : Addr} {k1 k2 k3 t1 t2 : Tok} {A : Around} {h₀ h : Heap} {L : Addr} {m : Str → Option Value} {g : Array GenState} {d : Drawn} {tk : Nat} {o : OsState} {Q E : Value → Shared → Prop} {P : Value → Addr → Obj → Prop} (C : CtrRN w f n vs l s₀ s₁ P) (G : Pl w k A h₀ L) (hn : Nat.ble n k = true) (F : Fr h₀ L h m) (N : News h₀ L h ((x, instObj 328 dx) :: (dx, rdD w.params k1 k2 k3 t1 t2 (mk l) (s₀.p : Int) s₀.b) :: rest)) (hne : ∀ q ∈ rest, q.1 ≠ dx) (hxd : (x : Nat) ≠ dx)
    (hret : ∀ (r : Value) (q : Addr) (ob : Obj) (t2' : Tok) (h' : Heap) (tk' : Nat), P r q ob → Fr h₀ L h' m → News h₀ L h' ((q, ob) :: (x, instObj 328 dx) :: (dx, rdD w.params k1 k2 k3 t1 t2' (mk l) (s₁.p : Int) s₁.b) :: rest) → Q r ⟨h', g, d, tk', o⟩) : CallK w A (.ref f) (.ref x :: vs) Q E ⟨h, g, d, tk, o⟩ :=
  use_g (C rest x dx k1 k2 k3 t1 t2 hne hxd) G hn F N (fun r h' k' n' hp F' N' => by obtain ⟨t2', q, ob, hp, rfl⟩ := hp; exact hret r q ob t2' h' k' hp F' N')
theorem rn_app {h₀ h : Heap} {L : Addr} {a b c : Addr × Obj} {r : Led} (N : News h₀ L h [c, a, b]) (M : News h₀ L h r) : News h₀ L h (c :: a :: b :: r) := fun p hp => by
  rcases List.mem_cons.mp hp with rfl | hp
  · exact N _ (.head _)
  · exact rd_app (fun q hq => N q (.tail _ hq)) M p hp
theorem ctrRN_enter {w : World} {f : Addr} {n : Nat} {vs : List Value} {name qual : Str} {params : Arguments} {body : List Stmt} {scope : Scope} {dV kV doc pm cdv ct oc : Value} {an od : Option Addr} {osl : Array (Option Value)} {binds bs : Addr → List (Str × Value)} {l : List Nat} {s₀ s₁ : RS} {P : Value → Addr → Obj → Prop}
    (ho : (hd.heap_1 w.params).lookup f = some ⟨oc, od, .func (fnOf name qual params body scope dV kV doc pm an cdv ct), osl⟩) (hcd : codeIn (hd.heap_1 w.params) cdv qual = true)
    (hbind : ∀ x : Addr, bindArgs (fnOf name qual params body scope dV kV doc pm an cdv ct) ⟨.ref x :: vs, []⟩ = pure (binds x)) (hloc : ∀ x, ((binds x).all fun x => decide (scope.names.lookup x.1 = some .local)) = true) (hbs : ∀ x, (binds x).reverse = bs x)
    (hco : scope.isCoroutine = false) (hgen : scope.isGenerator = false) (hk : scope.kind = .function) (hcell : ∀ x ∈ scope.names, x.2 ≠ .cell)
    (hw : ∀ (x dx : Addr) (k1 k2 k3 t1 t2 : Tok) (hxd : (x : Nat) ≠ dx) (mean : ExcName → Option Value) (mg mb : Str → Option Value) (dp un : Nat) (gd : Option (List Code)) (outer : List Env) (A₀ : Around) (base g : Heap) (L : Addr) (h : Heap) (gs : Array GenState) (d : Drawn) (tk : Nat) (o : OsState) (Q : Flow → Shared → Prop),
      let A9 := ktrTop dp un gd qual scope L f cdv [] outer
      Pl w n A9 g L → A9.units + 64 < cLine → Below A₀ base outer g → Fr g L h (fun y => List.lookup y (bs x)) → (hd.heap_1 w.params).In g → News g L h ((x, instObj 328 dx) :: (dx, rdD w.params k1 k2 k3 t1 t2 (mk l) (s₀.p : Int) s₀.b) :: []) → Top vw LZ mean mg mb g → dp + n < recursionLimit → un + 8 * n + 200 < cLine →
      (∀ (r : Value) (q : Addr) (ob : Obj) (t2' : Tok) (h' : Heap) (k' : Nat) {m' : Str → Option Value}, P r q ob → Fr g L h' m' → News g L h' ((q, ob) :: (x, instObj 328 dx) :: (dx, rdD w.params k1 k2 k3 t1 t2' (mk l) (s₁.p : Int) s₁.b) :: []) → Q (.ret r) ⟨h', gs, d, k', o⟩) →
      wpAny (model PP w) A9 (execs body (envX qual scope L f cdv [])) Q (fun _ _ => False) ⟨h, gs, d, tk, o⟩) : CtrRN w f (n + 1) vs l s₀ s₁ P :=
  fun rest x dx k1 k2 k3 t1 t2 hne hxd A h₀ L0 m0 hh gs d k o Q0 E0 G F N hret => ctg_enter ho hcd (hbind x) (hloc x) (hbs x) hco hgen hk hcell G F (rd_two N) (fun mean mg mb dp un gd outer A₀ base g L h tk Q G9 U B F9 X N9 T hd hu hfr r1 => hw x dx k1 k2 k3 t1 t2 hxd mean mg mb dp un gd outer A₀ base g L h gs d tk o Q G9 U B F9 X N9 T hd hu
    (fun r q ob t2' h' k' m' hp F' N' => r1 (.ret r) h' k' _ m' F' N' (fun kF kN => hret r h' k' _ ⟨t2', q, ob, hp, rfl⟩ kF (rn_app kN (back_rd hfr F' N hne (fun p hp => kN p (.tail _ hp)))))))
noncomputable def tup4 (a b c d : Int) (r : Value) (q : Addr) (ob : Obj) : Prop := ∃ t1 t2 t3 t4, r = .ref q ∧ ob = tupO #[.int a t1, .int b t2, .int c t3, .int d t4]
theorem use_tup4 {w : World} {f : Addr} {n k : Nat} {vs : List Value} {l : List Nat} {s₀ s₁ : RS} {rest : Led} {x dx : Addr} {k1 k2 k3 t1 t2 : Tok} {A : Around} {h₀ h : Heap} {L : Addr} {m : Str → Option Value} {g : Array GenState} {d : Drawn} {tk : Nat} {o : OsState} {Q E : Value → Shared → Prop} {i1 i2 i3 i4 : Int} (C : CtrRN w f n vs l s₀ s₁ (tup4 i1 i2 i3 i4)) (G : Pl w k A h₀ L) (hn : Nat.ble n k = true) (F : Fr h₀ L h m) (N : News h₀ L h ((x, instObj 328 dx) :: (dx, rdD w.params k1 k2 k3 t1 t2 (mk l) (s₀.p : Int) s₀.b) :: rest)) (hne : ∀ q ∈ rest, q.1 ≠ dx) (hxd : (x : Nat) ≠ dx)
    (hret : ∀ (q : Addr) (u1 u2 u3 u4 t2' : Tok) (h' : Heap) (tk' : Nat), Fr h₀ L h' m → News h₀ L h' ((q, tupO #[.int i1 u1, .int i2 u2, .int i3 u3, .int i4 u4]) :: (x, instObj 328 dx) :: (dx, rdD w.params k1 k2 k3 t1 t2' (mk l) (s₁.p : Int) s₁.b) :: rest) → Q (.ref q) ⟨h', g, d, tk', o⟩) : CallK w A (.ref f) (.ref x :: vs) Q E ⟨h, g, d, tk, o⟩ :=
  use_ctrRN C G hn F N hne hxd (fun r q ob t2' h' tk' hp F' N' => by obtain ⟨u1, u2, u3, u4, rfl, rfl⟩ := hp; exact hret q u1 u2 u3 u4 t2' h' tk' F' N')
theorem c_clock (w : World) (l : List Nat) (s : RS) (hl : l.length ≤ 1000) : CtrRN w 318 3 [] l s (ckS l s) (tup4 (numV l s 2 0 23) (numV l (ckS1 l s) 2 0 59) (numV l (ckS2 l s) 2 0 59) 0) := by
  k_dflt (refine' ctrRN_enter (bs := fun x => [(Str.ofString "self", .ref x)]) ?k6 ?k7 ?kb ?kB ?kr ?c2 ?c3 ?c4 ?c5 ?_; (case k6 => k_is); (case k7 => k_is); (case kb => exact fun _ => rfl); (case kB => exact fun _ => rfl); (case kr => exact fun _ => rfl); (case c2 => exact rfl); (case c3 => exact rfl); (case c4 => exact rfl); (case c5 => decide))
  intro x dx k1 k2 k3 t1 t2 hxd mean mg mb dp un gd outer A₀ base g' L' h9 gs9 d9 tk9 o9 Q
  intro A9 P9 u9 B' F9 X' N' T' hdp hun hret
  walk_at "steps"
  all_goals first
    | (simp only [ckS, ckS1, ckS2] at hret; exact hret _ _ _ _ _ _ ⟨_, _, _, _, rfl, rfl⟩ (by k_asm) (by first | with_reducible assumption | exact drop_news (by with_reducible assumption) (by first | with_reducible exact ktn_subA | repeat (first | with_reducible exact sub_refl | with_reducible refine sub_cons ?_ | with_reducible refine sub_skip ?_))))
theorem ru_A7_7 : True := by
  k_with "CallK" => (k_here; (guard_target = CallK _ _ (Value.ref 318) _ _ _ _); k_dflt (refine' use_tup4 (c_clock _ _ _ ?p0_9) ?g9_9 ?n9_9 ?F9_9 ?R9_9 ?e9_9 ?x9_9 ?_; (case g9_9 => with_reducible assumption); (case n9_9 => exact rfl); (case F9_9 => k_asm); (case R9_9 => walk_at "rd"); (case e9_9 => walk_at "nall"); (case x9_9 => with_reducible assumption); (case p0_9 => first | exact Nat.le_trans (by with_reducible assumption) (by decide) | omega); k_whole); intro q9 u91 u92 u93 u94 t29 h9 tk9 F9 N9; (try dsimp only); (try k_sweep); (try k_fold))
  trivial
end

section -- A8
theorem rst_A8 : True := by
  w_top off
  trivial
open PySem PySem.W PySem.Calls PyProof.Rows
theorem ru_A8_0 : True := by
  k_with_none
  k_with "steps" => (repeat' (first | k_unfold | (k_end; kc_close) | walk1 | (dsimp only; walk1) | (leave1; (try dsimp only)) | fail "no step"))
  k_with "eval Constant int" => (k_here; (with_reducible refine ct9 ?_); intro _ _)
  k_with "eval Constant str" => (k_here; (with_reducible refine cs9 ?_); intro _ _)
  k_with "binaryOp Add int int" => (k_here; (with_reducible refine ar_add ?_); intro _ _)
  k_with "binaryOp Sub int int" => (k_here; (with_reducible refine ar_sub ?_); intro _ _)
  k_with "binaryOp Mult int int" => (k_here; (with_reducible refine' ar_mul ?_ ?m9_9); k_dflt (case m9_9 => mul_fits); intro _ _)
  k_with "binaryOp FloorDiv int int" => (k_here; (with_reducible refine' ar_div ?b9_9 ?_ ?p9_9); k_dflt (case b9_9 => decide); k_dflt (case p9_9 => first | exact PyProof.noPylong_of_log2 (by decide +kernel) | exact PyProof.noPylong_small (by omega)); intro _ _)
  k_with "binaryOp Mod int int" => (k_here; (with_reducible refine ar_mod ?b9_9 ?_); (case b9_9 => first | decide | omega | assumption); intro _ _)
  k_with "inplaceOp Add int int" => (k_here; (with_reducible refine ar_iadd ?_); intro _ _)
  k_with "storeName" => (k_here; k_dflt (refine' st9 ?F_9 ?N_9 ?_ ?a_9 ?b_9; (case F_9 => with_reducible assumption); (case N_9 => with_reducible assumption); (case a_9 => exact rfl); (case b_9 => exact rfl); k_whole); intro h9 k9 F9 N9; (try k_sweep))
  k_with "newTuple" => (k_here; kup_bare; k_dflt (refine' nt9 ?F_9 ?N_9 ?_ ?z_9; (case F_9 => with_reducible assumption); (case N_9 => with_reducible assumption); (case z_9 => kmk_size)); intro D9 h9 F9 N9; (try k_sweep))
  k_with "eval Tuple" => (k_here; k_whole; (with_reducible refine tk_go ?h9_9 ?_); k_dflt (case h9_9 => exact rfl))
  k_with "eval Tuple" => (k_here; walk_at "fold")
  k_with "TupK" => (k_here; (with_reducible refine tk_e ?_))
  k_with "TupK" => (k_here; (with_reducible refine' tk_n ?k1_9 ?k2_9 ?k3_9 ?k4_9 ?k5_9 ?_); k_dflt ((case k3_9 => exact rfl); (case k4_9 => exact rfl); (case k1_9 => k_asm); (case k2_9 => exact rfl); (case k5_9 => exact rfl); k_whole))
  k_with "TupK" => (k_here; (with_reducible refine tk_i ?_); intro _ _)
  k_with "TupK" => (k_here; (first | with_reducible refine tk_2 ?_ | with_reducible refine tk_3 ?_ | with_reducible refine tk_4 ?_ | with_reducible refine tk_5 ?_ | with_reducible refine tk_6 ?_))
  k_with "uX" => (intro t9 h9 tk9 F9 N9; (try dsimp only); (try k_sweep); (try k_fold))
  k_with "uV" => (intro h9 tk9 F9 N9; (try dsimp only); (try k_sweep); (try k_fold))
  k_with "callWith ref" => (k_here; k_dflt (first | (refine' cw_K0 ?k1_9 ?k2_9 ?_; (case k1_9 => k_is); (case k2_9 => exact rfl); k_whole) | (refine' cw_K1 ?k1_9 ?k2_9 ?_; (case k1_9 => k_is); (case k2_9 => exact rfl); k_whole)))
  k_with "eval Call" => (k_here; (with_reducible refine' cg_K ?k1_9 ?k2_9 ?k3_9 ?k4_9 ?k5_9 ?k6_9 ?k7_9 ?k8_9 ?k9_9 ?_); k_dflt ((case k7_9 => exact rfl); (case k8_9 => exact rfl); (case k9_9 => exact rfl); (case k1_9 => k_asm); (case k2_9 => k_asm); (case k3_9 => k_asm); (case k4_9 => k_is); (case k5_9 => exact rfl); (case k6_9 => k_is); k_whole))
  k_with "eval Name" => (k_here; k_dflt (refine' nm9 ?k1_9 ?k2_9 ?k3_9 ?k4_9 ?k5_9 ?_; (case k4_9 => exact rfl); (case k3_9 => exact rfl); (case k1_9 => k_asm); (case k2_9 => exact rfl); (case k5_9 => exact rfl); k_whole))
  k_with "fold" => (k_whole; (fail_if_success (fail_if_success k_fold)); refine fold9 ?_; intro qk)
  k_with "eval Call" => (k_here; walk_at "fold")
  k_with "eval BinOp" => (k_here; walk_at "fold")
  k_with "ArgK" => (k_here; (with_reducible refine ak_e ?_))
  k_with "ArgK" => (k_here; (with_reducible refine' ak_n ?k1_9 ?k2_9 ?k3_9 ?k4_9 ?k5_9 ?_); k_dflt ((case k3_9 => exact rfl); (case k4_9 => exact rfl); (case k1_9 => k_asm); (case k2_9 => exact rfl); (case k5_9 => exact rfl); k_whole))
  k_with "ArgK" => (k_here; (first | with_reducible refine ak_i ?_ | with_reducible refine ak_s ?_); intro _ _)
  k_with "ArgK" => (k_here; (first | with_reducible refine ak_1 ?_ | with_reducible refine ak_2 ?_ | with_reducible refine ak_3 ?_ | with_reducible refine ak_4 ?_ | with_reducible refine ak_0 ?_))
  k_with "ne" => first | with_reducible assumption | exact ne_news (by with_reducible assumption) (by k_mem) (by k_mem) rfl | k_ne
  k_with "upd" => first | (refine' Upd.head ?a_9; (case a_9 => walk_at "nall")) | (refine' Upd.tail ?a_9 ?b_9; (case a_9 => walk_at "ne"); (case b_9 => walk_at "upd"))
  k_with "setAttr ref" => (k_here; k_dflt (refine' set_dict ?k1_9 ?k2_9 ?k3_9 ?k4_9 ?k5_9 ?k6_9 ?k7_9 ?k8_9 ?k9_9 ?k10_9 ?k11_9 ?k12_9 ?k13_9 ?_; (case k1_9 => k_asm); (case k2_9 => k_asm); (case k3_9 => k_asm); (case k4_9 => k_inst); (case k5_9 => exact rfl); (case k6_9 => k_is); (case k7_9 => k_is); (case k8_9 => k_is); (case k9_9 => k_is); (case k10_9 => k_get); (case k11_9 => k_put); (case k12_9 => walk_at "upd"); (case k13_9 => exact Nat.le_of_ble_eq_true rfl); k_whole); intro h' F' N'; (try k_sweep))
  k_with "nall" => first | exact List.forall_mem_nil _ | (refine' List.forall_mem_cons.mpr ⟨?a_9, ?b_9⟩; (case a_9 => walk_at "ne"); (case b_9 => walk_at "nall"))
  k_with "execs cons" => (k_here; (with_reducible refine gen_toks ?_); intro _)
  k_with "execs nil" => (k_here; (with_reducible refine gen_toks ?_); intro _)
  k_with "end eq" => (law_clear; (try simp only [decide_eq_true_eq, decide_eq_false_iff_not, ne_eq, Bool.not_eq_true, Bool.not_eq_false, bne_iff_ne, beq_iff_eq] at *); first | rfl | omega | (simp_all; done) | (simp_all; rfl) | ((simp_all); omega))
  k_with "CallK" => (k_here; (guard_target = CallK _ _ (Value.ref 22) _ _ _ _); k_dflt (refine' use_ctrX (c_day_of _ _ _) ?g9_9 ?n9_9 ?F9_9 ?N9_9 ?_; (case g9_9 => with_reducible assumption); (case n9_9 => exact rfl); (case F9_9 => k_asm); (case N9_9 => k_asm); k_whole); walk_at "uX")
  k_with "CallK" => (k_here; (guard_target = CallK _ _ (Value.ref 29) _ _ _ _); k_dflt (refine' use_ctrX (c_time_in_day _ _ _) ?g9_9 ?n9_9 ?F9_9 ?N9_9 ?_; (case g9_9 => with_reducible assumption); (case n9_9 => exact rfl); (case F9_9 => k_asm); (case N9_9 => k_asm); k_whole); walk_at "uX")
  k_with "CallK" => (k_here; (guard_target = CallK _ _ (Value.ref 36) _ _ _ _); k_dflt (refine' use_ctrV (c_leap _ _ _) ?g9_9 ?n9_9 ?F9_9 ?N9_9 ?_; (case g9_9 => with_reducible assumption); (case n9_9 => exact rfl); (case F9_9 => k_asm); (case N9_9 => k_asm); k_whole); walk_at "uV")
  k_with "CallK" => (k_here; (guard_target = CallK _ _ (Value.ref 43) _ _ _ _); k_dflt (refine' use_ctrX (c_dfy _ _ _) ?g9_9 ?n9_9 ?F9_9 ?N9_9 ?_; (case g9_9 => with_reducible assumption); (case n9_9 => exact rfl); (case F9_9 => k_asm); (case N9_9 => k_asm); k_whole); walk_at "uX")
  k_with "CallK" => (k_here; (guard_target = CallK _ _ (Value.ref 71) _ _ _ _); k_dflt (refine' use_ctrX (c_days_ahead _ _ _ _ ?p0_9 ?p1_9) ?g9_9 ?n9_9 ?F9_9 ?N9_9 ?_; (case g9_9 => with_reducible assumption); (case n9_9 => exact rfl); (case F9_9 => k_asm); (case N9_9 => k_asm); (case p0_9 => first | with_reducible assumption | decide | l_fact); (case p1_9 => first | with_reducible assumption | decide | l_fact); k_whole); walk_at "uX")
  k_with "CallK" => (k_here; (guard_target = CallK _ _ (Value.ref 50) _ _ _ _); k_dflt (refine' use_ctrX (c_year_of_day _ _ _ _ ?p0_9 ?p1_9) ?g9_9 ?n9_9 ?F9_9 ?N9_9 ?_; (case g9_9 => with_reducible assumption); (case n9_9 => exact rfl); (case F9_9 => k_asm); (case N9_9 => k_asm); (case p0_9 => assumption); (case p1_9 => assumption); k_whole); walk_at "uX")
  k_with "CallK" => (k_here; (guard_target = CallK _ _ (Value.ref 78) _ _ _ _); k_dflt (refine' use_ctrX (c_days_of_month _ _ _ _ _ ?p0_9 ?p1_9) ?g9_9 ?n9_9 ?F9_9 ?N9_9 ?_; (case g9_9 => with_reducible assumption); (case n9_9 => exact rfl); (case F9_9 => k_asm); (case N9_9 => k_asm); (case p0_9 => first | with_reducible assumption | decide | l_fact); (case p1_9 => first | with_reducible assumption | decide | l_fact); k_whole); walk_at "uX")
  k_with "CallK" => (k_here; (guard_target = CallK _ _ (Value.ref 57) _ _ _ _); k_dflt (refine' use_ctrX (c_year_of _ _ _ _ ?p0_9) ?g9_9 ?n9_9 ?F9_9 ?N9_9 ?_; (case g9_9 => with_reducible assumption); (case n9_9 => exact rfl); (case F9_9 => k_asm); (case N9_9 => k_asm); (case p0_9 => assumption); k_whole); walk_at "uX")
  k_with "CallK" => (k_here; (guard_target = CallK _ _ (Value.ref 64) _ _ _ _); k_dflt (refine' use_ctrX (c_day_in_year _ _ _ _ ?p0_9) ?g9_9 ?n9_9 ?F9_9 ?N9_9 ?_; (case g9_9 => with_reducible assumption); (case n9_9 => exact rfl); (case F9_9 => k_asm); (case N9_9 => k_asm); (case p0_9 => assumption); k_whole); walk_at "uX")
  k_with "CallK" => (k_here; (guard_target = CallK _ _ (Value.ref 85) _ _ _ _); k_dflt (refine' use_ctrX (c_month_of _ _ _ _ _ ?p0_9 ?p1_9) ?g9_9 ?n9_9 ?F9_9 ?N9_9 ?_; (case g9_9 => with_reducible assumption); (case n9_9 => exact rfl); (case F9_9 => k_asm); (case N9_9 => k_asm); (case p0_9 => assumption); (case p1_9 => assumption); k_whole); walk_at "uX")
  k_with "CallK" => (k_here; (guard_target = CallK _ _ (Value.ref 92) _ _ _ _); k_dflt (refine' use_ctrX (c_date_of _ _ _ _ _ ?p0_9 ?p1_9) ?g9_9 ?n9_9 ?F9_9 ?N9_9 ?_; (case g9_9 => with_reducible assumption); (case n9_9 => exact rfl); (case F9_9 => k_asm); (case N9_9 => k_asm); (case p0_9 => assumption); (case p1_9 => assumption); k_whole); walk_at "uX")
  k_with "CallK" => (k_here; (guard_target = CallK _ _ (Value.ref 99) _ _ _ _); k_dflt (refine' use_ctrX (c_week_day_of _ _ _) ?g9_9 ?n9_9 ?F9_9 ?N9_9 ?_; (case g9_9 => with_reducible assumption); (case n9_9 => exact rfl); (case F9_9 => k_asm); (case N9_9 => k_asm); k_whole); walk_at "uX")
  k_with "CallK" => (k_here; (guard_target = CallK _ _ (Value.ref 106) _ _ _ _); k_dflt (refine' use_ctrX (c_hour_of _ _ _) ?g9_9 ?n9_9 ?F9_9 ?N9_9 ?_; (case g9_9 => with_reducible assumption); (case n9_9 => exact rfl); (case F9_9 => k_asm); (case N9_9 => k_asm); k_whole); walk_at "uX")
  k_with "CallK" => (k_here; (guard_target = CallK _ _ (Value.ref 113) _ _ _ _); k_dflt (refine' use_ctrX (c_minute_of _ _ _) ?g9_9 ?n9_9 ?F9_9 ?N9_9 ?_; (case g9_9 => with_reducible assumption); (case n9_9 => exact rfl); (case F9_9 => k_asm); (case N9_9 => k_asm); k_whole); walk_at "uX")
  k_with "CallK" => (k_here; (guard_target = CallK _ _ (Value.ref 120) _ _ _ _); k_dflt (refine' use_ctrX (c_second_of _ _ _) ?g9_9 ?n9_9 ?F9_9 ?N9_9 ?_; (case g9_9 => with_reducible assumption); (case n9_9 => exact rfl); (case F9_9 => k_asm); (case N9_9 => k_asm); k_whole); walk_at "uX")
  k_with "CallK" => (k_here; (guard_target = CallK _ _ (Value.ref 127) _ _ _ _); k_dflt (refine' use_ctrX (c_ms_of _ _ _) ?g9_9 ?n9_9 ?F9_9 ?N9_9 ?_; (case g9_9 => with_reducible assumption); (case n9_9 => exact rfl); (case F9_9 => k_asm); (case N9_9 => k_asm); k_whole); walk_at "uX")
  k_with "compareOp In" => (k_here; (guard_target = wpAny _ _ (compareOp CmpOp.In Value.none (Value.ref _)) _ _ _); k_dflt (first | (refine' none_in4 ?N_9 ?a_9 ?n_9 ?_; (case N_9 => k_asm); (case a_9 => k_mem); (case n_9 => first | with_reducible assumption | ktr_units); k_whole) | (refine' none_in3 ?N_9 ?a_9 ?n_9 ?_; (case N_9 => k_asm); (case a_9 => k_mem); (case n_9 => first | with_reducible assumption | ktr_units); k_whole)); (try dsimp only))
  k_with "CallK" => (k_here; (guard_target = CallK _ _ (Value.ref 141) _ _ _ _); k_dflt (refine' use_ctrX (c_make_time _ _ _ _ _ _ _ _ _) ?g9_9 ?n9_9 ?F9_9 ?N9_9 ?_; (case g9_9 => with_reducible assumption); (case n9_9 => exact rfl); (case F9_9 => k_asm); (case N9_9 => k_asm); k_whole); walk_at "uX")
  k_with "CallK" => (k_here; (guard_target = CallK _ _ (Value.ref 148) _ _ _ _); k_dflt (refine' use_ctrX (c_make_day _ _ _ _ _ _ _) ?g9_9 ?n9_9 ?F9_9 ?N9_9 ?_; (case g9_9 => with_reducible assumption); (case n9_9 => exact rfl); (case F9_9 => k_asm); (case N9_9 => k_asm); k_whole); walk_at "uX")
  k_with "CallK" => (k_here; (guard_target = CallK _ _ (Value.ref 155) _ _ _ _); k_dflt (refine' use_ctrX (c_make_date _ _ _ _ _) ?g9_9 ?n9_9 ?F9_9 ?N9_9 ?_; (case g9_9 => with_reducible assumption); (case n9_9 => exact rfl); (case F9_9 => k_asm); (case N9_9 => k_asm); k_whole); walk_at "uX")
  k_with "CallK" => (k_here; (guard_target = CallK _ _ (Value.ref 176) _ _ _ _); k_dflt (refine' use_ctrX (c_local_of _ _ _ _ _) ?g9_9 ?n9_9 ?F9_9 ?N9_9 ?_; (case g9_9 => with_reducible assumption); (case n9_9 => exact rfl); (case F9_9 => k_asm); (case N9_9 => k_asm); k_whole); walk_at "uX")
  k_with "CallK" => (k_here; (guard_target = CallK _ _ (Value.ref 183) _ _ _ _); k_dflt (refine' use_ctrX (c_utc_of _ _ _ _ _) ?g9_9 ?n9_9 ?F9_9 ?N9_9 ?_; (case g9_9 => with_reducible assumption); (case n9_9 => exact rfl); (case F9_9 => k_asm); (case N9_9 => k_asm); k_whole); walk_at "uX")
  k_with "CallK" => (k_here; (guard_target = CallK _ _ (Value.ref 162) _ _ _ _); k_dflt (refine' use_ctr (c_time_clip _ _ _) ?g9_9 ?n9_9 ?F9_9 ?N9_9 ?_; (case g9_9 => with_reducible assumption); (case n9_9 => exact rfl); (case F9_9 => k_asm); (case N9_9 => k_asm); k_whole); intro r9 h9 tk9 hP9 F9 N9; (try dsimp only); (try k_sweep); (try k_fold))
  k_with "my size" => (simp only [Str.length_append, mk_len, figs_len, item_len, lit0, lit1, lit2, lit3, lit4, lit5, lit6, lit7, lit8, lit9, lit10, lit11, lit12, lit13, lit14, lit15, lit16, lit17, lit18, lit19, lit20, lit21, lit22, lit23, lit24, lit25, lit26, lit27, lit28, lit29, lit30, lit31, lit32, lit33, lit34, lit35, lit36, lit37, lit38, lit39, lit40, lit41, lit42, lit43, lit44, lit45, lit46, lit47, lit48, lit49, lit50, lit51, lit52, lit53, List.length_append, List.length_cons, List.length_nil]; omega)
  k_with "binaryOp Add str str" => (k_here; (guard_target = wpAny _ _ (binaryOp Operator.Add (Value.str _ _) (Value.str _ _)) _ _ _); (refine' add_txt ?z_9 ?_; (case z_9 => walk_at "my size")); intro _ _)
  k_with "CallK" => (k_here; (guard_target = CallK _ _ (Value.ref 192) _ _ _ _); k_dflt (refine' use_ctrX (c_padded2 _ _ _ _ ?p0_9 ?p1_9) ?g9_9 ?n9_9 ?F9_9 ?N9_9 ?_; (case g9_9 => with_reducible assumption); (case n9_9 => exact rfl); (case F9_9 => k_asm); (case N9_9 => k_asm); (case p0_9 => first | with_reducible assumption | decide | l_fact); (case p1_9 => first | with_reducible assumption | decide | l_fact); k_whole); walk_at "uX")
  k_with "CallK" => (k_here; (guard_target = CallK _ _ (Value.ref 192) _ _ _ _); k_dflt (refine' use_ctrX (c_padded4 _ _ _ _ ?p0_9 ?p1_9) ?g9_9 ?n9_9 ?F9_9 ?N9_9 ?_; (case g9_9 => with_reducible assumption); (case n9_9 => exact rfl); (case F9_9 => k_asm); (case N9_9 => k_asm); (case p0_9 => first | with_reducible assumption | decide | l_fact); (case p1_9 => first | with_reducible assumption | decide | l_fact); k_whole); walk_at "uX")
  k_with "CallK" => (k_here; (guard_target = CallK _ _ (Value.ref 199) _ _ _ _); k_dflt (refine' use_ctrX (c_plain_year _ _ _ ?p0_9 ?p1_9) ?g9_9 ?n9_9 ?F9_9 ?N9_9 ?_; (case g9_9 => with_reducible assumption); (case n9_9 => exact rfl); (case F9_9 => k_asm); (case N9_9 => k_asm); (case p0_9 => first | with_reducible assumption | decide | l_fact); (case p1_9 => first | with_reducible assumption | decide | l_fact); k_whole); walk_at "uX")
  k_with "CallK" => (k_here; (guard_target = CallK _ _ (Value.ref 206) _ _ _ _); k_dflt (refine' use_ctrX (c_clock_text _ _ _ _ _ _ _ ?p0_9 ?p1_9 ?p2_9 ?p3_9 ?p4_9 ?p5_9) ?g9_9 ?n9_9 ?F9_9 ?N9_9 ?_; (case g9_9 => with_reducible assumption); (case n9_9 => exact rfl); (case F9_9 => k_asm); (case N9_9 => k_asm); (case p0_9 => first | with_reducible assumption | decide | l_fact); (case p1_9 => first | with_reducible assumption | decide | l_fact); (case p2_9 => first | with_reducible assumption | decide | l_fact); (case p3_9 => first | with_reducible assumption | decide | l_fact); (case p4_9 => first | with_reducible assumption | decide | l_fact); (case p5_9 => first | with_reducible assumption | decide | l_fact); k_whole); walk_at "uX")
  k_with "CallK" => (k_here; (guard_target = CallK _ _ (Value.ref 220) _ _ _ _); k_dflt (refine' use_ctrX (c_offset_text _ _ _ ?p0_9 ?p1_9) ?g9_9 ?n9_9 ?F9_9 ?N9_9 ?_; (case g9_9 => with_reducible assumption); (case n9_9 => exact rfl); (case F9_9 => k_asm); (case N9_9 => k_asm); (case p0_9 => first | with_reducible assumption | decide | l_fact); (case p1_9 => first | with_reducible assumption | decide | l_fact); k_whole); walk_at "uX")
  k_with "CallK" => (k_here; (guard_target = CallK _ _ (Value.ref 134) _ _ _ _); k_dflt (refine' use_fields (c_fields_of _ _ _ _ _ ?p0_9 ?p1_9) ?g9_9 ?n9_9 ?F9_9 ?N9_9 ?_; (case g9_9 => with_reducible assumption); (case n9_9 => exact rfl); (case F9_9 => k_asm); (case N9_9 => k_asm); (case p0_9 => assumption); (case p1_9 => assumption); k_whole); intro q9 t91 t92 t93 t94 t95 t96 t97 h9 tk9 F9 N9; (try dsimp only); (try k_sweep); (try k_fold))
  k_with "subscriptTail" => (k_here; (guard_target = wpAny _ _ (subscriptTail _ _ (Value.ref 185) (Value.int _ _)) _ _ _); k_dflt (refine' wd_item ?k1_9 ?k2_9 ?k3_9 ?k4_9 ?_ ?k5_9; (case k1_9 => k_asm); (case k2_9 => k_asm); (case k3_9 => assumption); (case k4_9 => assumption); (case k5_9 => with_unfolding_all rfl)); intro _)
  k_with "subscriptTail" => (k_here; (guard_target = wpAny _ _ (subscriptTail _ _ (Value.ref 184) (Value.int _ _)) _ _ _); k_dflt (refine' mo_item ?k1_9 ?k2_9 ?k3_9 ?k4_9 ?_ ?k5_9; (case k1_9 => k_asm); (case k2_9 => k_asm); (case k3_9 => assumption); (case k4_9 => assumption); (case k5_9 => with_unfolding_all rfl)); intro _)
  k_with "my size" => (simp only [Str.length_append, mk_len, figs_len, item_len, clockT, offT, dayT, lit0, lit1, lit2, lit3, lit4, lit5, lit6, lit7, lit8, lit9, lit10, lit11, lit12, lit13, lit14, lit15, lit16, lit17, lit18, lit19, lit20, lit21, lit22, lit23, lit24, lit25, lit26, lit27, lit28, lit29, lit30, lit31, lit32, lit33, lit34, lit35, lit36, lit37, lit38, lit39, lit40, lit41, lit42, lit43, lit44, lit45, lit46, lit47, lit48, lit49, lit50, lit51, lit52, lit53, List.length_append, List.length_cons, List.length_nil]; (try split); omega)
  k_with "CallK" => (k_here; (guard_target = CallK _ _ (Value.ref 213) _ _ _ _); k_dflt (refine' use_ctrX (c_day_text _ _ _ _ _ ?p0_9 ?p1_9 ?p2_9) ?g9_9 ?n9_9 ?F9_9 ?N9_9 ?_; (case g9_9 => with_reducible assumption); (case n9_9 => exact rfl); (case F9_9 => k_asm); (case N9_9 => k_asm); (case p0_9 => assumption); (case p1_9 => assumption); (case p2_9 => assumption); k_whole); walk_at "uX")
  k_with "my size" => (simp only [Str.length_append, mk_len, figs_len, item_len, clockT_len, offT_len, timeT_len, lit0, lit1, lit2, lit3, lit4, lit5, lit6, lit7, lit8, lit9, lit10, lit11, lit12, lit13, lit14, lit15, lit16, lit17, lit18, lit19, lit20, lit21, lit22, lit23, lit24, lit25, lit26, lit27, lit28, lit29, lit30, lit31, lit32, lit33, lit34, lit35, lit36, lit37, lit38, lit39, lit40, lit41, lit42, lit43, lit44, lit45, lit46, lit47, lit48, lit49, lit50, lit51, lit52, lit53, List.length_append, List.length_cons, List.length_nil]; omega)
  k_with "CallK" => (k_here; (guard_target = CallK _ _ (Value.ref 227) _ _ _ _); k_dflt (refine' use_ctrX (c_time_text _ _ _ _ _ _ _ ?p0_9 ?p1_9 ?p2_9 ?p3_9) ?g9_9 ?n9_9 ?F9_9 ?N9_9 ?_; (case g9_9 => with_reducible assumption); (case n9_9 => exact rfl); (case F9_9 => k_asm); (case N9_9 => k_asm); (case p0_9 => assumption); (case p1_9 => assumption); (case p2_9 => first | with_reducible assumption | decide | l_fact); (case p3_9 => first | with_reducible assumption | decide | l_fact); k_whole); walk_at "uX")
  k_with "CallK" => (k_here; (guard_target = CallK _ _ (Value.ref 234) _ _ _ _); k_dflt (refine' use_ctrX (c_whole_text _ _ _ _ _ _ _ ?p0_9 ?p1_9 ?p2_9 ?p3_9 ?p4_9) ?g9_9 ?n9_9 ?F9_9 ?N9_9 ?_; (case g9_9 => with_reducible assumption); (case n9_9 => exact rfl); (case F9_9 => k_asm); (case N9_9 => k_asm); (case p0_9 => assumption); (case p1_9 => assumption); (case p2_9 => assumption); (case p3_9 => first | with_reducible assumption | decide | l_fact); (case p4_9 => first | with_reducible assumption | decide | l_fact); k_whole); walk_at "uX")
  k_with "CallK" => (k_here; (guard_target = CallK _ _ (Value.ref 234) _ _ _ _); k_dflt (refine' use_ctrX (c_whole_none _ _ _) ?g9_9 ?n9_9 ?F9_9 ?N9_9 ?_; (case g9_9 => with_reducible assumption); (case n9_9 => exact rfl); (case F9_9 => k_asm); (case N9_9 => k_asm); k_whole); walk_at "uX")
  k_with "CallK" => (k_here; (guard_target = CallK _ _ (Value.ref 241) _ _ _ _); k_dflt (refine' use_ctrX (c_utc_text _ _ _ _ _ ?p0_9 ?p1_9 ?p2_9) ?g9_9 ?n9_9 ?F9_9 ?N9_9 ?_; (case g9_9 => with_reducible assumption); (case n9_9 => exact rfl); (case F9_9 => k_asm); (case N9_9 => k_asm); (case p0_9 => assumption); (case p1_9 => assumption); (case p2_9 => assumption); k_whole); walk_at "uX")
  k_with "CallK" => (k_here; (guard_target = CallK _ _ (Value.ref 241) _ _ _ _); k_dflt (refine' use_ctrX (c_utc_none _) ?g9_9 ?n9_9 ?F9_9 ?N9_9 ?_; (case g9_9 => with_reducible assumption); (case n9_9 => exact rfl); (case F9_9 => k_asm); (case N9_9 => k_asm); k_whole); walk_at "uX")
  k_with "uRX" => (intro t9 t29 h9 tk9 F9 N9; (try dsimp only); (try k_sweep); (try k_fold))
  k_with "uRV" => (intro t29 h9 tk9 F9 N9; (try dsimp only); (try k_sweep); (try k_fold))
  k_with "call builtin:len" => (k_here; (guard_target = wpAny _ _ (call (Value.builtin "len") [Value.str _ _]) _ _ _); k_dflt (refine' len_mk ?z_9 ?_; (case z_9 => first | omega | (simp only [List.length_take, List.length_drop]; omega))); intro _ _; (try dsimp only))
  k_with "subscriptTail Name Slice str ref" => (k_here; k_dflt (refine' slice_mk_rd (s := ⟨_, _, _, _, _⟩) ?k1_9 ?k2_9 ?k3_9 ?k4_9 ?_ ?k5_9 ?k6_9; (case k1_9 => k_asm); (case k2_9 => k_asm); (case k3_9 => omega); (case k4_9 => omega); (case k5_9 => with_unfolding_all rfl); (case k6_9 => intro _; with_unfolding_all rfl)); intro _ _ _ _ _; (try dsimp only); (try k_sweep))
  k_with "eval Call Attribute" => (k_here; (with_reducible refine' rd_call ?k1_9 ?k2_9 ?k3_9 ?k4_9 ?k5_9 ?k6_9 ?kf_9 ?kg_9 ?kh_9 ?ki_9 ?kj_9 ?kk_9 ?kl_9 ?km_9 ?kn_9 ?kp_9 ?_); k_dflt ((case kp_9 => exact rfl); (case kl_9 => exact rfl); (case km_9 => exact rfl); (case kn_9 => exact rfl); (case k1_9 => k_asm); (case k2_9 => k_asm); (case k3_9 => k_asm); (case k4_9 => exact rfl); (case k5_9 => k_mem); (case k6_9 => k_mem); (case kf_9 => k_is); (case kg_9 => k_is); (case kh_9 => k_is); (case ki_9 => k_get); (case kj_9 => k_is); (case kk_9 => exact rfl); k_whole))
  k_with "eval Call Attribute" => (k_here; walk_at "fold")
  k_with "rd" => first | with_reducible assumption | exact rd_perm1 (by with_reducible assumption) | exact rd_perm2 (by with_reducible assumption) | exact rd_perm3 (by with_reducible assumption) | exact rd_perm4 (by with_reducible assumption) | k_asm
  k_with "CallK" => (k_here; (guard_target = CallK _ _ (Value.ref 269) _ _ _ _); k_dflt (refine' use_ctrRV (c_has' _ _ _ _ _ _ ?p0_9 ?p1_9 ?p2_9) ?g9_9 ?n9_9 ?F9_9 ?R9_9 ?e9_9 ?x9_9 ?_; (case g9_9 => with_reducible assumption); (case n9_9 => exact rfl); (case F9_9 => k_asm); (case R9_9 => walk_at "rd"); (case e9_9 => walk_at "nall"); (case x9_9 => with_reducible assumption); (case p0_9 => first | exact Nat.le_trans (by with_reducible assumption) (by decide) | omega); (case p1_9 => with_reducible (first | exact lit1 | exact lit2 | exact lit4 | exact lit8 | exact lit5 | exact lit15 | exact lit6 | exact lit7 | exact lit3 | exact rfl)); (case p2_9 => (first | decide | omega)); k_whole); walk_at "uRV")
  k_with "CallK" => (k_here; (guard_target = CallK _ _ (Value.ref 248) _ _ _ _); k_dflt (refine' use_opt (c_nof _ _ _ ?p0_9) ?g9_9 ?n9_9 ?F9_9 ?N9_9 ?h8_9 ?h9_9; (case g9_9 => with_reducible assumption); (case n9_9 => exact rfl); (case F9_9 => k_asm); (case N9_9 => k_asm); (case p0_9 => (simp only [List.length_take]; omega)); k_whole); all_goals (intros; (try k_sweep)))
  k_with "CallK" => (k_here; (guard_target = CallK _ _ (Value.ref 276) _ _ _ _); k_dflt (refine' use_ctrRV (c_need _ _ _ _ _ _ ?p0_9 ?p1_9 ?p2_9) ?g9_9 ?n9_9 ?F9_9 ?R9_9 ?e9_9 ?x9_9 ?_; (case g9_9 => with_reducible assumption); (case n9_9 => exact rfl); (case F9_9 => k_asm); (case R9_9 => walk_at "rd"); (case e9_9 => walk_at "nall"); (case x9_9 => with_reducible assumption); (case p0_9 => first | exact Nat.le_trans (by with_reducible assumption) (by decide) | omega); (case p1_9 => with_reducible (first | exact lit1 | exact lit2 | exact lit4 | exact lit8 | exact lit5 | exact lit15 | exact lit6 | exact lit7 | exact lit3 | exact rfl)); (case p2_9 => (first | decide | omega)); k_whole); walk_at "uRV")
  k_with "CallK" => (k_here; (guard_target = CallK _ _ (Value.ref 283) _ _ _ _); k_dflt (refine' use_ctrRX (c_number _ _ _ _ _ _ _ _ _ ?p0_9 ?p1_9 ?p2_9) ?g9_9 ?n9_9 ?F9_9 ?R9_9 ?e9_9 ?x9_9 ?_; (case g9_9 => with_reducible assumption); (case n9_9 => exact rfl); (case F9_9 => k_asm); (case R9_9 => walk_at "rd"); (case e9_9 => walk_at "nall"); (case x9_9 => with_reducible assumption); (case p0_9 => first | exact Nat.le_trans (by with_reducible assumption) (by decide) | omega); (case p1_9 => (first | decide | omega)); (case p2_9 => (first | decide | omega)); k_whole); walk_at "uRX")
  k_with "CallK" => (k_here; (guard_target = CallK _ _ (Value.ref 283) _ _ _ _); k_dflt (refine' use_ctrRX (c_number6 _ _ _ _ _ _ _ _ ?p0_9) ?g9_9 ?n9_9 ?F9_9 ?R9_9 ?e9_9 ?x9_9 ?_; (case g9_9 => with_reducible assumption); (case n9_9 => exact rfl); (case F9_9 => k_asm); (case R9_9 => walk_at "rd"); (case e9_9 => walk_at "nall"); (case x9_9 => with_reducible assumption); (case p0_9 => first | exact Nat.le_trans (by with_reducible assumption) (by decide) | omega); k_whole); walk_at "uRX")
  k_with "CallK" => (k_here; (guard_target = CallK _ _ (Value.ref 283) _ _ _ _); k_dflt (refine' use_ctrRX (c_number4 _ _ _ _ _ _ _ _ ?p0_9) ?g9_9 ?n9_9 ?F9_9 ?R9_9 ?e9_9 ?x9_9 ?_; (case g9_9 => with_reducible assumption); (case n9_9 => exact rfl); (case F9_9 => k_asm); (case R9_9 => walk_at "rd"); (case e9_9 => walk_at "nall"); (case x9_9 => with_reducible assumption); (case p0_9 => first | exact Nat.le_trans (by with_reducible assumption) (by decide) | omega); k_whole); walk_at "uRX")
  k_with "CallK" => (k_here; (guard_target = CallK _ _ (Value.ref 283) _ _ _ _); k_dflt (refine' use_ctrRX (c_number3 _ _ _ _ _ _ _ _ ?p0_9) ?g9_9 ?n9_9 ?F9_9 ?R9_9 ?e9_9 ?x9_9 ?_; (case g9_9 => with_reducible assumption); (case n9_9 => exact rfl); (case F9_9 => k_asm); (case R9_9 => walk_at "rd"); (case e9_9 => walk_at "nall"); (case x9_9 => with_reducible assumption); (case p0_9 => first | exact Nat.le_trans (by with_reducible assumption) (by decide) | omega); k_whole); walk_at "uRX")
  k_with "CallK" => (k_here; (guard_target = CallK _ _ (Value.ref 283) _ _ _ _); k_dflt (refine' use_ctrRX (c_number2 _ _ _ _ _ _ _ _ ?p0_9) ?g9_9 ?n9_9 ?F9_9 ?R9_9 ?e9_9 ?x9_9 ?_; (case g9_9 => with_reducible assumption); (case n9_9 => exact rfl); (case F9_9 => k_asm); (case R9_9 => walk_at "rd"); (case e9_9 => walk_at "nall"); (case x9_9 => with_reducible assumption); (case p0_9 => first | exact Nat.le_trans (by with_reducible assumption) (by decide) | omega); k_whole); walk_at "uRX")
  k_with "CallK" => (k_here; (guard_target = CallK _ _ (Value.ref 297) _ _ _ _); k_dflt (refine' use_ctrRV (c_ends _ _ _ ?p0_9) ?g9_9 ?n9_9 ?F9_9 ?R9_9 ?e9_9 ?x9_9 ?_; (case g9_9 => with_reducible assumption); (case n9_9 => exact rfl); (case F9_9 => k_asm); (case R9_9 => walk_at "rd"); (case e9_9 => walk_at "nall"); (case x9_9 => with_reducible assumption); (case p0_9 => first | exact Nat.le_trans (by with_reducible assumption) (by decide) | omega); k_whole); walk_at "uRV")
  k_with "CallK" => (k_here; (guard_target = CallK _ _ (Value.ref 304) _ _ _ _); k_dflt (refine' use_ctrRX (c_year _ _ _ ?p0_9) ?g9_9 ?n9_9 ?F9_9 ?R9_9 ?e9_9 ?x9_9 ?_; (case g9_9 => with_reducible assumption); (case n9_9 => exact rfl); (case F9_9 => k_asm); (case R9_9 => walk_at "rd"); (case e9_9 => walk_at "nall"); (case x9_9 => with_reducible assumption); (case p0_9 => first | exact Nat.le_trans (by with_reducible assumption) (by decide) | omega); k_whole); walk_at "uRX")
  k_with "CallK" => (k_here; (guard_target = CallK _ _ (Value.ref 325) _ _ _ _); k_dflt (refine' use_ctrRX (c_zone _ _ _ _ ?p0_9) ?g9_9 ?n9_9 ?F9_9 ?R9_9 ?e9_9 ?x9_9 ?_; (case g9_9 => with_reducible assumption); (case n9_9 => exact rfl); (case F9_9 => k_asm); (case R9_9 => walk_at "rd"); (case e9_9 => walk_at "nall"); (case x9_9 => with_reducible assumption); (case p0_9 => first | exact Nat.le_trans (by with_reducible assumption) (by decide) | omega); k_whole); walk_at "uRX")
  k_with "CallK" => (k_here; (guard_target = CallK _ _ (Value.ref 318) _ _ _ _); k_dflt (refine' use_tup4 (c_clock _ _ _ ?p0_9) ?g9_9 ?n9_9 ?F9_9 ?R9_9 ?e9_9 ?x9_9 ?_; (case g9_9 => with_reducible assumption); (case n9_9 => exact rfl); (case F9_9 => k_asm); (case R9_9 => walk_at "rd"); (case e9_9 => walk_at "nall"); (case x9_9 => with_reducible assumption); (case p0_9 => first | exact Nat.le_trans (by with_reducible assumption) (by decide) | omega); k_whole); intro q9 u91 u92 u93 u94 t29 h9 tk9 F9 N9; (try dsimp only); (try k_sweep); (try k_fold))
  trivial
set_option maxRecDepth 100000
set_option maxHeartbeats 8000000

noncomputable def rdP (w : World) (l : List Nat) (r : Value) (add : List (Addr × Obj)) : Prop := ∃ x dx k1 k2 k3 t1 t2, r = .ref x ∧ add = [(x, instObj 328 dx), (dx, rdD w.params k1 k2 k3 t1 t2 (mk l) (rs0.p : Int) rs0.b)] ∧ dx < x
theorem c_reader (w : World) (l : List Nat) (t : Tok) (hl : l.length ≤ 1000) : CtrN w 328 2 [.str (mk l) t] (rdP w l) := by
  intro news A h₀ L mF hh gs9 d9 tk9 o9 Q E hP F N hret
  obtain ⟨mean, mg, mb, dp, un, gd, cn, cs, a, ccd, cl, outer, A₀, base, rfl, B, X, T, hk, hdp, hun⟩ := hP
  replace hret := fun r h' k' add hp F N => hret r h' k' _ ⟨add, hp, rfl⟩ F N
  k_dflt (refine' call_cls ?k1 ?k2 ?k3 ?k4 ?k5 ?k6 ?_; (case k1 => k_asm); (case k2 => k_asm); (case k3 => k_asm); (case k4 => k_is); (case k5 => k_is); (case k6 => k_is); k_whole; intro x' d' h' F' N' l1 l2; (try k_lt2 l2); (have hne : ∀ q ∈ news, q.1 ≠ d' := fun q hq => Nat.ne_of_lt (l1 q hq)); cell_enter)
  walk_at "steps"
  all_goals first | (exact hret _ _ _ _ ⟨_, _, _, _, _, _, _, rfl, rfl, l2⟩ (by k_asm) (by k_asm))
theorem use_reader {w : World} {f : Addr} {n k : Nat} {vs : List Value} {news : Led} {A : Around} {h₀ h : Heap} {L : Addr} {m : Str → Option Value} {g : Array GenState} {d : Drawn} {tk : Nat} {o : OsState} {Q E : Value → Shared → Prop} {l : List Nat} (C : CtrN w f n vs (rdP w l)) (G : Pl w k A h₀ L) (hn : Nat.ble n k = true) (F : Fr h₀ L h m) (N : News h₀ L h news)
    (hret : ∀ (x dx : Addr) (k1 k2 k3 t1 t2 : Tok) (h' : Heap) (tk' : Nat), (x : Nat) ≠ dx → Fr h₀ L h' m → News h₀ L h' ((x, instObj 328 dx) :: (dx, rdD w.params k1 k2 k3 t1 t2 (mk l) (rs0.p : Int) rs0.b) :: news) → Q (.ref x) ⟨h', g, d, tk', o⟩) : CallK w A (.ref f) vs Q E ⟨h, g, d, tk, o⟩ :=
  use_ctrN C G hn F N (fun r add h' tk' hp F' N' => by obtain ⟨x, dx, k1, k2, k3, t1, t2, rfl, rfl, hl⟩ := hp; exact hret x dx k1 k2 k3 t1 t2 h' tk' (Nat.ne_of_gt hl) F' N')
theorem ru_A8_1 : True := by
  k_with "CallK" => (k_here; (guard_target = CallK _ _ (Value.ref 328) _ _ _ _); k_dflt (refine' use_reader (c_reader _ _ _ ?p0_9) ?g9_9 ?n9_9 ?F9_9 ?N9_9 ?_; (case g9_9 => with_reducible assumption); (case n9_9 => exact rfl); (case F9_9 => k_asm); (case N9_9 => k_asm); (case p0_9 => first | exact Nat.le_trans (by with_reducible assumption) (by decide) | omega); k_whole); intro x9 d9 u91 u92 u93 u94 u95 h9 tk9 m9 F9 N9; (try dsimp only); (try k_sweep); (try k_fold))
  trivial
theorem c_iso_clock (w : World) (l : List Nat) (s : RS) (hl : l.length ≤ 1000) : CtrRN w 339 3 [] l s (icS l s) (tup4 (icH l s) (icM l s) (icC l s) (icL l s)) := by
  k_dflt (refine' ctrRN_enter (bs := fun x => [(Str.ofString "reader", .ref x)]) ?k6 ?k7 ?kb ?kB ?kr ?c2 ?c3 ?c4 ?c5 ?_; (case k6 => k_is); (case k7 => k_is); (case kb => exact fun _ => rfl); (case kB => exact fun _ => rfl); (case kr => exact fun _ => rfl); (case c2 => exact rfl); (case c3 => exact rfl); (case c4 => exact rfl); (case c5 => decide))
  intro x dx k1 k2 k3 t1 t2 hxd mean mg mb dp un gd outer A₀ base g' L' h9 gs9 d9 tk9 o9 Q
  intro A9 P9 u9 B' F9 X' N' T' hdp hun hret
  walk_at "steps"
  all_goals first
    | (have e := ic_a1 (l := l) (s := s) (by with_reducible assumption) (by with_reducible assumption) (by with_reducible assumption) (by with_reducible assumption); rw [e.1, e.2.1, e.2.2] at hret; exact hret _ _ _ _ _ _ ⟨_, _, _, _, rfl, rfl⟩ (by k_asm) (by first | with_reducible assumption | exact drop_news (by with_reducible assumption) (by first | with_reducible exact ktn_subA | repeat (first | with_reducible exact sub_refl | with_reducible refine sub_cons ?_ | with_reducible refine sub_skip ?_))))
    | (have e := ic_a2 (l := l) (s := s) (by with_reducible assumption) (by with_reducible assumption) (by with_reducible assumption) (by with_reducible assumption); rw [e.1, e.2.1, e.2.2] at hret; exact hret _ _ _ _ _ _ ⟨_, _, _, _, rfl, rfl⟩ (by k_asm) (by first | with_reducible assumption | exact drop_news (by with_reducible assumption) (by first | with_reducible exact ktn_subA | repeat (first | with_reducible exact sub_refl | with_reducible refine sub_cons ?_ | with_reducible refine sub_skip ?_))))
    | (have e := ic_a3 (l := l) (s := s) (by with_reducible assumption) (by with_reducible assumption) (by with_reducible assumption); rw [e.1, e.2.1, e.2.2] at hret; exact hret _ _ _ _ _ _ ⟨_, _, _, _, rfl, rfl⟩ (by k_asm) (by first | with_reducible assumption | exact drop_news (by with_reducible assumption) (by first | with_reducible exact ktn_subA | repeat (first | with_reducible exact sub_refl | with_reducible refine sub_cons ?_ | with_reducible refine sub_skip ?_))))
    | (have e := ic_b1 (l := l) (s := s) (by with_reducible assumption) (by with_reducible assumption) (by with_reducible assumption) (by with_reducible assumption); rw [e.1, e.2.1, e.2.2] at hret; exact hret _ _ _ _ _ _ ⟨_, _, _, _, rfl, rfl⟩ (by k_asm) (by first | with_reducible assumption | exact drop_news (by with_reducible assumption) (by first | with_reducible exact ktn_subA | repeat (first | with_reducible exact sub_refl | with_reducible refine sub_cons ?_ | with_reducible refine sub_skip ?_))))
    | (have e := ic_b2 (l := l) (s := s) (by with_reducible assumption) (by with_reducible assumption) (by with_reducible assumption) (by with_reducible assumption); rw [e.1, e.2.1, e.2.2] at hret; exact hret _ _ _ _ _ _ ⟨_, _, _, _, rfl, rfl⟩ (by k_asm) (by first | with_reducible assumption | exact drop_news (by with_reducible assumption) (by first | with_reducible exact ktn_subA | repeat (first | with_reducible exact sub_refl | with_reducible refine sub_cons ?_ | with_reducible refine sub_skip ?_))))
    | (have e := ic_b3 (l := l) (s := s) (by with_reducible assumption) (by with_reducible assumption) (by with_reducible assumption); rw [e.1, e.2.1, e.2.2] at hret; exact hret _ _ _ _ _ _ ⟨_, _, _, _, rfl, rfl⟩ (by k_asm) (by first | with_reducible assumption | exact drop_news (by with_reducible assumption) (by first | with_reducible exact ktn_subA | repeat (first | with_reducible exact sub_refl | with_reducible refine sub_cons ?_ | with_reducible refine sub_skip ?_))))
    | (have e := ic_c1 (l := l) (s := s) (by with_reducible assumption) (by with_reducible assumption) (by with_reducible assumption); rw [e.1, e.2.1, e.2.2] at hret; exact hret _ _ _ _ _ _ ⟨_, _, _, _, rfl, rfl⟩ (by k_asm) (by first | with_reducible assumption | exact drop_news (by with_reducible assumption) (by first | with_reducible exact ktn_subA | repeat (first | with_reducible exact sub_refl | with_reducible refine sub_cons ?_ | with_reducible refine sub_skip ?_))))
    | (have e := ic_c2 (l := l) (s := s) (by with_reducible assumption) (by with_reducible assumption) (by with_reducible assumption); rw [e.1, e.2.1, e.2.2] at hret; exact hret _ _ _ _ _ _ ⟨_, _, _, _, rfl, rfl⟩ (by k_asm) (by first | with_reducible assumption | exact drop_news (by with_reducible assumption) (by first | with_reducible exact ktn_subA | repeat (first | with_reducible exact sub_refl | with_reducible refine sub_cons ?_ | with_reducible refine sub_skip ?_))))
    | (have e := ic_c3 (l := l) (s := s) (by with_reducible assumption) (by with_reducible assumption); rw [e.1, e.2.1, e.2.2] at hret; exact hret _ _ _ _ _ _ ⟨_, _, _, _, rfl, rfl⟩ (by k_asm) (by first | with_reducible assumption | exact drop_news (by with_reducible assumption) (by first | with_reducible exact ktn_subA | repeat (first | with_reducible exact sub_refl | with_reducible refine sub_cons ?_ | with_reducible refine sub_skip ?_))))
theorem ru_A8_2 : True := by
  k_with "CallK" => (k_here; (guard_target = CallK _ _ (Value.ref 339) _ _ _ _); k_dflt (refine' use_tup4 (c_iso_clock _ _ _ ?p0_9) ?g9_9 ?n9_9 ?F9_9 ?R9_9 ?e9_9 ?x9_9 ?_; (case g9_9 => with_reducible assumption); (case n9_9 => exact rfl); (case F9_9 => k_asm); (case R9_9 => walk_at "rd"); (case e9_9 => walk_at "nall"); (case x9_9 => with_reducible assumption); (case p0_9 => first | exact Nat.le_trans (by with_reducible assumption) (by decide) | omega); k_whole); intro q9 u91 u92 u93 u94 t29 h9 tk9 F9 N9; (try dsimp only); (try k_sweep); (try k_fold))
  trivial
end

section -- T3
theorem rst_T3 : True := by
  w_top off
  trivial
open PySem PySem.W PySem.Calls PyProof.Rows
theorem numV_lo (l : List Nat) (s : RS) (k : Nat) {lo hi : Int} (h : lo ≤ hi) : lo ≤ numV l s k lo hi ∧ numV l s k lo hi ≤ hi := by
  unfold numV
  by_cases q : numOk l s k lo hi = true
  · rw [if_pos q]
    unfold numOk at q
    cases e : nofF (cut l s k) with
    | none => rw [e] at q; simp at q
    | some f => rw [e] at q; simp at q; simpa using q.2
  · rw [if_neg q]; exact ⟨Int.le_refl _, h⟩
theorem mo_b0 {l : List Nat} {s : RS} {k : Nat} : 0 ≤ numV l s k 1 12 - 1 := by have := (numV_lo l s k (lo := 1) (hi := 12) (by decide)).1; (first | lia | omega)
theorem mo_b1 {l : List Nat} {s : RS} {k : Nat} : numV l s k 1 12 - 1 ≤ 11 := by have := (numV_lo l s k (lo := 1) (hi := 12) (by decide)).2; (first | lia | omega)
noncomputable def tof (y i d h m s ms : Int) : Int := mkDay y i d * 86400000 + (h * 3600000 + m * 60000 + s * 1000 + ms)
/-- parse_iso: the day part -/
noncomputable def piS1 (l : List Nat) : RS := yearS l rs0
noncomputable def piS2 (l : List Nat) : RS := numS l (hasS l (piS1 l) [45]) 2 1 12
noncomputable def piMo (l : List Nat) : Int := if hasB l (piS1 l) [45] = true then numV l (hasS l (piS1 l) [45]) 2 1 12 else 1
noncomputable def piDa (l : List Nat) : Int := if hasB l (piS1 l) [45] = true then (if hasB l (piS2 l) [45] = true then numV l (hasS l (piS2 l) [45]) 2 1 (daysOf (yearV l rs0) (numV l (hasS l (piS1 l) [45]) 2 1 12 - 1)) else 1) else 1
noncomputable def piS3 (l : List Nat) : RS := if hasB l (piS1 l) [45] = true then (if hasB l (piS2 l) [45] = true then numS l (hasS l (piS2 l) [45]) 2 1 (daysOf (yearV l rs0) (numV l (hasS l (piS1 l) [45]) 2 1 12 - 1)) else hasS l (piS2 l) [45]) else hasS l (piS1 l) [45]
/-- its clock part, from a place on -/
noncomputable def piT (l : List Nat) (s : RS) : RS := icS l (hasS l s [84])
noncomputable def piZ (l : List Nat) (s : RS) : RS := hasS l (piT l s) [90]
noncomputable def piO (l : List Nat) (s : RS) : Int := if hasB l s [84] = true then (if hasB l (piT l s) [90] = true then 0 else if (piZ l s).p < l.length then znV l (piZ l s) true else 0) else 0
noncomputable def piE (l : List Nat) (s : RS) : RS := if hasB l s [84] = true then (if hasB l (piT l s) [90] = true then piZ l s else if (piZ l s).p < l.length then znS l (piZ l s) true else piZ l s) else hasS l s [84]
noncomputable def piH (l : List Nat) (s : RS) : Int := if hasB l s [84] = true then icH l (hasS l s [84]) else 0
noncomputable def piM (l : List Nat) (s : RS) : Int := if hasB l s [84] = true then icM l (hasS l s [84]) else 0
noncomputable def piC (l : List Nat) (s : RS) : Int := if hasB l s [84] = true then icC l (hasS l s [84]) else 0
noncomputable def piL (l : List Nat) (s : RS) : Int := if hasB l s [84] = true then icL l (hasS l s [84]) else 0
noncomputable def piEnd (l : List Nat) (s : RS) (y mo da : Int) : Option Int := if endsB l (piE l s) = true then clipF (tof y (mo - 1) da (piH l s) (piM l s) (piC l s) (piL l s) - piO l s * 60000) else none
noncomputable def parseIso (l : List Nat) : Option Int := piEnd l (piS3 l) (yearV l rs0) (piMo l) (piDa l)
noncomputable abbrev sA (l : List Nat) : RS := numS l (hasS l (yearS l rs0) [45]) 2 1 12
noncomputable abbrev moA (l : List Nat) : Int := numV l (hasS l (yearS l rs0) [45]) 2 1 12
noncomputable abbrev sB (l : List Nat) : RS := numS l (hasS l (sA l) [45]) 2 1 (daysOf (yearV l rs0) (moA l - 1))
noncomputable abbrev daB (l : List Nat) : Int := numV l (hasS l (sA l) [45]) 2 1 (daysOf (yearV l rs0) (moA l - 1))
section
variable {l : List Nat} {s : RS} {y mo da : Int}
theorem pi_A (h1 : hasB l (yearS l rs0) [45] = true) (h2 : hasB l (sA l) [45] = true) : parseIso l = piEnd l (sB l) (yearV l rs0) (moA l) (daB l) := by
  have h2' : hasB l (piS2 l) [45] = true := h2
  simp only [parseIso, piS3, piMo, piDa, piS1, h1, h2', if_true]; rfl
theorem pi_C (h1 : hasB l (yearS l rs0) [45] = true) (h2 : hasB l (sA l) [45] = false) : parseIso l = piEnd l (hasS l (sA l) [45]) (yearV l rs0) (moA l) 1 := by
  have h2' : hasB l (piS2 l) [45] = false := h2
  simp only [parseIso, piS3, piMo, piDa, piS1, h1, h2', if_true, Bool.false_eq_true, if_false]; rfl
theorem pi_D (h1 : hasB l (yearS l rs0) [45] = false) : parseIso l = piEnd l (hasS l (yearS l rs0) [45]) (yearV l rs0) 1 1 := by
  simp only [parseIso, piS3, piMo, piDa, piS1, h1, Bool.false_eq_true, if_false]
noncomputable abbrev icAt (l : List Nat) (s : RS) : RS := hasS l s [84]
noncomputable abbrev tofT (l : List Nat) (s : RS) (y mo da : Int) : Int := tof y (mo - 1) da (icH l (icAt l s)) (icM l (icAt l s)) (icC l (icAt l s)) (icL l (icAt l s))
theorem pe_1 (h3 : hasB l s [84] = true) (hz : hasB l (icS l (icAt l s)) [90] = true) (he : endsB l (hasS l (icS l (icAt l s)) [90]) = true) : piEnd l s y mo da = clipF (tofT l s y mo da - 0 * 60000) := by
  have e : piE l s = hasS l (icS l (icAt l s)) [90] := by simp only [piE, piZ, piT, h3, hz, if_true]
  simp only [piEnd, e, he, piO, piH, piM, piC, piL, piT, h3, hz, if_true]
theorem pe_2 (h3 : hasB l s [84] = true) (hz : hasB l (icS l (icAt l s)) [90] = true) (he : endsB l (hasS l (icS l (icAt l s)) [90]) = false) : piEnd l s y mo da = none := by
  have e : piE l s = hasS l (icS l (icAt l s)) [90] := by simp only [piE, piZ, piT, h3, hz, if_true]
  simp only [piEnd, e, he, Bool.false_eq_true, if_false]
theorem lt_of_cast {a b : Nat} (h : (a : Int) < (b : Int)) : a < b := by (first | lia | omega)
theorem pe_3 (h3 : hasB l s [84] = true) (hz : hasB l (icS l (icAt l s)) [90] = false) (hl : ((hasS l (icS l (icAt l s)) [90]).p : Int) < (l.length : Int)) (he : endsB l (znS l (hasS l (icS l (icAt l s)) [90]) true) = true) :
    piEnd l s y mo da = clipF (tofT l s y mo da - znV l (hasS l (icS l (icAt l s)) [90]) true * 60000) := by
  have hl' := lt_of_cast hl
  have e : piE l s = znS l (hasS l (icS l (icAt l s)) [90]) true := by simp only [piE, piZ, piT, h3, hz, hl', if_true, Bool.false_eq_true, if_false]
  simp only [piEnd, e, he, piO, piH, piM, piC, piL, piT, piZ, h3, hz, hl', if_true, Bool.false_eq_true, if_false]
theorem pe_4 (h3 : hasB l s [84] = true) (hz : hasB l (icS l (icAt l s)) [90] = false) (hl : ((hasS l (icS l (icAt l s)) [90]).p : Int) < (l.length : Int)) (he : endsB l (znS l (hasS l (icS l (icAt l s)) [90]) true) = false) : piEnd l s y mo da = none := by
  have hl' := lt_of_cast hl
  have e : piE l s = znS l (hasS l (icS l (icAt l s)) [90]) true := by simp only [piE, piZ, piT, h3, hz, hl', if_true, Bool.false_eq_true, if_false]
  simp only [piEnd, e, he, Bool.false_eq_true, if_false]
theorem pe_5 (h3 : hasB l s [84] = true) (hz : hasB l (icS l (icAt l s)) [90] = false) (hl : ¬ ((hasS l (icS l (icAt l s)) [90]).p : Int) < (l.length : Int)) (he : endsB l (hasS l (icS l (icAt l s)) [90]) = true) :
    piEnd l s y mo da = clipF (tofT l s y mo da - 0 * 60000) := by
  have hl' : ¬ (hasS l (icS l (icAt l s)) [90]).p < l.length := by (first | lia | omega)
  have e : piE l s = hasS l (icS l (icAt l s)) [90] := by simp only [piE, piZ, piT, h3, hz, hl', if_true, Bool.false_eq_true, if_false]
  simp only [piEnd, e, he, piO, piH, piM, piC, piL, piT, piZ, h3, hz, hl', if_true, Bool.false_eq_true, if_false]
theorem pe_6 (h3 : hasB l s [84] = true) (hz : hasB l (icS l (icAt l s)) [90] = false) (hl : ¬ ((hasS l (icS l (icAt l s)) [90]).p : Int) < (l.length : Int)) (he : endsB l (hasS l (icS l (icAt l s)) [90]) = false) : piEnd l s y mo da = none := by
  have hl' : ¬ (hasS l (icS l (icAt l s)) [90]).p < l.length := by (first | lia | omega)
  have e : piE l s = hasS l (icS l (icAt l s)) [90] := by simp only [piE, piZ, piT, h3, hz, hl', if_true, Bool.false_eq_true, if_false]
  simp only [piEnd, e, he, Bool.false_eq_true, if_false]
theorem pe_7 (h3 : hasB l s [84] = false) (he : endsB l (hasS l s [84]) = true) : piEnd l s y mo da = clipF (tof y (mo - 1) da 0 0 0 0 - 0 * 60000) := by
  have e : piE l s = hasS l s [84] := by simp only [piE, h3, Bool.false_eq_true, if_false]
  simp only [piEnd, e, he, piO, piH, piM, piC, piL, h3, if_true, Bool.false_eq_true, if_false]
theorem pe_8 (h3 : hasB l s [84] = false) (he : endsB l (hasS l s [84]) = false) : piEnd l s y mo da = none := by
  have e : piE l s = hasS l s [84] := by simp only [piE, h3, Bool.false_eq_true, if_false]
  simp only [piEnd, e, he, Bool.false_eq_true, if_false]
end
/-- the texts for which the walk of parse_iso is shown -/
noncomputable def isoK (l : List Nat) : Prop :=
  (hasB l (yearS l rs0) [45] = true ∧ hasB l (sA l) [45] = true ∧ hasB l (sB l) [84] = true) ∨ (hasB l (yearS l rs0) [45] = true ∧ hasB l (sA l) [45] = true ∧ hasB l (sB l) [84] = false) ∨
  (hasB l (yearS l rs0) [45] = true ∧ hasB l (sA l) [45] = false ∧ hasB l (hasS l (sA l) [45]) [84] = false) ∨ (hasB l (yearS l rs0) [45] = false ∧ hasB l (hasS l (yearS l rs0) [45]) [84] = false)
end

section -- A9
theorem rst_A9 : True := by
  w_top off
  trivial
open PySem PySem.W PySem.Calls PyProof.Rows
theorem ru_A9_0 : True := by
  k_with_none
  k_with "steps" => (repeat' (first | k_unfold | (k_end; kc_close) | walk1 | (dsimp only; walk1) | (leave1; (try dsimp only)) | fail "no step"))
  k_with "eval Constant int" => (k_here; (with_reducible refine ct9 ?_); intro _ _)
  k_with "eval Constant str" => (k_here; (with_reducible refine cs9 ?_); intro _ _)
  k_with "binaryOp Add int int" => (k_here; (with_reducible refine ar_add ?_); intro _ _)
  k_with "binaryOp Sub int int" => (k_here; (with_reducible refine ar_sub ?_); intro _ _)
  k_with "binaryOp Mult int int" => (k_here; (with_reducible refine' ar_mul ?_ ?m9_9); k_dflt (case m9_9 => mul_fits); intro _ _)
  k_with "binaryOp FloorDiv int int" => (k_here; (with_reducible refine' ar_div ?b9_9 ?_ ?p9_9); k_dflt (case b9_9 => decide); k_dflt (case p9_9 => first | exact PyProof.noPylong_of_log2 (by decide +kernel) | exact PyProof.noPylong_small (by omega)); intro _ _)
  k_with "binaryOp Mod int int" => (k_here; (with_reducible refine ar_mod ?b9_9 ?_); (case b9_9 => first | decide | omega | assumption); intro _ _)
  k_with "inplaceOp Add int int" => (k_here; (with_reducible refine ar_iadd ?_); intro _ _)
  k_with "storeName" => (k_here; k_dflt (refine' st9 ?F_9 ?N_9 ?_ ?a_9 ?b_9; (case F_9 => with_reducible assumption); (case N_9 => with_reducible assumption); (case a_9 => exact rfl); (case b_9 => exact rfl); k_whole); intro h9 k9 F9 N9; (try k_sweep))
  k_with "newTuple" => (k_here; kup_bare; k_dflt (refine' nt9 ?F_9 ?N_9 ?_ ?z_9; (case F_9 => with_reducible assumption); (case N_9 => with_reducible assumption); (case z_9 => kmk_size)); intro D9 h9 F9 N9; (try k_sweep))
  k_with "eval Tuple" => (k_here; k_whole; (with_reducible refine tk_go ?h9_9 ?_); k_dflt (case h9_9 => exact rfl))
  k_with "eval Tuple" => (k_here; walk_at "fold")
  k_with "TupK" => (k_here; (with_reducible refine tk_e ?_))
  k_with "TupK" => (k_here; (with_reducible refine' tk_n ?k1_9 ?k2_9 ?k3_9 ?k4_9 ?k5_9 ?_); k_dflt ((case k3_9 => exact rfl); (case k4_9 => exact rfl); (case k1_9 => k_asm); (case k2_9 => exact rfl); (case k5_9 => exact rfl); k_whole))
  k_with "TupK" => (k_here; (with_reducible refine tk_i ?_); intro _ _)
  k_with "TupK" => (k_here; (first | with_reducible refine tk_2 ?_ | with_reducible refine tk_3 ?_ | with_reducible refine tk_4 ?_ | with_reducible refine tk_5 ?_ | with_reducible refine tk_6 ?_))
  k_with "uX" => (intro t9 h9 tk9 F9 N9; (try dsimp only); (try k_sweep); (try k_fold))
  k_with "uV" => (intro h9 tk9 F9 N9; (try dsimp only); (try k_sweep); (try k_fold))
  k_with "callWith ref" => (k_here; k_dflt (first | (refine' cw_K0 ?k1_9 ?k2_9 ?_; (case k1_9 => k_is); (case k2_9 => exact rfl); k_whole) | (refine' cw_K1 ?k1_9 ?k2_9 ?_; (case k1_9 => k_is); (case k2_9 => exact rfl); k_whole)))
  k_with "eval Call" => (k_here; (with_reducible refine' cg_K ?k1_9 ?k2_9 ?k3_9 ?k4_9 ?k5_9 ?k6_9 ?k7_9 ?k8_9 ?k9_9 ?_); k_dflt ((case k7_9 => exact rfl); (case k8_9 => exact rfl); (case k9_9 => exact rfl); (case k1_9 => k_asm); (case k2_9 => k_asm); (case k3_9 => k_asm); (case k4_9 => k_is); (case k5_9 => exact rfl); (case k6_9 => k_is); k_whole))
  k_with "eval Name" => (k_here; k_dflt (refine' nm9 ?k1_9 ?k2_9 ?k3_9 ?k4_9 ?k5_9 ?_; (case k4_9 => exact rfl); (case k3_9 => exact rfl); (case k1_9 => k_asm); (case k2_9 => exact rfl); (case k5_9 => exact rfl); k_whole))
  k_with "fold" => (k_whole; (fail_if_success (fail_if_success k_fold)); refine fold9 ?_; intro qk)
  k_with "eval Call" => (k_here; walk_at "fold")
  k_with "eval BinOp" => (k_here; walk_at "fold")
  k_with "ArgK" => (k_here; (with_reducible refine ak_e ?_))
  k_with "ArgK" => (k_here; (with_reducible refine' ak_n ?k1_9 ?k2_9 ?k3_9 ?k4_9 ?k5_9 ?_); k_dflt ((case k3_9 => exact rfl); (case k4_9 => exact rfl); (case k1_9 => k_asm); (case k2_9 => exact rfl); (case k5_9 => exact rfl); k_whole))
  k_with "ArgK" => (k_here; (first | with_reducible refine ak_i ?_ | with_reducible refine ak_s ?_); intro _ _)
  k_with "ArgK" => (k_here; (first | with_reducible refine ak_1 ?_ | with_reducible refine ak_2 ?_ | with_reducible refine ak_3 ?_ | with_reducible refine ak_4 ?_ | with_reducible refine ak_0 ?_))
  k_with "ne" => first | with_reducible assumption | exact ne_news (by with_reducible assumption) (by k_mem) (by k_mem) rfl | k_ne
  k_with "upd" => first | (refine' Upd.head ?a_9; (case a_9 => walk_at "nall")) | (refine' Upd.tail ?a_9 ?b_9; (case a_9 => walk_at "ne"); (case b_9 => walk_at "upd"))
  k_with "setAttr ref" => (k_here; k_dflt (refine' set_dict ?k1_9 ?k2_9 ?k3_9 ?k4_9 ?k5_9 ?k6_9 ?k7_9 ?k8_9 ?k9_9 ?k10_9 ?k11_9 ?k12_9 ?k13_9 ?_; (case k1_9 => k_asm); (case k2_9 => k_asm); (case k3_9 => k_asm); (case k4_9 => k_inst); (case k5_9 => exact rfl); (case k6_9 => k_is); (case k7_9 => k_is); (case k8_9 => k_is); (case k9_9 => k_is); (case k10_9 => k_get); (case k11_9 => k_put); (case k12_9 => walk_at "upd"); (case k13_9 => exact Nat.le_of_ble_eq_true rfl); k_whole); intro h' F' N'; (try k_sweep))
  k_with "nall" => first | exact List.forall_mem_nil _ | (refine' List.forall_mem_cons.mpr ⟨?a_9, ?b_9⟩; (case a_9 => walk_at "ne"); (case b_9 => walk_at "nall"))
  k_with "execs cons" => (k_here; (with_reducible refine gen_toks ?_); intro _)
  k_with "execs nil" => (k_here; (with_reducible refine gen_toks ?_); intro _)
  k_with "end eq" => (law_clear; (try simp only [decide_eq_true_eq, decide_eq_false_iff_not, ne_eq, Bool.not_eq_true, Bool.not_eq_false, bne_iff_ne, beq_iff_eq] at *); first | rfl | omega | (simp_all; done) | (simp_all; rfl) | ((simp_all); omega))
  k_with "CallK" => (k_here; (guard_target = CallK _ _ (Value.ref 22) _ _ _ _); k_dflt (refine' use_ctrX (c_day_of _ _ _) ?g9_9 ?n9_9 ?F9_9 ?N9_9 ?_; (case g9_9 => with_reducible assumption); (case n9_9 => exact rfl); (case F9_9 => k_asm); (case N9_9 => k_asm); k_whole); walk_at "uX")
  k_with "CallK" => (k_here; (guard_target = CallK _ _ (Value.ref 29) _ _ _ _); k_dflt (refine' use_ctrX (c_time_in_day _ _ _) ?g9_9 ?n9_9 ?F9_9 ?N9_9 ?_; (case g9_9 => with_reducible assumption); (case n9_9 => exact rfl); (case F9_9 => k_asm); (case N9_9 => k_asm); k_whole); walk_at "uX")
  k_with "CallK" => (k_here; (guard_target = CallK _ _ (Value.ref 36) _ _ _ _); k_dflt (refine' use_ctrV (c_leap _ _ _) ?g9_9 ?n9_9 ?F9_9 ?N9_9 ?_; (case g9_9 => with_reducible assumption); (case n9_9 => exact rfl); (case F9_9 => k_asm); (case N9_9 => k_asm); k_whole); walk_at "uV")
  k_with "CallK" => (k_here; (guard_target = CallK _ _ (Value.ref 43) _ _ _ _); k_dflt (refine' use_ctrX (c_dfy _ _ _) ?g9_9 ?n9_9 ?F9_9 ?N9_9 ?_; (case g9_9 => with_reducible assumption); (case n9_9 => exact rfl); (case F9_9 => k_asm); (case N9_9 => k_asm); k_whole); walk_at "uX")
  k_with "CallK" => (k_here; (guard_target = CallK _ _ (Value.ref 71) _ _ _ _); k_dflt (refine' use_ctrX (c_days_ahead _ _ _ _ ?p0_9 ?p1_9) ?g9_9 ?n9_9 ?F9_9 ?N9_9 ?_; (case g9_9 => with_reducible assumption); (case n9_9 => exact rfl); (case F9_9 => k_asm); (case N9_9 => k_asm); (case p0_9 => first | with_reducible assumption | decide | l_fact); (case p1_9 => first | with_reducible assumption | decide | l_fact); k_whole); walk_at "uX")
  k_with "CallK" => (k_here; (guard_target = CallK _ _ (Value.ref 50) _ _ _ _); k_dflt (refine' use_ctrX (c_year_of_day _ _ _ _ ?p0_9 ?p1_9) ?g9_9 ?n9_9 ?F9_9 ?N9_9 ?_; (case g9_9 => with_reducible assumption); (case n9_9 => exact rfl); (case F9_9 => k_asm); (case N9_9 => k_asm); (case p0_9 => assumption); (case p1_9 => assumption); k_whole); walk_at "uX")
  k_with "CallK" => (k_here; (guard_target = CallK _ _ (Value.ref 78) _ _ _ _); k_dflt (refine' use_ctrX (c_days_of_month _ _ _ _ _ ?p0_9 ?p1_9) ?g9_9 ?n9_9 ?F9_9 ?N9_9 ?_; (case g9_9 => with_reducible assumption); (case n9_9 => exact rfl); (case F9_9 => k_asm); (case N9_9 => k_asm); (case p0_9 => first | with_reducible assumption | decide | l_fact); (case p1_9 => first | with_reducible assumption | decide | l_fact); k_whole); walk_at "uX")
  k_with "CallK" => (k_here; (guard_target = CallK _ _ (Value.ref 57) _ _ _ _); k_dflt (refine' use_ctrX (c_year_of _ _ _ _ ?p0_9) ?g9_9 ?n9_9 ?F9_9 ?N9_9 ?_; (case g9_9 => with_reducible assumption); (case n9_9 => exact rfl); (case F9_9 => k_asm); (case N9_9 => k_asm); (case p0_9 => assumption); k_whole); walk_at "uX")
  k_with "CallK" => (k_here; (guard_target = CallK _ _ (Value.ref 64) _ _ _ _); k_dflt (refine' use_ctrX (c_day_in_year _ _ _ _ ?p0_9) ?g9_9 ?n9_9 ?F9_9 ?N9_9 ?_; (case g9_9 => with_reducible assumption); (case n9_9 => exact rfl); (case F9_9 => k_asm); (case N9_9 => k_asm); (case p0_9 => assumption); k_whole); walk_at "uX")
  k_with "CallK" => (k_here; (guard_target = CallK _ _ (Value.ref 85) _ _ _ _); k_dflt (refine' use_ctrX (c_month_of _ _ _ _ _ ?p0_9 ?p1_9) ?g9_9 ?n9_9 ?F9_9 ?N9_9 ?_; (case g9_9 => with_reducible assumption); (case n9_9 => exact rfl); (case F9_9 => k_asm); (case N9_9 => k_asm); (case p0_9 => assumption); (case p1_9 => assumption); k_whole); walk_at "uX")
  k_with "CallK" => (k_here; (guard_target = CallK _ _ (Value.ref 92) _ _ _ _); k_dflt (refine' use_ctrX (c_date_of _ _ _ _ _ ?p0_9 ?p1_9) ?g9_9 ?n9_9 ?F9_9 ?N9_9 ?_; (case g9_9 => with_reducible assumption); (case n9_9 => exact rfl); (case F9_9 => k_asm); (case N9_9 => k_asm); (case p0_9 => assumption); (case p1_9 => assumption); k_whole); walk_at "uX")
  k_with "CallK" => (k_here; (guard_target = CallK _ _ (Value.ref 99) _ _ _ _); k_dflt (refine' use_ctrX (c_week_day_of _ _ _) ?g9_9 ?n9_9 ?F9_9 ?N9_9 ?_; (case g9_9 => with_reducible assumption); (case n9_9 => exact rfl); (case F9_9 => k_asm); (case N9_9 => k_asm); k_whole); walk_at "uX")
  k_with "CallK" => (k_here; (guard_target = CallK _ _ (Value.ref 106) _ _ _ _); k_dflt (refine' use_ctrX (c_hour_of _ _ _) ?g9_9 ?n9_9 ?F9_9 ?N9_9 ?_; (case g9_9 => with_reducible assumption); (case n9_9 => exact rfl); (case F9_9 => k_asm); (case N9_9 => k_asm); k_whole); walk_at "uX")
  k_with "CallK" => (k_here; (guard_target = CallK _ _ (Value.ref 113) _ _ _ _); k_dflt (refine' use_ctrX (c_minute_of _ _ _) ?g9_9 ?n9_9 ?F9_9 ?N9_9 ?_; (case g9_9 => with_reducible assumption); (case n9_9 => exact rfl); (case F9_9 => k_asm); (case N9_9 => k_asm); k_whole); walk_at "uX")
  k_with "CallK" => (k_here; (guard_target = CallK _ _ (Value.ref 120) _ _ _ _); k_dflt (refine' use_ctrX (c_second_of _ _ _) ?g9_9 ?n9_9 ?F9_9 ?N9_9 ?_; (case g9_9 => with_reducible assumption); (case n9_9 => exact rfl); (case F9_9 => k_asm); (case N9_9 => k_asm); k_whole); walk_at "uX")
  k_with "CallK" => (k_here; (guard_target = CallK _ _ (Value.ref 127) _ _ _ _); k_dflt (refine' use_ctrX (c_ms_of _ _ _) ?g9_9 ?n9_9 ?F9_9 ?N9_9 ?_; (case g9_9 => with_reducible assumption); (case n9_9 => exact rfl); (case F9_9 => k_asm); (case N9_9 => k_asm); k_whole); walk_at "uX")
  k_with "compareOp In" => (k_here; (guard_target = wpAny _ _ (compareOp CmpOp.In Value.none (Value.ref _)) _ _ _); k_dflt (first | (refine' none_in4 ?N_9 ?a_9 ?n_9 ?_; (case N_9 => k_asm); (case a_9 => k_mem); (case n_9 => first | with_reducible assumption | ktr_units); k_whole) | (refine' none_in3 ?N_9 ?a_9 ?n_9 ?_; (case N_9 => k_asm); (case a_9 => k_mem); (case n_9 => first | with_reducible assumption | ktr_units); k_whole)); (try dsimp only))
  k_with "CallK" => (k_here; (guard_target = CallK _ _ (Value.ref 141) _ _ _ _); k_dflt (refine' use_ctrX (c_make_time _ _ _ _ _ _ _ _ _) ?g9_9 ?n9_9 ?F9_9 ?N9_9 ?_; (case g9_9 => with_reducible assumption); (case n9_9 => exact rfl); (case F9_9 => k_asm); (case N9_9 => k_asm); k_whole); walk_at "uX")
  k_with "CallK" => (k_here; (guard_target = CallK _ _ (Value.ref 148) _ _ _ _); k_dflt (refine' use_ctrX (c_make_day _ _ _ _ _ _ _) ?g9_9 ?n9_9 ?F9_9 ?N9_9 ?_; (case g9_9 => with_reducible assumption); (case n9_9 => exact rfl); (case F9_9 => k_asm); (case N9_9 => k_asm); k_whole); walk_at "uX")
  k_with "CallK" => (k_here; (guard_target = CallK _ _ (Value.ref 155) _ _ _ _); k_dflt (refine' use_ctrX (c_make_date _ _ _ _ _) ?g9_9 ?n9_9 ?F9_9 ?N9_9 ?_; (case g9_9 => with_reducible assumption); (case n9_9 => exact rfl); (case F9_9 => k_asm); (case N9_9 => k_asm); k_whole); walk_at "uX")
  k_with "CallK" => (k_here; (guard_target = CallK _ _ (Value.ref 176) _ _ _ _); k_dflt (refine' use_ctrX (c_local_of _ _ _ _ _) ?g9_9 ?n9_9 ?F9_9 ?N9_9 ?_; (case g9_9 => with_reducible assumption); (case n9_9 => exact rfl); (case F9_9 => k_asm); (case N9_9 => k_asm); k_whole); walk_at "uX")
  k_with "CallK" => (k_here; (guard_target = CallK _ _ (Value.ref 183) _ _ _ _); k_dflt (refine' use_ctrX (c_utc_of _ _ _ _ _) ?g9_9 ?n9_9 ?F9_9 ?N9_9 ?_; (case g9_9 => with_reducible assumption); (case n9_9 => exact rfl); (case F9_9 => k_asm); (case N9_9 => k_asm); k_whole); walk_at "uX")
  k_with "CallK" => (k_here; (guard_target = CallK _ _ (Value.ref 162) _ _ _ _); k_dflt (refine' use_ctr (c_time_clip _ _ _) ?g9_9 ?n9_9 ?F9_9 ?N9_9 ?_; (case g9_9 => with_reducible assumption); (case n9_9 => exact rfl); (case F9_9 => k_asm); (case N9_9 => k_asm); k_whole); intro r9 h9 tk9 hP9 F9 N9; (try dsimp only); (try k_sweep); (try k_fold))
  k_with "my size" => (simp only [Str.length_append, mk_len, figs_len, item_len, lit0, lit1, lit2, lit3, lit4, lit5, lit6, lit7, lit8, lit9, lit10, lit11, lit12, lit13, lit14, lit15, lit16, lit17, lit18, lit19, lit20, lit21, lit22, lit23, lit24, lit25, lit26, lit27, lit28, lit29, lit30, lit31, lit32, lit33, lit34, lit35, lit36, lit37, lit38, lit39, lit40, lit41, lit42, lit43, lit44, lit45, lit46, lit47, lit48, lit49, lit50, lit51, lit52, lit53, List.length_append, List.length_cons, List.length_nil]; omega)
  k_with "binaryOp Add str str" => (k_here; (guard_target = wpAny _ _ (binaryOp Operator.Add (Value.str _ _) (Value.str _ _)) _ _ _); (refine' add_txt ?z_9 ?_; (case z_9 => walk_at "my size")); intro _ _)
  k_with "CallK" => (k_here; (guard_target = CallK _ _ (Value.ref 192) _ _ _ _); k_dflt (refine' use_ctrX (c_padded2 _ _ _ _ ?p0_9 ?p1_9) ?g9_9 ?n9_9 ?F9_9 ?N9_9 ?_; (case g9_9 => with_reducible assumption); (case n9_9 => exact rfl); (case F9_9 => k_asm); (case N9_9 => k_asm); (case p0_9 => first | with_reducible assumption | decide | l_fact); (case p1_9 => first | with_reducible assumption | decide | l_fact); k_whole); walk_at "uX")
  k_with "CallK" => (k_here; (guard_target = CallK _ _ (Value.ref 192) _ _ _ _); k_dflt (refine' use_ctrX (c_padded4 _ _ _ _ ?p0_9 ?p1_9) ?g9_9 ?n9_9 ?F9_9 ?N9_9 ?_; (case g9_9 => with_reducible assumption); (case n9_9 => exact rfl); (case F9_9 => k_asm); (case N9_9 => k_asm); (case p0_9 => first | with_reducible assumption | decide | l_fact); (case p1_9 => first | with_reducible assumption | decide | l_fact); k_whole); walk_at "uX")
  k_with "CallK" => (k_here; (guard_target = CallK _ _ (Value.ref 199) _ _ _ _); k_dflt (refine' use_ctrX (c_plain_year _ _ _ ?p0_9 ?p1_9) ?g9_9 ?n9_9 ?F9_9 ?N9_9 ?_; (case g9_9 => with_reducible assumption); (case n9_9 => exact rfl); (case F9_9 => k_asm); (case N9_9 => k_asm); (case p0_9 => first | with_reducible assumption | decide | l_fact); (case p1_9 => first | with_reducible assumption | decide | l_fact); k_whole); walk_at "uX")
  k_with "CallK" => (k_here; (guard_target = CallK _ _ (Value.ref 206) _ _ _ _); k_dflt (refine' use_ctrX (c_clock_text _ _ _ _ _ _ _ ?p0_9 ?p1_9 ?p2_9 ?p3_9 ?p4_9 ?p5_9) ?g9_9 ?n9_9 ?F9_9 ?N9_9 ?_; (case g9_9 => with_reducible assumption); (case n9_9 => exact rfl); (case F9_9 => k_asm); (case N9_9 => k_asm); (case p0_9 => first | with_reducible assumption | decide | l_fact); (case p1_9 => first | with_reducible assumption | decide | l_fact); (case p2_9 => first | with_reducible assumption | decide | l_fact); (case p3_9 => first | with_reducible assumption | decide | l_fact); (case p4_9 => first | with_reducible assumption | decide | l_fact); (case p5_9 => first | with_reducible assumption | decide | l_fact); k_whole); walk_at "uX")
  k_with "CallK" => (k_here; (guard_target = CallK _ _ (Value.ref 220) _ _ _ _); k_dflt (refine' use_ctrX (c_offset_text _ _ _ ?p0_9 ?p1_9) ?g9_9 ?n9_9 ?F9_9 ?N9_9 ?_; (case g9_9 => with_reducible assumption); (case n9_9 => exact rfl); (case F9_9 => k_asm); (case N9_9 => k_asm); (case p0_9 => first | with_reducible assumption | decide | l_fact); (case p1_9 => first | with_reducible assumption | decide | l_fact); k_whole); walk_at "uX")
  k_with "CallK" => (k_here; (guard_target = CallK _ _ (Value.ref 134) _ _ _ _); k_dflt (refine' use_fields (c_fields_of _ _ _ _ _ ?p0_9 ?p1_9) ?g9_9 ?n9_9 ?F9_9 ?N9_9 ?_; (case g9_9 => with_reducible assumption); (case n9_9 => exact rfl); (case F9_9 => k_asm); (case N9_9 => k_asm); (case p0_9 => assumption); (case p1_9 => assumption); k_whole); intro q9 t91 t92 t93 t94 t95 t96 t97 h9 tk9 F9 N9; (try dsimp only); (try k_sweep); (try k_fold))
  k_with "subscriptTail" => (k_here; (guard_target = wpAny _ _ (subscriptTail _ _ (Value.ref 185) (Value.int _ _)) _ _ _); k_dflt (refine' wd_item ?k1_9 ?k2_9 ?k3_9 ?k4_9 ?_ ?k5_9; (case k1_9 => k_asm); (case k2_9 => k_asm); (case k3_9 => assumption); (case k4_9 => assumption); (case k5_9 => with_unfolding_all rfl)); intro _)
  k_with "subscriptTail" => (k_here; (guard_target = wpAny _ _ (subscriptTail _ _ (Value.ref 184) (Value.int _ _)) _ _ _); k_dflt (refine' mo_item ?k1_9 ?k2_9 ?k3_9 ?k4_9 ?_ ?k5_9; (case k1_9 => k_asm); (case k2_9 => k_asm); (case k3_9 => assumption); (case k4_9 => assumption); (case k5_9 => with_unfolding_all rfl)); intro _)
  k_with "my size" => (simp only [Str.length_append, mk_len, figs_len, item_len, clockT, offT, dayT, lit0, lit1, lit2, lit3, lit4, lit5, lit6, lit7, lit8, lit9, lit10, lit11, lit12, lit13, lit14, lit15, lit16, lit17, lit18, lit19, lit20, lit21, lit22, lit23, lit24, lit25, lit26, lit27, lit28, lit29, lit30, lit31, lit32, lit33, lit34, lit35, lit36, lit37, lit38, lit39, lit40, lit41, lit42, lit43, lit44, lit45, lit46, lit47, lit48, lit49, lit50, lit51, lit52, lit53, List.length_append, List.length_cons, List.length_nil]; (try split); omega)
  k_with "CallK" => (k_here; (guard_target = CallK _ _ (Value.ref 213) _ _ _ _); k_dflt (refine' use_ctrX (c_day_text _ _ _ _ _ ?p0_9 ?p1_9 ?p2_9) ?g9_9 ?n9_9 ?F9_9 ?N9_9 ?_; (case g9_9 => with_reducible assumption); (case n9_9 => exact rfl); (case F9_9 => k_asm); (case N9_9 => k_asm); (case p0_9 => assumption); (case p1_9 => assumption); (case p2_9 => assumption); k_whole); walk_at "uX")
  k_with "my size" => (simp only [Str.length_append, mk_len, figs_len, item_len, clockT_len, offT_len, timeT_len, lit0, lit1, lit2, lit3, lit4, lit5, lit6, lit7, lit8, lit9, lit10, lit11, lit12, lit13, lit14, lit15, lit16, lit17, lit18, lit19, lit20, lit21, lit22, lit23, lit24, lit25, lit26, lit27, lit28, lit29, lit30, lit31, lit32, lit33, lit34, lit35, lit36, lit37, lit38, lit39, lit40, lit41, lit42, lit43, lit44, lit45, lit46, lit47, lit48, lit49, lit50, lit51, lit52, lit53, List.length_append, List.length_cons, List.length_nil]; omega)
  k_with "CallK" => (k_here; (guard_target = CallK _ _ (Value.ref 227) _ _ _ _); k_dflt (refine' use_ctrX (c_time_text _ _ _ _ _ _ _ ?p0_9 ?p1_9 ?p2_9 ?p3_9) ?g9_9 ?n9_9 ?F9_9 ?N9_9 ?_; (case g9_9 => with_reducible assumption); (case n9_9 => exact rfl); (case F9_9 => k_asm); (case N9_9 => k_asm); (case p0_9 => assumption); (case p1_9 => assumption); (case p2_9 => first | with_reducible assumption | decide | l_fact); (case p3_9 => first | with_reducible assumption | decide | l_fact); k_whole); walk_at "uX")
  k_with "CallK" => (k_here; (guard_target = CallK _ _ (Value.ref 234) _ _ _ _); k_dflt (refine' use_ctrX (c_whole_text _ _ _ _ _ _ _ ?p0_9 ?p1_9 ?p2_9 ?p3_9 ?p4_9) ?g9_9 ?n9_9 ?F9_9 ?N9_9 ?_; (case g9_9 => with_reducible assumption); (case n9_9 => exact rfl); (case F9_9 => k_asm); (case N9_9 => k_asm); (case p0_9 => assumption); (case p1_9 => assumption); (case p2_9 => assumption); (case p3_9 => first | with_reducible assumption | decide | l_fact); (case p4_9 => first | with_reducible assumption | decide | l_fact); k_whole); walk_at "uX")
  k_with "CallK" => (k_here; (guard_target = CallK _ _ (Value.ref 234) _ _ _ _); k_dflt (refine' use_ctrX (c_whole_none _ _ _) ?g9_9 ?n9_9 ?F9_9 ?N9_9 ?_; (case g9_9 => with_reducible assumption); (case n9_9 => exact rfl); (case F9_9 => k_asm); (case N9_9 => k_asm); k_whole); walk_at "uX")
  k_with "CallK" => (k_here; (guard_target = CallK _ _ (Value.ref 241) _ _ _ _); k_dflt (refine' use_ctrX (c_utc_text _ _ _ _ _ ?p0_9 ?p1_9 ?p2_9) ?g9_9 ?n9_9 ?F9_9 ?N9_9 ?_; (case g9_9 => with_reducible assumption); (case n9_9 => exact rfl); (case F9_9 => k_asm); (case N9_9 => k_asm); (case p0_9 => assumption); (case p1_9 => assumption); (case p2_9 => assumption); k_whole); walk_at "uX")
  k_with "CallK" => (k_here; (guard_target = CallK _ _ (Value.ref 241) _ _ _ _); k_dflt (refine' use_ctrX (c_utc_none _) ?g9_9 ?n9_9 ?F9_9 ?N9_9 ?_; (case g9_9 => with_reducible assumption); (case n9_9 => exact rfl); (case F9_9 => k_asm); (case N9_9 => k_asm); k_whole); walk_at "uX")
  k_with "uRX" => (intro t9 t29 h9 tk9 F9 N9; (try dsimp only); (try k_sweep); (try k_fold))
  k_with "uRV" => (intro t29 h9 tk9 F9 N9; (try dsimp only); (try k_sweep); (try k_fold))
  k_with "call builtin:len" => (k_here; (guard_target = wpAny _ _ (call (Value.builtin "len") [Value.str _ _]) _ _ _); k_dflt (refine' len_mk ?z_9 ?_; (case z_9 => first | omega | (simp only [List.length_take, List.length_drop]; omega))); intro _ _; (try dsimp only))
  k_with "subscriptTail Name Slice str ref" => (k_here; k_dflt (refine' slice_mk_rd (s := ⟨_, _, _, _, _⟩) ?k1_9 ?k2_9 ?k3_9 ?k4_9 ?_ ?k5_9 ?k6_9; (case k1_9 => k_asm); (case k2_9 => k_asm); (case k3_9 => omega); (case k4_9 => omega); (case k5_9 => with_unfolding_all rfl); (case k6_9 => intro _; with_unfolding_all rfl)); intro _ _ _ _ _; (try dsimp only); (try k_sweep))
  k_with "eval Call Attribute" => (k_here; (with_reducible refine' rd_call ?k1_9 ?k2_9 ?k3_9 ?k4_9 ?k5_9 ?k6_9 ?kf_9 ?kg_9 ?kh_9 ?ki_9 ?kj_9 ?kk_9 ?kl_9 ?km_9 ?kn_9 ?kp_9 ?_); k_dflt ((case kp_9 => exact rfl); (case kl_9 => exact rfl); (case km_9 => exact rfl); (case kn_9 => exact rfl); (case k1_9 => k_asm); (case k2_9 => k_asm); (case k3_9 => k_asm); (case k4_9 => exact rfl); (case k5_9 => k_mem); (case k6_9 => k_mem); (case kf_9 => k_is); (case kg_9 => k_is); (case kh_9 => k_is); (case ki_9 => k_get); (case kj_9 => k_is); (case kk_9 => exact rfl); k_whole))
  k_with "eval Call Attribute" => (k_here; walk_at "fold")
  k_with "rd" => first | with_reducible assumption | exact rd_perm1 (by with_reducible assumption) | exact rd_perm2 (by with_reducible assumption) | exact rd_perm3 (by with_reducible assumption) | exact rd_perm4 (by with_reducible assumption) | k_asm
  k_with "CallK" => (k_here; (guard_target = CallK _ _ (Value.ref 269) _ _ _ _); k_dflt (refine' use_ctrRV (c_has' _ _ _ _ _ _ ?p0_9 ?p1_9 ?p2_9) ?g9_9 ?n9_9 ?F9_9 ?R9_9 ?e9_9 ?x9_9 ?_; (case g9_9 => with_reducible assumption); (case n9_9 => exact rfl); (case F9_9 => k_asm); (case R9_9 => walk_at "rd"); (case e9_9 => walk_at "nall"); (case x9_9 => with_reducible assumption); (case p0_9 => first | exact Nat.le_trans (by with_reducible assumption) (by decide) | omega); (case p1_9 => with_reducible (first | exact lit1 | exact lit2 | exact lit4 | exact lit8 | exact lit5 | exact lit15 | exact lit6 | exact lit7 | exact lit3 | exact rfl)); (case p2_9 => (first | decide | omega)); k_whole); walk_at "uRV")
  k_with "CallK" => (k_here; (guard_target = CallK _ _ (Value.ref 248) _ _ _ _); k_dflt (refine' use_opt (c_nof _ _ _ ?p0_9) ?g9_9 ?n9_9 ?F9_9 ?N9_9 ?h8_9 ?h9_9; (case g9_9 => with_reducible assumption); (case n9_9 => exact rfl); (case F9_9 => k_asm); (case N9_9 => k_asm); (case p0_9 => (simp only [List.length_take]; omega)); k_whole); all_goals (intros; (try k_sweep)))
  k_with "CallK" => (k_here; (guard_target = CallK _ _ (Value.ref 276) _ _ _ _); k_dflt (refine' use_ctrRV (c_need _ _ _ _ _ _ ?p0_9 ?p1_9 ?p2_9) ?g9_9 ?n9_9 ?F9_9 ?R9_9 ?e9_9 ?x9_9 ?_; (case g9_9 => with_reducible assumption); (case n9_9 => exact rfl); (case F9_9 => k_asm); (case R9_9 => walk_at "rd"); (case e9_9 => walk_at "nall"); (case x9_9 => with_reducible assumption); (case p0_9 => first | exact Nat.le_trans (by with_reducible assumption) (by decide) | omega); (case p1_9 => with_reducible (first | exact lit1 | exact lit2 | exact lit4 | exact lit8 | exact lit5 | exact lit15 | exact lit6 | exact lit7 | exact lit3 | exact rfl)); (case p2_9 => (first | decide | omega)); k_whole); walk_at "uRV")
  k_with "CallK" => (k_here; (guard_target = CallK _ _ (Value.ref 283) _ _ _ _); k_dflt (refine' use_ctrRX (c_number _ _ _ _ _ _ _ _ _ ?p0_9 ?p1_9 ?p2_9) ?g9_9 ?n9_9 ?F9_9 ?R9_9 ?e9_9 ?x9_9 ?_; (case g9_9 => with_reducible assumption); (case n9_9 => exact rfl); (case F9_9 => k_asm); (case R9_9 => walk_at "rd"); (case e9_9 => walk_at "nall"); (case x9_9 => with_reducible assumption); (case p0_9 => first | exact Nat.le_trans (by with_reducible assumption) (by decide) | omega); (case p1_9 => (first | decide | omega)); (case p2_9 => (first | decide | omega)); k_whole); walk_at "uRX")
  k_with "CallK" => (k_here; (guard_target = CallK _ _ (Value.ref 283) _ _ _ _); k_dflt (refine' use_ctrRX (c_number6 _ _ _ _ _ _ _ _ ?p0_9) ?g9_9 ?n9_9 ?F9_9 ?R9_9 ?e9_9 ?x9_9 ?_; (case g9_9 => with_reducible assumption); (case n9_9 => exact rfl); (case F9_9 => k_asm); (case R9_9 => walk_at "rd"); (case e9_9 => walk_at "nall"); (case x9_9 => with_reducible assumption); (case p0_9 => first | exact Nat.le_trans (by with_reducible assumption) (by decide) | omega); k_whole); walk_at "uRX")
  k_with "CallK" => (k_here; (guard_target = CallK _ _ (Value.ref 283) _ _ _ _); k_dflt (refine' use_ctrRX (c_number4 _ _ _ _ _ _ _ _ ?p0_9) ?g9_9 ?n9_9 ?F9_9 ?R9_9 ?e9_9 ?x9_9 ?_; (case g9_9 => with_reducible assumption); (case n9_9 => exact rfl); (case F9_9 => k_asm); (case R9_9 => walk_at "rd"); (case e9_9 => walk_at "nall"); (case x9_9 => with_reducible assumption); (case p0_9 => first | exact Nat.le_trans (by with_reducible assumption) (by decide) | omega); k_whole); walk_at "uRX")
  k_with "CallK" => (k_here; (guard_target = CallK _ _ (Value.ref 283) _ _ _ _); k_dflt (refine' use_ctrRX (c_number3 _ _ _ _ _ _ _ _ ?p0_9) ?g9_9 ?n9_9 ?F9_9 ?R9_9 ?e9_9 ?x9_9 ?_; (case g9_9 => with_reducible assumption); (case n9_9 => exact rfl); (case F9_9 => k_asm); (case R9_9 => walk_at "rd"); (case e9_9 => walk_at "nall"); (case x9_9 => with_reducible assumption); (case p0_9 => first | exact Nat.le_trans (by with_reducible assumption) (by decide) | omega); k_whole); walk_at "uRX")
  k_with "CallK" => (k_here; (guard_target = CallK _ _ (Value.ref 283) _ _ _ _); k_dflt (refine' use_ctrRX (c_number2 _ _ _ _ _ _ _ _ ?p0_9) ?g9_9 ?n9_9 ?F9_9 ?R9_9 ?e9_9 ?x9_9 ?_; (case g9_9 => with_reducible assumption); (case n9_9 => exact rfl); (case F9_9 => k_asm); (case R9_9 => walk_at "rd"); (case e9_9 => walk_at "nall"); (case x9_9 => with_reducible assumption); (case p0_9 => first | exact Nat.le_trans (by with_reducible assumption) (by decide) | omega); k_whole); walk_at "uRX")
  k_with "CallK" => (k_here; (guard_target = CallK _ _ (Value.ref 297) _ _ _ _); k_dflt (refine' use_ctrRV (c_ends _ _ _ ?p0_9) ?g9_9 ?n9_9 ?F9_9 ?R9_9 ?e9_9 ?x9_9 ?_; (case g9_9 => with_reducible assumption); (case n9_9 => exact rfl); (case F9_9 => k_asm); (case R9_9 => walk_at "rd"); (case e9_9 => walk_at "nall"); (case x9_9 => with_reducible assumption); (case p0_9 => first | exact Nat.le_trans (by with_reducible assumption) (by decide) | omega); k_whole); walk_at "uRV")
  k_with "CallK" => (k_here; (guard_target = CallK _ _ (Value.ref 304) _ _ _ _); k_dflt (refine' use_ctrRX (c_year _ _ _ ?p0_9) ?g9_9 ?n9_9 ?F9_9 ?R9_9 ?e9_9 ?x9_9 ?_; (case g9_9 => with_reducible assumption); (case n9_9 => exact rfl); (case F9_9 => k_asm); (case R9_9 => walk_at "rd"); (case e9_9 => walk_at "nall"); (case x9_9 => with_reducible assumption); (case p0_9 => first | exact Nat.le_trans (by with_reducible assumption) (by decide) | omega); k_whole); walk_at "uRX")
  k_with "CallK" => (k_here; (guard_target = CallK _ _ (Value.ref 325) _ _ _ _); k_dflt (refine' use_ctrRX (c_zone _ _ _ _ ?p0_9) ?g9_9 ?n9_9 ?F9_9 ?R9_9 ?e9_9 ?x9_9 ?_; (case g9_9 => with_reducible assumption); (case n9_9 => exact rfl); (case F9_9 => k_asm); (case R9_9 => walk_at "rd"); (case e9_9 => walk_at "nall"); (case x9_9 => with_reducible assumption); (case p0_9 => first | exact Nat.le_trans (by with_reducible assumption) (by decide) | omega); k_whole); walk_at "uRX")
  k_with "CallK" => (k_here; (guard_target = CallK _ _ (Value.ref 318) _ _ _ _); k_dflt (refine' use_tup4 (c_clock _ _ _ ?p0_9) ?g9_9 ?n9_9 ?F9_9 ?R9_9 ?e9_9 ?x9_9 ?_; (case g9_9 => with_reducible assumption); (case n9_9 => exact rfl); (case F9_9 => k_asm); (case R9_9 => walk_at "rd"); (case e9_9 => walk_at "nall"); (case x9_9 => with_reducible assumption); (case p0_9 => first | exact Nat.le_trans (by with_reducible assumption) (by decide) | omega); k_whole); intro q9 u91 u92 u93 u94 t29 h9 tk9 F9 N9; (try dsimp only); (try k_sweep); (try k_fold))
  k_with "CallK" => (k_here; (guard_target = CallK _ _ (Value.ref 328) _ _ _ _); k_dflt (refine' use_reader (c_reader _ _ _ ?p0_9) ?g9_9 ?n9_9 ?F9_9 ?N9_9 ?_; (case g9_9 => with_reducible assumption); (case n9_9 => exact rfl); (case F9_9 => k_asm); (case N9_9 => k_asm); (case p0_9 => first | exact Nat.le_trans (by with_reducible assumption) (by decide) | omega); k_whole); intro x9 d9 u91 u92 u93 u94 u95 h9 tk9 m9 F9 N9; (try dsimp only); (try k_sweep); (try k_fold))
  k_with "CallK" => (k_here; (guard_target = CallK _ _ (Value.ref 339) _ _ _ _); k_dflt (refine' use_tup4 (c_iso_clock _ _ _ ?p0_9) ?g9_9 ?n9_9 ?F9_9 ?R9_9 ?e9_9 ?x9_9 ?_; (case g9_9 => with_reducible assumption); (case n9_9 => exact rfl); (case F9_9 => k_asm); (case R9_9 => walk_at "rd"); (case e9_9 => walk_at "nall"); (case x9_9 => with_reducible assumption); (case p0_9 => first | exact Nat.le_trans (by with_reducible assumption) (by decide) | omega); k_whole); intro q9 u91 u92 u93 u94 t29 h9 tk9 F9 N9; (try dsimp only); (try k_sweep); (try k_fold))
  trivial
set_option maxRecDepth 100000
set_option maxHeartbeats 8000000

theorem c_tof (w : World) (q : Addr) (y i d h m s ms : Int) (t1 t2 t3 t4 t5 t6 t7 : Tok) : CtrM w 169 3 [.ref q] q (tupO #[.int y t1, .int i t2, .int d t3, .int h t4, .int m t5, .int s t6, .int ms t7]) (intv (tof y i d h m s ms)) := by
  k_dflt (refine' ctrMI_enter (bs := [(Str.ofString "fields", _)]) ?k6 ?k7 ?kb ?kB ?kr ?c2 ?c3 ?c4 ?c5 ?_; (case k6 => k_is); (case k7 => k_is); (case kb => exact rfl); (case kB => exact rfl); (case kr => exact rfl); (case c2 => exact rfl); (case c3 => exact rfl); (case c4 => exact rfl); (case c5 => decide))
  intro mean mg mb dp un gd outer A₀ base g' L' h9 gs9 d9 tk9 o9 Q
  intro A9 P9 u9 B' F9 X' N' T' hdp hun hret
  walk_at "steps"
  all_goals first | (refine hret _ _ _ ?_ (by k_asm); rfl) | (refine hret _ _ _ ?_ (by k_asm) (by first | with_reducible assumption | exact drop_news (by with_reducible assumption) (by first | with_reducible exact ktn_subA | repeat (first | with_reducible exact sub_refl | with_reducible refine sub_cons ?_ | with_reducible refine sub_skip ?_))); rfl) | (refine hret _ _ _ ⟨_, congrArg (fun z => Value.int z _) ?_⟩ (by k_asm); rfl) | (refine hret _ _ _ ⟨_, congrArg (fun z => Value.int z _) ?_⟩ (by k_asm) (by first | with_reducible assumption | exact drop_news (by with_reducible assumption) (by first | with_reducible exact ktn_subA | repeat (first | with_reducible exact sub_refl | with_reducible refine sub_cons ?_ | with_reducible refine sub_skip ?_))); rfl)
theorem ru_A9_1 : True := by
  k_with "CallK" => (k_here; (guard_target = CallK _ _ (Value.ref 169) _ _ _ _); k_dflt (refine' use_ctrMX (c_tof _ _ _ _ _ _ _ _ _ _ _ _ _ _ _ _) ?g9_9 ?n9_9 ?F9_9 ?N9_9 ?q9_9 ?_; (case g9_9 => with_reducible assumption); (case n9_9 => exact rfl); (case F9_9 => k_asm); (case N9_9 => k_asm); (case q9_9 => k_mem); k_whole); walk_at "uX")
  trivial
theorem c_hasT (w : World) (l g : List Nat) (s : RS) (x : Str) (t : Tok) (hl : l.length ≤ 1000) (hx : x = mk g) (hg : g.length ≤ 20) (h : hasB l s g = true) :
    CtrR w 269 1 [.str x t] l s (hasS l s g) (bolv true) := by rw [← h]; exact c_has' w l g s x t hl hx hg
theorem c_hasF (w : World) (l g : List Nat) (s : RS) (x : Str) (t : Tok) (hl : l.length ≤ 1000) (hx : x = mk g) (hg : g.length ≤ 20) (h : hasB l s g = false) :
    CtrR w 269 1 [.str x t] l s (hasS l s g) (bolv false) := by rw [← h]; exact c_has' w l g s x t hl hx hg
theorem ru_A9_2 : True := by
  k_with "CallK" => (k_here; (guard_target = CallK _ _ (Value.ref 269) _ _ _ _); k_dflt (refine' use_ctrRV (c_hasF _ _ _ _ _ _ ?p0_9 ?p1_9 ?p2_9 ?p3_9) ?g9_9 ?n9_9 ?F9_9 ?R9_9 ?e9_9 ?x9_9 ?_; (case g9_9 => with_reducible assumption); (case n9_9 => exact rfl); (case F9_9 => k_asm); (case R9_9 => walk_at "rd"); (case e9_9 => walk_at "nall"); (case x9_9 => with_reducible assumption); (case p0_9 => first | exact Nat.le_trans (by with_reducible assumption) (by decide) | omega); (case p1_9 => with_reducible (first | exact lit1 | exact lit5 | exact lit15)); (case p2_9 => decide); (case p3_9 => with_reducible assumption); k_whole); walk_at "uRV")
  k_with "CallK" => (k_here; (guard_target = CallK _ _ (Value.ref 269) _ _ _ _); k_dflt (refine' use_ctrRV (c_hasT _ _ _ _ _ _ ?p0_9 ?p1_9 ?p2_9 ?p3_9) ?g9_9 ?n9_9 ?F9_9 ?R9_9 ?e9_9 ?x9_9 ?_; (case g9_9 => with_reducible assumption); (case n9_9 => exact rfl); (case F9_9 => k_asm); (case R9_9 => walk_at "rd"); (case e9_9 => walk_at "nall"); (case x9_9 => with_reducible assumption); (case p0_9 => first | exact Nat.le_trans (by with_reducible assumption) (by decide) | omega); (case p1_9 => with_reducible (first | exact lit1 | exact lit5 | exact lit15)); (case p2_9 => decide); (case p3_9 => with_reducible assumption); k_whole); walk_at "uRV")
  k_with "CallK" => (k_here; (guard_target = CallK _ _ (Value.ref 78) _ _ _ _); k_dflt (refine' use_ctrX (c_days_of_month _ _ _ _ _ ?p0_9 ?p1_9) ?g9_9 ?n9_9 ?F9_9 ?N9_9 ?_; (case g9_9 => with_reducible assumption); (case n9_9 => exact rfl); (case F9_9 => k_asm); (case N9_9 => k_asm); (case p0_9 => exact mo_b0); (case p1_9 => exact mo_b1); k_whole); walk_at "uX")
  trivial
theorem c_pi_A (w : World) (l : List Nat) (t : Tok) (hl : l.length ≤ 1000) (h1 : hasB l (yearS l rs0) [45] = true) (h2 : hasB l (numS l (hasS l (yearS l rs0) [45]) 2 1 12) [45] = true)
    (h3 : hasB l (numS l (hasS l (numS l (hasS l (yearS l rs0) [45]) 2 1 12) [45]) 2 1 (daysOf (yearV l rs0) (numV l (hasS l (yearS l rs0) [45]) 2 1 12 - 1))) [84] = true) : Ctr w 346 6 [.str (mk l) t] (optv (parseIso l)) := by
  k_dflt (refine' ctr_enter (bs := [(Str.ofString "text", _)]) ?k6 ?k7 ?kb ?kB ?kr ?c2 ?c3 ?c4 ?c5 ?_; (case k6 => k_is); (case k7 => k_is); (case kb => exact rfl); (case kB => exact rfl); (case kr => exact rfl); (case c2 => exact rfl); (case c3 => exact rfl); (case c4 => exact rfl); (case c5 => decide))
  intro mean mg mb dp un gd outer A₀ base g' L' h9 gs9 d9 tk9 o9 Q
  intro A9 P9 u9 B' F9 X' N' T' hdp hun hret
  rw [pi_A h1 h2] at hret
  walk_at "steps"
  all_goals first
    | (rw [pe_1 h3 (by with_reducible assumption) (by with_reducible assumption)] at hret; exact hret _ _ _ (by with_reducible assumption) (by k_asm))
    | (rw [pe_2 h3 (by with_reducible assumption) (by with_reducible assumption)] at hret; exact hret _ _ _ rfl (by k_asm))
    | (rw [pe_3 h3 (by with_reducible assumption) (by with_reducible assumption) (by with_reducible assumption)] at hret; exact hret _ _ _ (by with_reducible assumption) (by k_asm))
    | (rw [pe_4 h3 (by with_reducible assumption) (by with_reducible assumption) (by with_reducible assumption)] at hret; exact hret _ _ _ rfl (by k_asm))
    | (rw [pe_5 h3 (by with_reducible assumption) (by with_reducible assumption) (by with_reducible assumption)] at hret; exact hret _ _ _ (by with_reducible assumption) (by k_asm))
    | (rw [pe_6 h3 (by with_reducible assumption) (by with_reducible assumption) (by with_reducible assumption)] at hret; exact hret _ _ _ rfl (by k_asm))
theorem c_pi_B (w : World) (l : List Nat) (t : Tok) (hl : l.length ≤ 1000) (h1 : hasB l (yearS l rs0) [45] = true) (h2 : hasB l (numS l (hasS l (yearS l rs0) [45]) 2 1 12) [45] = true)
    (h3 : hasB l (numS l (hasS l (numS l (hasS l (yearS l rs0) [45]) 2 1 12) [45]) 2 1 (daysOf (yearV l rs0) (numV l (hasS l (yearS l rs0) [45]) 2 1 12 - 1))) [84] = false) : Ctr w 346 6 [.str (mk l) t] (optv (parseIso l)) := by
  k_dflt (refine' ctr_enter (bs := [(Str.ofString "text", _)]) ?k6 ?k7 ?kb ?kB ?kr ?c2 ?c3 ?c4 ?c5 ?_; (case k6 => k_is); (case k7 => k_is); (case kb => exact rfl); (case kB => exact rfl); (case kr => exact rfl); (case c2 => exact rfl); (case c3 => exact rfl); (case c4 => exact rfl); (case c5 => decide))
  intro mean mg mb dp un gd outer A₀ base g' L' h9 gs9 d9 tk9 o9 Q
  intro A9 P9 u9 B' F9 X' N' T' hdp hun hret
  rw [pi_A h1 h2] at hret
  walk_at "steps"
  all_goals first
    | (rw [pe_7 h3 (by with_reducible assumption)] at hret; exact hret _ _ _ (by with_reducible assumption) (by k_asm))
    | (rw [pe_8 h3 (by with_reducible assumption)] at hret; exact hret _ _ _ rfl (by k_asm))
theorem c_pi_C (w : World) (l : List Nat) (t : Tok) (hl : l.length ≤ 1000) (h1 : hasB l (yearS l rs0) [45] = true) (h2 : hasB l (numS l (hasS l (yearS l rs0) [45]) 2 1 12) [45] = false)
    (h3 : hasB l (hasS l (numS l (hasS l (yearS l rs0) [45]) 2 1 12) [45]) [84] = false) : Ctr w 346 6 [.str (mk l) t] (optv (parseIso l)) := by
  k_dflt (refine' ctr_enter (bs := [(Str.ofString "text", _)]) ?k6 ?k7 ?kb ?kB ?kr ?c2 ?c3 ?c4 ?c5 ?_; (case k6 => k_is); (case k7 => k_is); (case kb => exact rfl); (case kB => exact rfl); (case kr => exact rfl); (case c2 => exact rfl); (case c3 => exact rfl); (case c4 => exact rfl); (case c5 => decide))
  intro mean mg mb dp un gd outer A₀ base g' L' h9 gs9 d9 tk9 o9 Q
  intro A9 P9 u9 B' F9 X' N' T' hdp hun hret
  rw [pi_C h1 h2] at hret
  walk_at "steps"
  all_goals first
    | (rw [pe_7 h3 (by with_reducible assumption)] at hret; exact hret _ _ _ (by with_reducible assumption) (by k_asm))
    | (rw [pe_8 h3 (by with_reducible assumption)] at hret; exact hret _ _ _ rfl (by k_asm))
theorem c_pi_D (w : World) (l : List Nat) (t : Tok) (hl : l.length ≤ 1000) (h1 : hasB l (yearS l rs0) [45] = false) (h3 : hasB l (hasS l (yearS l rs0) [45]) [84] = false) : Ctr w 346 6 [.str (mk l) t] (optv (parseIso l)) := by
  k_dflt (refine' ctr_enter (bs := [(Str.ofString "text", _)]) ?k6 ?k7 ?kb ?kB ?kr ?c2 ?c3 ?c4 ?c5 ?_; (case k6 => k_is); (case k7 => k_is); (case kb => exact rfl); (case kB => exact rfl); (case kr => exact rfl); (case c2 => exact rfl); (case c3 => exact rfl); (case c4 => exact rfl); (case c5 => decide))
  intro mean mg mb dp un gd outer A₀ base g' L' h9 gs9 d9 tk9 o9 Q
  intro A9 P9 u9 B' F9 X' N' T' hdp hun hret
  rw [pi_D h1] at hret
  walk_at "steps"
  all_goals first
    | (rw [pe_7 h3 (by with_reducible assumption)] at hret; exact hret _ _ _ (by with_reducible assumption) (by k_asm))
    | (rw [pe_8 h3 (by with_reducible assumption)] at hret; exact hret _ _ _ rfl (by k_asm))
theorem c_parse_iso (w : World) (l : List Nat) (t : Tok) (hl : l.length ≤ 1000) (hk : isoK l) : Ctr w 346 6 [.str (mk l) t] (optv (parseIso l)) := by
  rcases hk with ⟨h1, h2, h3⟩ | ⟨h1, h2, h3⟩ | ⟨h1, h2, h3⟩ | ⟨h1, h3⟩
  · exact c_pi_A w l t hl h1 h2 h3
  · exact c_pi_B w l t hl h1 h2 h3
  · exact c_pi_C w l t hl h1 h2 h3
  · exact c_pi_D w l t hl h1 h3
end

section -- T4
theorem rst_T4 : True := by
  w_top off
  trivial
open PySem PySem.W PySem.Calls PyProof.Rows
open PySem.Builtin PySem.Builtin.Str
theorem tw_step {α : Type} (f : α → Bool) : ∀ (r : List α) (j : Nat) (x : α), j ≤ (r.takeWhile f).length → r[j]? = some x → f x = true → j + 1 ≤ (r.takeWhile f).length
  | [], j, x, _, h, _ => by simp at h
  | a :: r, 0, x, _, h, hf => by
    simp only [List.getElem?_cons_zero, Option.some.injEq] at h
    subst h
    rw [List.takeWhile_cons, if_pos hf]; simp
  | a :: r, j + 1, x, hj, h, hf => by
    by_cases q : f a = true
    · rw [List.takeWhile_cons, if_pos q] at hj ⊢
      simp only [List.length_cons, List.getElem?_cons_succ] at hj h ⊢
      have := tw_step f r j x (by (first | lia | omega)) h hf
      (first | lia | omega)
    · rw [List.takeWhile_cons, if_neg q] at hj
      simp at hj
theorem tw_end {α : Type} (f : α → Bool) : ∀ (r : List α) (j : Nat), j ≤ (r.takeWhile f).length → (∀ x, r[j]? = some x → f x = false) → j = (r.takeWhile f).length
  | [], j, h, _ => by simpa using h
  | a :: r, 0, _, h => by
    have := h a (by simp)
    rw [List.takeWhile_cons, if_neg (by simp [this])]; rfl
  | a :: r, j + 1, hj, h => by
    by_cases q : f a = true
    · rw [List.takeWhile_cons, if_pos q] at hj ⊢
      simp only [List.length_cons] at hj ⊢
      have := tw_end f r j (by (first | lia | omega)) (fun x hx => h x (by simpa using hx))
      (first | lia | omega)
    · rw [List.takeWhile_cons, if_neg q] at hj
      simp at hj
theorem item_dig {l : List Nat} {e : Int} (h0 : 0 ≤ e) (h2 : e < ((mk l).length : Int)) : (occurrences (Str.ofString "0123456789") (Txt.item (mk l) e) 0 (Str.ofString "0123456789").length 1).isEmpty = !isDig (l.getD e.toNat 0) := by
  rw [item_mk h0 (by rw [mk_len] at h2; exact h2)]
  have := in_fig (l.getD e.toNat 0)
  rw [← this]
  show _ = !!_
  rw [Bool.not_not]
theorem run_le (l : List Nat) (p : Nat) : run l p ≤ l.length := by
  unfold run
  have := (List.takeWhile_sublist (p := isDig) (l := l.drop p)).length_le
  simp at this
  (first | lia | omega)
section
variable {l : List Nat} {p : Nat} {e : Int}
theorem run_at (h0 : (p : Int) ≤ e) (h2 : e < ((mk l).length : Int)) : (l.drop p)[(e - p).toNat]? = some (l.getD e.toNat 0) := by
  rw [mk_len] at h2
  have : e.toNat < l.length := by (first | lia | omega)
  rw [List.getElem?_drop, show p + (e - p).toNat = e.toNat by (first | lia | omega), List.getD_eq_getElem?_getD, List.getElem?_eq_getElem this]; rfl
theorem run_step (h0 : (p : Int) ≤ e) (h1 : e ≤ (p : Int) + run l p) (h2 : e < ((mk l).length : Int)) (h3 : (occurrences (Str.ofString "0123456789") (Txt.item (mk l) e) 0 (Str.ofString "0123456789").length 1).isEmpty = false) :
    (p : Int) ≤ e + 1 ∧ e + 1 ≤ (p : Int) + run l p := by
  rw [item_dig (by (first | lia | omega)) h2] at h3
  have := tw_step isDig (l.drop p) (e - p).toNat _ (by unfold run at h1; (first | lia | omega)) (run_at h0 h2) (by simpa using h3)
  unfold run; (first | lia | omega)
theorem run_step2 (h0 : (p : Int) ≤ e) (h1 : e ≤ (p : Int) + run l p) (h2 : e < ((mk l).length : Int)) (h3 : (occurrences (Str.ofString "0123456789") (Txt.item (mk l) e) 0 (Str.ofString "0123456789").length 1).isEmpty = false) :
    ((p : Int) + run l p - (e + 1)).toNat < ((p : Int) + run l p - e).toNat := by
  have := run_step h0 h1 h2 h3
  (first | lia | omega)
theorem run_end1 (h0 : (p : Int) ≤ e) (h1 : e ≤ (p : Int) + run l p) (h2 : e < ((mk l).length : Int)) (h3 : (occurrences (Str.ofString "0123456789") (Txt.item (mk l) e) 0 (Str.ofString "0123456789").length 1).isEmpty = true) : e = p + run l p := by
  rw [item_dig (by (first | lia | omega)) h2] at h3
  have := tw_end isDig (l.drop p) (e - p).toNat (by unfold run at h1; (first | lia | omega)) (fun x hx => by rw [run_at h0 h2] at hx; cases hx; simpa using h3)
  unfold run; (first | lia | omega)
theorem run_end2 (h0 : (p : Int) ≤ e) (h1 : e ≤ (p : Int) + run l p) (h : ¬ e < (l.length : Int)) : e = p + run l p := by
  have a : run l p ≤ l.length - p := by
    unfold run
    have := (List.takeWhile_sublist (p := isDig) (l := l.drop p)).length_le
    simpa using this
  (first | lia | omega)
theorem ly_k {s : RS} (h : e = ((hasS l s [45]).p : Int) + run l (hasS l s [45]).p) : (if e - ((hasS l s [45]).p : Int) > 4 then e - ((hasS l s [45]).p : Int) else 4).toNat = lyK l s := by
  subst h
  unfold lyK
  split <;> (first | lia | omega)
end
/-- parse_shown: the places behind the month and the day -/
noncomputable abbrev tyS (l : List Nat) (s : RS) : RS := needS l s [32]
noncomputable abbrev tcS (l : List Nat) (s : RS) : RS := needS l (lyS l (tyS l s)) [32]
noncomputable abbrev tgS (l : List Nat) (s : RS) : RS := needS l (ckS l (tcS l s)) [32, 71, 77, 84]
noncomputable abbrev psSh (l : List Nat) (s : RS) (mo da : Int) : Int := tof (lyV l (tyS l s)) mo da (numV l (tcS l s) 2 0 23) (numV l (ckS1 l (tcS l s)) 2 0 59) (numV l (ckS2 l (tcS l s)) 2 0 59) 0
noncomputable def psEnd (l : List Nat) (s : RS) (u : Bool) : RS := if u = true then tgS l s else znS l (tgS l s) false
noncomputable def psOff (l : List Nat) (s : RS) (u : Bool) : Int := if u = true then 0 else znV l (tgS l s) false
noncomputable def psTail (l : List Nat) (wd : Int) (s : RS) (mo da : Int) (u : Bool) : Option Int :=
  if endsB l (psEnd l s u) = true then (if wdF (psSh l s mo da) = wd then clipF (psSh l s mo da - psOff l s u * 60000) else none) else none
noncomputable abbrev us2 (l : List Nat) : RS := hasS l (amS wdL l rs0) [44, 32]
noncomputable abbrev us4 (l : List Nat) : RS := needS l (numS l (us2 l) 2 1 31) [32]
noncomputable abbrev vs3 (l : List Nat) : RS := needS l (us2 l) [32]
noncomputable abbrev vs5 (l : List Nat) : RS := needS l (amS moL l (vs3 l)) [32]
noncomputable def parseShown (l : List Nat) : Option Int :=
  if hasB l (amS wdL l rs0) [44, 32] = true then psTail l (amV wdL l rs0) (amS moL l (us4 l)) (amV moL l (us4 l)) (numV l (us2 l) 2 1 31) true
  else psTail l (amV wdL l rs0) (numS l (vs5 l) 2 1 31) (amV moL l (vs3 l)) (numV l (vs5 l) 2 1 31) false
section
variable {l : List Nat} {s : RS} {wd mo da : Int}
theorem ps_u (h : hasB l (amS wdL l rs0) [44, 32] = true) : parseShown l = psTail l (amV wdL l rs0) (amS moL l (us4 l)) (amV moL l (us4 l)) (numV l (us2 l) 2 1 31) true := by unfold parseShown; rw [if_pos h]
theorem ps_v (h : hasB l (amS wdL l rs0) [44, 32] = false) : parseShown l = psTail l (amV wdL l rs0) (numS l (vs5 l) 2 1 31) (amV moL l (vs3 l)) (numV l (vs5 l) 2 1 31) false := by unfold parseShown; rw [if_neg (by simp [h])]
theorem pt_1 (he : endsB l (tgS l s) = true) (hw : wdF (psSh l s mo da) = wd) : psTail l wd s mo da true = clipF (psSh l s mo da - 0 * 60000) := by
  have e : psEnd l s true = tgS l s := rfl
  unfold psTail; rw [e, if_pos he, if_pos hw]; rfl
theorem pt_2 (he : endsB l (tgS l s) = true) (hw : ¬ wdF (psSh l s mo da) = wd) : psTail l wd s mo da true = none := by
  have e : psEnd l s true = tgS l s := rfl
  unfold psTail; rw [e, if_pos he, if_neg hw]
theorem pt_3 (he : endsB l (tgS l s) = false) : psTail l wd s mo da true = none := by
  have e : psEnd l s true = tgS l s := rfl
  unfold psTail; rw [e, if_neg (by simp [he])]
theorem pt_4 (he : endsB l (znS l (tgS l s) false) = true) (hw : wdF (psSh l s mo da) = wd) : psTail l wd s mo da false = clipF (psSh l s mo da - znV l (tgS l s) false * 60000) := by
  have e : psEnd l s false = znS l (tgS l s) false := rfl
  unfold psTail; rw [e, if_pos he, if_pos hw]; rfl
theorem pt_5 (he : endsB l (znS l (tgS l s) false) = true) (hw : ¬ wdF (psSh l s mo da) = wd) : psTail l wd s mo da false = none := by
  have e : psEnd l s false = znS l (tgS l s) false := rfl
  unfold psTail; rw [e, if_pos he, if_neg hw]
theorem pt_6 (he : endsB l (znS l (tgS l s) false) = false) : psTail l wd s mo da false = none := by
  have e : psEnd l s false = znS l (tgS l s) false := rfl
  unfold psTail; rw [e, if_neg (by simp [he])]
end
noncomputable def parseDate (l : List Nat) : Option Int := match parseIso l with
  | none => parseShown l
  | some v => some v
theorem pd_n {l : List Nat} (h : parseIso l = none) : parseDate l = parseShown l := by unfold parseDate; rw [h]
theorem pd_s {l : List Nat} {v : Int} (h : parseIso l = some v) : parseDate l = some v := by unfold parseDate; rw [h]
end

section -- A10
theorem rst_A10 : True := by
  w_top off
  trivial
open PySem PySem.W PySem.Calls PyProof.Rows
theorem ru_A10_0 : True := by
  k_with_none
  k_with "steps" => (repeat' (first | k_unfold | (k_end; kc_close) | walk1 | (dsimp only; walk1) | (leave1; (try dsimp only)) | fail "no step"))
  k_with "eval Constant int" => (k_here; (with_reducible refine ct9 ?_); intro _ _)
  k_with "eval Constant str" => (k_here; (with_reducible refine cs9 ?_); intro _ _)
  k_with "binaryOp Add int int" => (k_here; (with_reducible refine ar_add ?_); intro _ _)
  k_with "binaryOp Sub int int" => (k_here; (with_reducible refine ar_sub ?_); intro _ _)
  k_with "binaryOp Mult int int" => (k_here; (with_reducible refine' ar_mul ?_ ?m9_9); k_dflt (case m9_9 => mul_fits); intro _ _)
  k_with "binaryOp FloorDiv int int" => (k_here; (with_reducible refine' ar_div ?b9_9 ?_ ?p9_9); k_dflt (case b9_9 => decide); k_dflt (case p9_9 => first | exact PyProof.noPylong_of_log2 (by decide +kernel) | exact PyProof.noPylong_small (by omega)); intro _ _)
  k_with "binaryOp Mod int int" => (k_here; (with_reducible refine ar_mod ?b9_9 ?_); (case b9_9 => first | decide | omega | assumption); intro _ _)
  k_with "inplaceOp Add int int" => (k_here; (with_reducible refine ar_iadd ?_); intro _ _)
  k_with "storeName" => (k_here; k_dflt (refine' st9 ?F_9 ?N_9 ?_ ?a_9 ?b_9; (case F_9 => with_reducible assumption); (case N_9 => with_reducible assumption); (case a_9 => exact rfl); (case b_9 => exact rfl); k_whole); intro h9 k9 F9 N9; (try k_sweep))
  k_with "newTuple" => (k_here; kup_bare; k_dflt (refine' nt9 ?F_9 ?N_9 ?_ ?z_9; (case F_9 => with_reducible assumption); (case N_9 => with_reducible assumption); (case z_9 => kmk_size)); intro D9 h9 F9 N9; (try k_sweep))
  k_with "eval Tuple" => (k_here; k_whole; (with_reducible refine tk_go ?h9_9 ?_); k_dflt (case h9_9 => exact rfl))
  k_with "eval Tuple" => (k_here; walk_at "fold")
  k_with "TupK" => (k_here; (with_reducible refine tk_e ?_))
  k_with "TupK" => (k_here; (with_reducible refine' tk_n ?k1_9 ?k2_9 ?k3_9 ?k4_9 ?k5_9 ?_); k_dflt ((case k3_9 => exact rfl); (case k4_9 => exact rfl); (case k1_9 => k_asm); (case k2_9 => exact rfl); (case k5_9 => exact rfl); k_whole))
  k_with "TupK" => (k_here; (with_reducible refine tk_i ?_); intro _ _)
  k_with "TupK" => (k_here; (first | with_reducible refine tk_2 ?_ | with_reducible refine tk_3 ?_ | with_reducible refine tk_4 ?_ | with_reducible refine tk_5 ?_ | with_reducible refine tk_6 ?_))
  k_with "uX" => (intro t9 h9 tk9 F9 N9; (try dsimp only); (try k_sweep); (try k_fold))
  k_with "uV" => (intro h9 tk9 F9 N9; (try dsimp only); (try k_sweep); (try k_fold))
  k_with "callWith ref" => (k_here; k_dflt (first | (refine' cw_K0 ?k1_9 ?k2_9 ?_; (case k1_9 => k_is); (case k2_9 => exact rfl); k_whole) | (refine' cw_K1 ?k1_9 ?k2_9 ?_; (case k1_9 => k_is); (case k2_9 => exact rfl); k_whole)))
  k_with "eval Call" => (k_here; (with_reducible refine' cg_K ?k1_9 ?k2_9 ?k3_9 ?k4_9 ?k5_9 ?k6_9 ?k7_9 ?k8_9 ?k9_9 ?_); k_dflt ((case k7_9 => exact rfl); (case k8_9 => exact rfl); (case k9_9 => exact rfl); (case k1_9 => k_asm); (case k2_9 => k_asm); (case k3_9 => k_asm); (case k4_9 => k_is); (case k5_9 => exact rfl); (case k6_9 => k_is); k_whole))
  k_with "eval Name" => (k_here; k_dflt (refine' nm9 ?k1_9 ?k2_9 ?k3_9 ?k4_9 ?k5_9 ?_; (case k4_9 => exact rfl); (case k3_9 => exact rfl); (case k1_9 => k_asm); (case k2_9 => exact rfl); (case k5_9 => exact rfl); k_whole))
  k_with "fold" => (k_whole; (fail_if_success (fail_if_success k_fold)); refine fold9 ?_; intro qk)
  k_with "eval Call" => (k_here; walk_at "fold")
  k_with "eval BinOp" => (k_here; walk_at "fold")
  k_with "ArgK" => (k_here; (with_reducible refine ak_e ?_))
  k_with "ArgK" => (k_here; (with_reducible refine' ak_n ?k1_9 ?k2_9 ?k3_9 ?k4_9 ?k5_9 ?_); k_dflt ((case k3_9 => exact rfl); (case k4_9 => exact rfl); (case k1_9 => k_asm); (case k2_9 => exact rfl); (case k5_9 => exact rfl); k_whole))
  k_with "ArgK" => (k_here; (first | with_reducible refine ak_i ?_ | with_reducible refine ak_s ?_); intro _ _)
  k_with "ArgK" => (k_here; (first | with_reducible refine ak_1 ?_ | with_reducible refine ak_2 ?_ | with_reducible refine ak_3 ?_ | with_reducible refine ak_4 ?_ | with_reducible refine ak_0 ?_))
  k_with "ne" => first | with_reducible assumption | exact ne_news (by with_reducible assumption) (by k_mem) (by k_mem) rfl | k_ne
  k_with "upd" => first | (refine' Upd.head ?a_9; (case a_9 => walk_at "nall")) | (refine' Upd.tail ?a_9 ?b_9; (case a_9 => walk_at "ne"); (case b_9 => walk_at "upd"))
  k_with "setAttr ref" => (k_here; k_dflt (refine' set_dict ?k1_9 ?k2_9 ?k3_9 ?k4_9 ?k5_9 ?k6_9 ?k7_9 ?k8_9 ?k9_9 ?k10_9 ?k11_9 ?k12_9 ?k13_9 ?_; (case k1_9 => k_asm); (case k2_9 => k_asm); (case k3_9 => k_asm); (case k4_9 => k_inst); (case k5_9 => exact rfl); (case k6_9 => k_is); (case k7_9 => k_is); (case k8_9 => k_is); (case k9_9 => k_is); (case k10_9 => k_get); (case k11_9 => k_put); (case k12_9 => walk_at "upd"); (case k13_9 => exact Nat.le_of_ble_eq_true rfl); k_whole); intro h' F' N'; (try k_sweep))
  k_with "nall" => first | exact List.forall_mem_nil _ | (refine' List.forall_mem_cons.mpr ⟨?a_9, ?b_9⟩; (case a_9 => walk_at "ne"); (case b_9 => walk_at "nall"))
  k_with "execs cons" => (k_here; (with_reducible refine gen_toks ?_); intro _)
  k_with "execs nil" => (k_here; (with_reducible refine gen_toks ?_); intro _)
  k_with "end eq" => (law_clear; (try simp only [decide_eq_true_eq, decide_eq_false_iff_not, ne_eq, Bool.not_eq_true, Bool.not_eq_false, bne_iff_ne, beq_iff_eq] at *); first | rfl | omega | (simp_all; done) | (simp_all; rfl) | ((simp_all); omega))
  k_with "CallK" => (k_here; (guard_target = CallK _ _ (Value.ref 22) _ _ _ _); k_dflt (refine' use_ctrX (c_day_of _ _ _) ?g9_9 ?n9_9 ?F9_9 ?N9_9 ?_; (case g9_9 => with_reducible assumption); (case n9_9 => exact rfl); (case F9_9 => k_asm); (case N9_9 => k_asm); k_whole); walk_at "uX")
  k_with "CallK" => (k_here; (guard_target = CallK _ _ (Value.ref 29) _ _ _ _); k_dflt (refine' use_ctrX (c_time_in_day _ _ _) ?g9_9 ?n9_9 ?F9_9 ?N9_9 ?_; (case g9_9 => with_reducible assumption); (case n9_9 => exact rfl); (case F9_9 => k_asm); (case N9_9 => k_asm); k_whole); walk_at "uX")
  k_with "CallK" => (k_here; (guard_target = CallK _ _ (Value.ref 36) _ _ _ _); k_dflt (refine' use_ctrV (c_leap _ _ _) ?g9_9 ?n9_9 ?F9_9 ?N9_9 ?_; (case g9_9 => with_reducible assumption); (case n9_9 => exact rfl); (case F9_9 => k_asm); (case N9_9 => k_asm); k_whole); walk_at "uV")
  k_with "CallK" => (k_here; (guard_target = CallK _ _ (Value.ref 43) _ _ _ _); k_dflt (refine' use_ctrX (c_dfy _ _ _) ?g9_9 ?n9_9 ?F9_9 ?N9_9 ?_; (case g9_9 => with_reducible assumption); (case n9_9 => exact rfl); (case F9_9 => k_asm); (case N9_9 => k_asm); k_whole); walk_at "uX")
  k_with "CallK" => (k_here; (guard_target = CallK _ _ (Value.ref 71) _ _ _ _); k_dflt (refine' use_ctrX (c_days_ahead _ _ _ _ ?p0_9 ?p1_9) ?g9_9 ?n9_9 ?F9_9 ?N9_9 ?_; (case g9_9 => with_reducible assumption); (case n9_9 => exact rfl); (case F9_9 => k_asm); (case N9_9 => k_asm); (case p0_9 => first | with_reducible assumption | decide | l_fact); (case p1_9 => first | with_reducible assumption | decide | l_fact); k_whole); walk_at "uX")
  k_with "CallK" => (k_here; (guard_target = CallK _ _ (Value.ref 50) _ _ _ _); k_dflt (refine' use_ctrX (c_year_of_day _ _ _ _ ?p0_9 ?p1_9) ?g9_9 ?n9_9 ?F9_9 ?N9_9 ?_; (case g9_9 => with_reducible assumption); (case n9_9 => exact rfl); (case F9_9 => k_asm); (case N9_9 => k_asm); (case p0_9 => assumption); (case p1_9 => assumption); k_whole); walk_at "uX")
  k_with "CallK" => (k_here; (guard_target = CallK _ _ (Value.ref 78) _ _ _ _); k_dflt (refine' use_ctrX (c_days_of_month _ _ _ _ _ ?p0_9 ?p1_9) ?g9_9 ?n9_9 ?F9_9 ?N9_9 ?_; (case g9_9 => with_reducible assumption); (case n9_9 => exact rfl); (case F9_9 => k_asm); (case N9_9 => k_asm); (case p0_9 => first | with_reducible assumption | decide | l_fact); (case p1_9 => first | with_reducible assumption | decide | l_fact); k_whole); walk_at "uX")
  k_with "CallK" => (k_here; (guard_target = CallK _ _ (Value.ref 57) _ _ _ _); k_dflt (refine' use_ctrX (c_year_of _ _ _ _ ?p0_9) ?g9_9 ?n9_9 ?F9_9 ?N9_9 ?_; (case g9_9 => with_reducible assumption); (case n9_9 => exact rfl); (case F9_9 => k_asm); (case N9_9 => k_asm); (case p0_9 => assumption); k_whole); walk_at "uX")
  k_with "CallK" => (k_here; (guard_target = CallK _ _ (Value.ref 64) _ _ _ _); k_dflt (refine' use_ctrX (c_day_in_year _ _ _ _ ?p0_9) ?g9_9 ?n9_9 ?F9_9 ?N9_9 ?_; (case g9_9 => with_reducible assumption); (case n9_9 => exact rfl); (case F9_9 => k_asm); (case N9_9 => k_asm); (case p0_9 => assumption); k_whole); walk_at "uX")
  k_with "CallK" => (k_here; (guard_target = CallK _ _ (Value.ref 85) _ _ _ _); k_dflt (refine' use_ctrX (c_month_of _ _ _ _ _ ?p0_9 ?p1_9) ?g9_9 ?n9_9 ?F9_9 ?N9_9 ?_; (case g9_9 => with_reducible assumption); (case n9_9 => exact rfl); (case F9_9 => k_asm); (case N9_9 => k_asm); (case p0_9 => assumption); (case p1_9 => assumption); k_whole); walk_at "uX")
  k_with "CallK" => (k_here; (guard_target = CallK _ _ (Value.ref 92) _ _ _ _); k_dflt (refine' use_ctrX (c_date_of _ _ _ _ _ ?p0_9 ?p1_9) ?g9_9 ?n9_9 ?F9_9 ?N9_9 ?_; (case g9_9 => with_reducible assumption); (case n9_9 => exact rfl); (case F9_9 => k_asm); (case N9_9 => k_asm); (case p0_9 => assumption); (case p1_9 => assumption); k_whole); walk_at "uX")
  k_with "CallK" => (k_here; (guard_target = CallK _ _ (Value.ref 99) _ _ _ _); k_dflt (refine' use_ctrX (c_week_day_of _ _ _) ?g9_9 ?n9_9 ?F9_9 ?N9_9 ?_; (case g9_9 => with_reducible assumption); (case n9_9 => exact rfl); (case F9_9 => k_asm); (case N9_9 => k_asm); k_whole); walk_at "uX")
  k_with "CallK" => (k_here; (guard_target = CallK _ _ (Value.ref 106) _ _ _ _); k_dflt (refine' use_ctrX (c_hour_of _ _ _) ?g9_9 ?n9_9 ?F9_9 ?N9_9 ?_; (case g9_9 => with_reducible assumption); (case n9_9 => exact rfl); (case F9_9 => k_asm); (case N9_9 => k_asm); k_whole); walk_at "uX")
  k_with "CallK" => (k_here; (guard_target = CallK _ _ (Value.ref 113) _ _ _ _); k_dflt (refine' use_ctrX (c_minute_of _ _ _) ?g9_9 ?n9_9 ?F9_9 ?N9_9 ?_; (case g9_9 => with_reducible assumption); (case n9_9 => exact rfl); (case F9_9 => k_asm); (case N9_9 => k_asm); k_whole); walk_at "uX")
  k_with "CallK" => (k_here; (guard_target = CallK _ _ (Value.ref 120) _ _ _ _); k_dflt (refine' use_ctrX (c_second_of _ _ _) ?g9_9 ?n9_9 ?F9_9 ?N9_9 ?_; (case g9_9 => with_reducible assumption); (case n9_9 => exact rfl); (case F9_9 => k_asm); (case N9_9 => k_asm); k_whole); walk_at "uX")
  k_with "CallK" => (k_here; (guard_target = CallK _ _ (Value.ref 127) _ _ _ _); k_dflt (refine' use_ctrX (c_ms_of _ _ _) ?g9_9 ?n9_9 ?F9_9 ?N9_9 ?_; (case g9_9 => with_reducible assumption); (case n9_9 => exact rfl); (case F9_9 => k_asm); (case N9_9 => k_asm); k_whole); walk_at "uX")
  k_with "compareOp In" => (k_here; (guard_target = wpAny _ _ (compareOp CmpOp.In Value.none (Value.ref _)) _ _ _); k_dflt (first | (refine' none_in4 ?N_9 ?a_9 ?n_9 ?_; (case N_9 => k_asm); (case a_9 => k_mem); (case n_9 => first | with_reducible assumption | ktr_units); k_whole) | (refine' none_in3 ?N_9 ?a_9 ?n_9 ?_; (case N_9 => k_asm); (case a_9 => k_mem); (case n_9 => first | with_reducible assumption | ktr_units); k_whole)); (try dsimp only))
  k_with "CallK" => (k_here; (guard_target = CallK _ _ (Value.ref 141) _ _ _ _); k_dflt (refine' use_ctrX (c_make_time _ _ _ _ _ _ _ _ _) ?g9_9 ?n9_9 ?F9_9 ?N9_9 ?_; (case g9_9 => with_reducible assumption); (case n9_9 => exact rfl); (case F9_9 => k_asm); (case N9_9 => k_asm); k_whole); walk_at "uX")
  k_with "CallK" => (k_here; (guard_target = CallK _ _ (Value.ref 148) _ _ _ _); k_dflt (refine' use_ctrX (c_make_day _ _ _ _ _ _ _) ?g9_9 ?n9_9 ?F9_9 ?N9_9 ?_; (case g9_9 => with_reducible assumption); (case n9_9 => exact rfl); (case F9_9 => k_asm); (case N9_9 => k_asm); k_whole); walk_at "uX")
  k_with "CallK" => (k_here; (guard_target = CallK _ _ (Value.ref 155) _ _ _ _); k_dflt (refine' use_ctrX (c_make_date _ _ _ _ _) ?g9_9 ?n9_9 ?F9_9 ?N9_9 ?_; (case g9_9 => with_reducible assumption); (case n9_9 => exact rfl); (case F9_9 => k_asm); (case N9_9 => k_asm); k_whole); walk_at "uX")
  k_with "CallK" => (k_here; (guard_target = CallK _ _ (Value.ref 176) _ _ _ _); k_dflt (refine' use_ctrX (c_local_of _ _ _ _ _) ?g9_9 ?n9_9 ?F9_9 ?N9_9 ?_; (case g9_9 => with_reducible assumption); (case n9_9 => exact rfl); (case F9_9 => k_asm); (case N9_9 => k_asm); k_whole); walk_at "uX")
  k_with "CallK" => (k_here; (guard_target = CallK _ _ (Value.ref 183) _ _ _ _); k_dflt (refine' use_ctrX (c_utc_of _ _ _ _ _) ?g9_9 ?n9_9 ?F9_9 ?N9_9 ?_; (case g9_9 => with_reducible assumption); (case n9_9 => exact rfl); (case F9_9 => k_asm); (case N9_9 => k_asm); k_whole); walk_at "uX")
  k_with "CallK" => (k_here; (guard_target = CallK _ _ (Value.ref 162) _ _ _ _); k_dflt (refine' use_ctr (c_time_clip _ _ _) ?g9_9 ?n9_9 ?F9_9 ?N9_9 ?_; (case g9_9 => with_reducible assumption); (case n9_9 => exact rfl); (case F9_9 => k_asm); (case N9_9 => k_asm); k_whole); intro r9 h9 tk9 hP9 F9 N9; (try dsimp only); (try k_sweep); (try k_fold))
  k_with "my size" => (simp only [Str.length_append, mk_len, figs_len, item_len, lit0, lit1, lit2, lit3, lit4, lit5, lit6, lit7, lit8, lit9, lit10, lit11, lit12, lit13, lit14, lit15, lit16, lit17, lit18, lit19, lit20, lit21, lit22, lit23, lit24, lit25, lit26, lit27, lit28, lit29, lit30, lit31, lit32, lit33, lit34, lit35, lit36, lit37, lit38, lit39, lit40, lit41, lit42, lit43, lit44, lit45, lit46, lit47, lit48, lit49, lit50, lit51, lit52, lit53, List.length_append, List.length_cons, List.length_nil]; omega)
  k_with "binaryOp Add str str" => (k_here; (guard_target = wpAny _ _ (binaryOp Operator.Add (Value.str _ _) (Value.str _ _)) _ _ _); (refine' add_txt ?z_9 ?_; (case z_9 => walk_at "my size")); intro _ _)
  k_with "CallK" => (k_here; (guard_target = CallK _ _ (Value.ref 192) _ _ _ _); k_dflt (refine' use_ctrX (c_padded2 _ _ _ _ ?p0_9 ?p1_9) ?g9_9 ?n9_9 ?F9_9 ?N9_9 ?_; (case g9_9 => with_reducible assumption); (case n9_9 => exact rfl); (case F9_9 => k_asm); (case N9_9 => k_asm); (case p0_9 => first | with_reducible assumption | decide | l_fact); (case p1_9 => first | with_reducible assumption | decide | l_fact); k_whole); walk_at "uX")
  k_with "CallK" => (k_here; (guard_target = CallK _ _ (Value.ref 192) _ _ _ _); k_dflt (refine' use_ctrX (c_padded4 _ _ _ _ ?p0_9 ?p1_9) ?g9_9 ?n9_9 ?F9_9 ?N9_9 ?_; (case g9_9 => with_reducible assumption); (case n9_9 => exact rfl); (case F9_9 => k_asm); (case N9_9 => k_asm); (case p0_9 => first | with_reducible assumption | decide | l_fact); (case p1_9 => first | with_reducible assumption | decide | l_fact); k_whole); walk_at "uX")
  k_with "CallK" => (k_here; (guard_target = CallK _ _ (Value.ref 199) _ _ _ _); k_dflt (refine' use_ctrX (c_plain_year _ _ _ ?p0_9 ?p1_9) ?g9_9 ?n9_9 ?F9_9 ?N9_9 ?_; (case g9_9 => with_reducible assumption); (case n9_9 => exact rfl); (case F9_9 => k_asm); (case N9_9 => k_asm); (case p0_9 => first | with_reducible assumption | decide | l_fact); (case p1_9 => first | with_reducible assumption | decide | l_fact); k_whole); walk_at "uX")
  k_with "CallK" => (k_here; (guard_target = CallK _ _ (Value.ref 206) _ _ _ _); k_dflt (refine' use_ctrX (c_clock_text _ _ _ _ _ _ _ ?p0_9 ?p1_9 ?p2_9 ?p3_9 ?p4_9 ?p5_9) ?g9_9 ?n9_9 ?F9_9 ?N9_9 ?_; (case g9_9 => with_reducible assumption); (case n9_9 => exact rfl); (case F9_9 => k_asm); (case N9_9 => k_asm); (case p0_9 => first | with_reducible assumption | decide | l_fact); (case p1_9 => first | with_reducible assumption | decide | l_fact); (case p2_9 => first | with_reducible assumption | decide | l_fact); (case p3_9 => first | with_reducible assumption | decide | l_fact); (case p4_9 => first | with_reducible assumption | decide | l_fact); (case p5_9 => first | with_reducible assumption | decide | l_fact); k_whole); walk_at "uX")
  k_with "CallK" => (k_here; (guard_target = CallK _ _ (Value.ref 220) _ _ _ _); k_dflt (refine' use_ctrX (c_offset_text _ _ _ ?p0_9 ?p1_9) ?g9_9 ?n9_9 ?F9_9 ?N9_9 ?_; (case g9_9 => with_reducible assumption); (case n9_9 => exact rfl); (case F9_9 => k_asm); (case N9_9 => k_asm); (case p0_9 => first | with_reducible assumption | decide | l_fact); (case p1_9 => first | with_reducible assumption | decide | l_fact); k_whole); walk_at "uX")
  k_with "CallK" => (k_here; (guard_target = CallK _ _ (Value.ref 134) _ _ _ _); k_dflt (refine' use_fields (c_fields_of _ _ _ _ _ ?p0_9 ?p1_9) ?g9_9 ?n9_9 ?F9_9 ?N9_9 ?_; (case g9_9 => with_reducible assumption); (case n9_9 => exact rfl); (case F9_9 => k_asm); (case N9_9 => k_asm); (case p0_9 => assumption); (case p1_9 => assumption); k_whole); intro q9 t91 t92 t93 t94 t95 t96 t97 h9 tk9 F9 N9; (try dsimp only); (try k_sweep); (try k_fold))
  k_with "subscriptTail" => (k_here; (guard_target = wpAny _ _ (subscriptTail _ _ (Value.ref 185) (Value.int _ _)) _ _ _); k_dflt (refine' wd_item ?k1_9 ?k2_9 ?k3_9 ?k4_9 ?_ ?k5_9; (case k1_9 => k_asm); (case k2_9 => k_asm); (case k3_9 => assumption); (case k4_9 => assumption); (case k5_9 => with_unfolding_all rfl)); intro _)
  k_with "subscriptTail" => (k_here; (guard_target = wpAny _ _ (subscriptTail _ _ (Value.ref 184) (Value.int _ _)) _ _ _); k_dflt (refine' mo_item ?k1_9 ?k2_9 ?k3_9 ?k4_9 ?_ ?k5_9; (case k1_9 => k_asm); (case k2_9 => k_asm); (case k3_9 => assumption); (case k4_9 => assumption); (case k5_9 => with_unfolding_all rfl)); intro _)
  k_with "my size" => (simp only [Str.length_append, mk_len, figs_len, item_len, clockT, offT, dayT, lit0, lit1, lit2, lit3, lit4, lit5, lit6, lit7, lit8, lit9, lit10, lit11, lit12, lit13, lit14, lit15, lit16, lit17, lit18, lit19, lit20, lit21, lit22, lit23, lit24, lit25, lit26, lit27, lit28, lit29, lit30, lit31, lit32, lit33, lit34, lit35, lit36, lit37, lit38, lit39, lit40, lit41, lit42, lit43, lit44, lit45, lit46, lit47, lit48, lit49, lit50, lit51, lit52, lit53, List.length_append, List.length_cons, List.length_nil]; (try split); omega)
  k_with "CallK" => (k_here; (guard_target = CallK _ _ (Value.ref 213) _ _ _ _); k_dflt (refine' use_ctrX (c_day_text _ _ _ _ _ ?p0_9 ?p1_9 ?p2_9) ?g9_9 ?n9_9 ?F9_9 ?N9_9 ?_; (case g9_9 => with_reducible assumption); (case n9_9 => exact rfl); (case F9_9 => k_asm); (case N9_9 => k_asm); (case p0_9 => assumption); (case p1_9 => assumption); (case p2_9 => assumption); k_whole); walk_at "uX")
  k_with "my size" => (simp only [Str.length_append, mk_len, figs_len, item_len, clockT_len, offT_len, timeT_len, lit0, lit1, lit2, lit3, lit4, lit5, lit6, lit7, lit8, lit9, lit10, lit11, lit12, lit13, lit14, lit15, lit16, lit17, lit18, lit19, lit20, lit21, lit22, lit23, lit24, lit25, lit26, lit27, lit28, lit29, lit30, lit31, lit32, lit33, lit34, lit35, lit36, lit37, lit38, lit39, lit40, lit41, lit42, lit43, lit44, lit45, lit46, lit47, lit48, lit49, lit50, lit51, lit52, lit53, List.length_append, List.length_cons, List.length_nil]; omega)
  k_with "CallK" => (k_here; (guard_target = CallK _ _ (Value.ref 227) _ _ _ _); k_dflt (refine' use_ctrX (c_time_text _ _ _ _ _ _ _ ?p0_9 ?p1_9 ?p2_9 ?p3_9) ?g9_9 ?n9_9 ?F9_9 ?N9_9 ?_; (case g9_9 => with_reducible assumption); (case n9_9 => exact rfl); (case F9_9 => k_asm); (case N9_9 => k_asm); (case p0_9 => assumption); (case p1_9 => assumption); (case p2_9 => first | with_reducible assumption | decide | l_fact); (case p3_9 => first | with_reducible assumption | decide | l_fact); k_whole); walk_at "uX")
  k_with "CallK" => (k_here; (guard_target = CallK _ _ (Value.ref 234) _ _ _ _); k_dflt (refine' use_ctrX (c_whole_text _ _ _ _ _ _ _ ?p0_9 ?p1_9 ?p2_9 ?p3_9 ?p4_9) ?g9_9 ?n9_9 ?F9_9 ?N9_9 ?_; (case g9_9 => with_reducible assumption); (case n9_9 => exact rfl); (case F9_9 => k_asm); (case N9_9 => k_asm); (case p0_9 => assumption); (case p1_9 => assumption); (case p2_9 => assumption); (case p3_9 => first | with_reducible assumption | decide | l_fact); (case p4_9 => first | with_reducible assumption | decide | l_fact); k_whole); walk_at "uX")
  k_with "CallK" => (k_here; (guard_target = CallK _ _ (Value.ref 234) _ _ _ _); k_dflt (refine' use_ctrX (c_whole_none _ _ _) ?g9_9 ?n9_9 ?F9_9 ?N9_9 ?_; (case g9_9 => with_reducible assumption); (case n9_9 => exact rfl); (case F9_9 => k_asm); (case N9_9 => k_asm); k_whole); walk_at "uX")
  k_with "CallK" => (k_here; (guard_target = CallK _ _ (Value.ref 241) _ _ _ _); k_dflt (refine' use_ctrX (c_utc_text _ _ _ _ _ ?p0_9 ?p1_9 ?p2_9) ?g9_9 ?n9_9 ?F9_9 ?N9_9 ?_; (case g9_9 => with_reducible assumption); (case n9_9 => exact rfl); (case F9_9 => k_asm); (case N9_9 => k_asm); (case p0_9 => assumption); (case p1_9 => assumption); (case p2_9 => assumption); k_whole); walk_at "uX")
  k_with "CallK" => (k_here; (guard_target = CallK _ _ (Value.ref 241) _ _ _ _); k_dflt (refine' use_ctrX (c_utc_none _) ?g9_9 ?n9_9 ?F9_9 ?N9_9 ?_; (case g9_9 => with_reducible assumption); (case n9_9 => exact rfl); (case F9_9 => k_asm); (case N9_9 => k_asm); k_whole); walk_at "uX")
  k_with "uRX" => (intro t9 t29 h9 tk9 F9 N9; (try dsimp only); (try k_sweep); (try k_fold))
  k_with "uRV" => (intro t29 h9 tk9 F9 N9; (try dsimp only); (try k_sweep); (try k_fold))
  k_with "call builtin:len" => (k_here; (guard_target = wpAny _ _ (call (Value.builtin "len") [Value.str _ _]) _ _ _); k_dflt (refine' len_mk ?z_9 ?_; (case z_9 => first | omega | (simp only [List.length_take, List.length_drop]; omega))); intro _ _; (try dsimp only))
  k_with "subscriptTail Name Slice str ref" => (k_here; k_dflt (refine' slice_mk_rd (s := ⟨_, _, _, _, _⟩) ?k1_9 ?k2_9 ?k3_9 ?k4_9 ?_ ?k5_9 ?k6_9; (case k1_9 => k_asm); (case k2_9 => k_asm); (case k3_9 => omega); (case k4_9 => omega); (case k5_9 => with_unfolding_all rfl); (case k6_9 => intro _; with_unfolding_all rfl)); intro _ _ _ _ _; (try dsimp only); (try k_sweep))
  k_with "eval Call Attribute" => (k_here; (with_reducible refine' rd_call ?k1_9 ?k2_9 ?k3_9 ?k4_9 ?k5_9 ?k6_9 ?kf_9 ?kg_9 ?kh_9 ?ki_9 ?kj_9 ?kk_9 ?kl_9 ?km_9 ?kn_9 ?kp_9 ?_); k_dflt ((case kp_9 => exact rfl); (case kl_9 => exact rfl); (case km_9 => exact rfl); (case kn_9 => exact rfl); (case k1_9 => k_asm); (case k2_9 => k_asm); (case k3_9 => k_asm); (case k4_9 => exact rfl); (case k5_9 => k_mem); (case k6_9 => k_mem); (case kf_9 => k_is); (case kg_9 => k_is); (case kh_9 => k_is); (case ki_9 => k_get); (case kj_9 => k_is); (case kk_9 => exact rfl); k_whole))
  k_with "eval Call Attribute" => (k_here; walk_at "fold")
  k_with "rd" => first | with_reducible assumption | exact rd_perm1 (by with_reducible assumption) | exact rd_perm2 (by with_reducible assumption) | exact rd_perm3 (by with_reducible assumption) | exact rd_perm4 (by with_reducible assumption) | k_asm
  k_with "CallK" => (k_here; (guard_target = CallK _ _ (Value.ref 269) _ _ _ _); k_dflt (refine' use_ctrRV (c_has' _ _ _ _ _ _ ?p0_9 ?p1_9 ?p2_9) ?g9_9 ?n9_9 ?F9_9 ?R9_9 ?e9_9 ?x9_9 ?_; (case g9_9 => with_reducible assumption); (case n9_9 => exact rfl); (case F9_9 => k_asm); (case R9_9 => walk_at "rd"); (case e9_9 => walk_at "nall"); (case x9_9 => with_reducible assumption); (case p0_9 => first | exact Nat.le_trans (by with_reducible assumption) (by decide) | omega); (case p1_9 => with_reducible (first | exact lit1 | exact lit2 | exact lit4 | exact lit8 | exact lit5 | exact lit15 | exact lit6 | exact lit7 | exact lit3 | exact rfl)); (case p2_9 => (first | decide | omega)); k_whole); walk_at "uRV")
  k_with "CallK" => (k_here; (guard_target = CallK _ _ (Value.ref 248) _ _ _ _); k_dflt (refine' use_opt (c_nof _ _ _ ?p0_9) ?g9_9 ?n9_9 ?F9_9 ?N9_9 ?h8_9 ?h9_9; (case g9_9 => with_reducible assumption); (case n9_9 => exact rfl); (case F9_9 => k_asm); (case N9_9 => k_asm); (case p0_9 => (simp only [List.length_take]; omega)); k_whole); all_goals (intros; (try k_sweep)))
  k_with "CallK" => (k_here; (guard_target = CallK _ _ (Value.ref 276) _ _ _ _); k_dflt (refine' use_ctrRV (c_need _ _ _ _ _ _ ?p0_9 ?p1_9 ?p2_9) ?g9_9 ?n9_9 ?F9_9 ?R9_9 ?e9_9 ?x9_9 ?_; (case g9_9 => with_reducible assumption); (case n9_9 => exact rfl); (case F9_9 => k_asm); (case R9_9 => walk_at "rd"); (case e9_9 => walk_at "nall"); (case x9_9 => with_reducible assumption); (case p0_9 => first | exact Nat.le_trans (by with_reducible assumption) (by decide) | omega); (case p1_9 => with_reducible (first | exact lit1 | exact lit2 | exact lit4 | exact lit8 | exact lit5 | exact lit15 | exact lit6 | exact lit7 | exact lit3 | exact rfl)); (case p2_9 => (first | decide | omega)); k_whole); walk_at "uRV")
  k_with "CallK" => (k_here; (guard_target = CallK _ _ (Value.ref 283) _ _ _ _); k_dflt (refine' use_ctrRX (c_number _ _ _ _ _ _ _ _ _ ?p0_9 ?p1_9 ?p2_9) ?g9_9 ?n9_9 ?F9_9 ?R9_9 ?e9_9 ?x9_9 ?_; (case g9_9 => with_reducible assumption); (case n9_9 => exact rfl); (case F9_9 => k_asm); (case R9_9 => walk_at "rd"); (case e9_9 => walk_at "nall"); (case x9_9 => with_reducible assumption); (case p0_9 => first | exact Nat.le_trans (by with_reducible assumption) (by decide) | omega); (case p1_9 => (first | decide | omega)); (case p2_9 => (first | decide | omega)); k_whole); walk_at "uRX")
  k_with "CallK" => (k_here; (guard_target = CallK _ _ (Value.ref 283) _ _ _ _); k_dflt (refine' use_ctrRX (c_number6 _ _ _ _ _ _ _ _ ?p0_9) ?g9_9 ?n9_9 ?F9_9 ?R9_9 ?e9_9 ?x9_9 ?_; (case g9_9 => with_reducible assumption); (case n9_9 => exact rfl); (case F9_9 => k_asm); (case R9_9 => walk_at "rd"); (case e9_9 => walk_at "nall"); (case x9_9 => with_reducible assumption); (case p0_9 => first | exact Nat.le_trans (by with_reducible assumption) (by decide) | omega); k_whole); walk_at "uRX")
  k_with "CallK" => (k_here; (guard_target = CallK _ _ (Value.ref 283) _ _ _ _); k_dflt (refine' use_ctrRX (c_number4 _ _ _ _ _ _ _ _ ?p0_9) ?g9_9 ?n9_9 ?F9_9 ?R9_9 ?e9_9 ?x9_9 ?_; (case g9_9 => with_reducible assumption); (case n9_9 => exact rfl); (case F9_9 => k_asm); (case R9_9 => walk_at "rd"); (case e9_9 => walk_at "nall"); (case x9_9 => with_reducible assumption); (case p0_9 => first | exact Nat.le_trans (by with_reducible assumption) (by decide) | omega); k_whole); walk_at "uRX")
  k_with "CallK" => (k_here; (guard_target = CallK _ _ (Value.ref 283) _ _ _ _); k_dflt (refine' use_ctrRX (c_number3 _ _ _ _ _ _ _ _ ?p0_9) ?g9_9 ?n9_9 ?F9_9 ?R9_9 ?e9_9 ?x9_9 ?_; (case g9_9 => with_reducible assumption); (case n9_9 => exact rfl); (case F9_9 => k_asm); (case R9_9 => walk_at "rd"); (case e9_9 => walk_at "nall"); (case x9_9 => with_reducible assumption); (case p0_9 => first | exact Nat.le_trans (by with_reducible assumption) (by decide) | omega); k_whole); walk_at "uRX")
  k_with "CallK" => (k_here; (guard_target = CallK _ _ (Value.ref 283) _ _ _ _); k_dflt (refine' use_ctrRX (c_number2 _ _ _ _ _ _ _ _ ?p0_9) ?g9_9 ?n9_9 ?F9_9 ?R9_9 ?e9_9 ?x9_9 ?_; (case g9_9 => with_reducible assumption); (case n9_9 => exact rfl); (case F9_9 => k_asm); (case R9_9 => walk_at "rd"); (case e9_9 => walk_at "nall"); (case x9_9 => with_reducible assumption); (case p0_9 => first | exact Nat.le_trans (by with_reducible assumption) (by decide) | omega); k_whole); walk_at "uRX")
  k_with "CallK" => (k_here; (guard_target = CallK _ _ (Value.ref 297) _ _ _ _); k_dflt (refine' use_ctrRV (c_ends _ _ _ ?p0_9) ?g9_9 ?n9_9 ?F9_9 ?R9_9 ?e9_9 ?x9_9 ?_; (case g9_9 => with_reducible assumption); (case n9_9 => exact rfl); (case F9_9 => k_asm); (case R9_9 => walk_at "rd"); (case e9_9 => walk_at "nall"); (case x9_9 => with_reducible assumption); (case p0_9 => first | exact Nat.le_trans (by with_reducible assumption) (by decide) | omega); k_whole); walk_at "uRV")
  k_with "CallK" => (k_here; (guard_target = CallK _ _ (Value.ref 304) _ _ _ _); k_dflt (refine' use_ctrRX (c_year _ _ _ ?p0_9) ?g9_9 ?n9_9 ?F9_9 ?R9_9 ?e9_9 ?x9_9 ?_; (case g9_9 => with_reducible assumption); (case n9_9 => exact rfl); (case F9_9 => k_asm); (case R9_9 => walk_at "rd"); (case e9_9 => walk_at "nall"); (case x9_9 => with_reducible assumption); (case p0_9 => first | exact Nat.le_trans (by with_reducible assumption) (by decide) | omega); k_whole); walk_at "uRX")
  k_with "CallK" => (k_here; (guard_target = CallK _ _ (Value.ref 325) _ _ _ _); k_dflt (refine' use_ctrRX (c_zone _ _ _ _ ?p0_9) ?g9_9 ?n9_9 ?F9_9 ?R9_9 ?e9_9 ?x9_9 ?_; (case g9_9 => with_reducible assumption); (case n9_9 => exact rfl); (case F9_9 => k_asm); (case R9_9 => walk_at "rd"); (case e9_9 => walk_at "nall"); (case x9_9 => with_reducible assumption); (case p0_9 => first | exact Nat.le_trans (by with_reducible assumption) (by decide) | omega); k_whole); walk_at "uRX")
  k_with "CallK" => (k_here; (guard_target = CallK _ _ (Value.ref 318) _ _ _ _); k_dflt (refine' use_tup4 (c_clock _ _ _ ?p0_9) ?g9_9 ?n9_9 ?F9_9 ?R9_9 ?e9_9 ?x9_9 ?_; (case g9_9 => with_reducible assumption); (case n9_9 => exact rfl); (case F9_9 => k_asm); (case R9_9 => walk_at "rd"); (case e9_9 => walk_at "nall"); (case x9_9 => with_reducible assumption); (case p0_9 => first | exact Nat.le_trans (by with_reducible assumption) (by decide) | omega); k_whole); intro q9 u91 u92 u93 u94 t29 h9 tk9 F9 N9; (try dsimp only); (try k_sweep); (try k_fold))
  k_with "CallK" => (k_here; (guard_target = CallK _ _ (Value.ref 328) _ _ _ _); k_dflt (refine' use_reader (c_reader _ _ _ ?p0_9) ?g9_9 ?n9_9 ?F9_9 ?N9_9 ?_; (case g9_9 => with_reducible assumption); (case n9_9 => exact rfl); (case F9_9 => k_asm); (case N9_9 => k_asm); (case p0_9 => first | exact Nat.le_trans (by with_reducible assumption) (by decide) | omega); k_whole); intro x9 d9 u91 u92 u93 u94 u95 h9 tk9 m9 F9 N9; (try dsimp only); (try k_sweep); (try k_fold))
  k_with "CallK" => (k_here; (guard_target = CallK _ _ (Value.ref 339) _ _ _ _); k_dflt (refine' use_tup4 (c_iso_clock _ _ _ ?p0_9) ?g9_9 ?n9_9 ?F9_9 ?R9_9 ?e9_9 ?x9_9 ?_; (case g9_9 => with_reducible assumption); (case n9_9 => exact rfl); (case F9_9 => k_asm); (case R9_9 => walk_at "rd"); (case e9_9 => walk_at "nall"); (case x9_9 => with_reducible assumption); (case p0_9 => first | exact Nat.le_trans (by with_reducible assumption) (by decide) | omega); k_whole); intro q9 u91 u92 u93 u94 t29 h9 tk9 F9 N9; (try dsimp only); (try k_sweep); (try k_fold))
  k_with "CallK" => (k_here; (guard_target = CallK _ _ (Value.ref 169) _ _ _ _); k_dflt (refine' use_ctrMX (c_tof _ _ _ _ _ _ _ _ _ _ _ _ _ _ _ _) ?g9_9 ?n9_9 ?F9_9 ?N9_9 ?q9_9 ?_; (case g9_9 => with_reducible assumption); (case n9_9 => exact rfl); (case F9_9 => k_asm); (case N9_9 => k_asm); (case q9_9 => k_mem); k_whole); walk_at "uX")
  k_with "CallK" => (k_here; (guard_target = CallK _ _ (Value.ref 269) _ _ _ _); k_dflt (refine' use_ctrRV (c_hasF _ _ _ _ _ _ ?p0_9 ?p1_9 ?p2_9 ?p3_9) ?g9_9 ?n9_9 ?F9_9 ?R9_9 ?e9_9 ?x9_9 ?_; (case g9_9 => with_reducible assumption); (case n9_9 => exact rfl); (case F9_9 => k_asm); (case R9_9 => walk_at "rd"); (case e9_9 => walk_at "nall"); (case x9_9 => with_reducible assumption); (case p0_9 => first | exact Nat.le_trans (by with_reducible assumption) (by decide) | omega); (case p1_9 => with_reducible (first | exact lit1 | exact lit5 | exact lit15)); (case p2_9 => decide); (case p3_9 => with_reducible assumption); k_whole); walk_at "uRV")
  k_with "CallK" => (k_here; (guard_target = CallK _ _ (Value.ref 269) _ _ _ _); k_dflt (refine' use_ctrRV (c_hasT _ _ _ _ _ _ ?p0_9 ?p1_9 ?p2_9 ?p3_9) ?g9_9 ?n9_9 ?F9_9 ?R9_9 ?e9_9 ?x9_9 ?_; (case g9_9 => with_reducible assumption); (case n9_9 => exact rfl); (case F9_9 => k_asm); (case R9_9 => walk_at "rd"); (case e9_9 => walk_at "nall"); (case x9_9 => with_reducible assumption); (case p0_9 => first | exact Nat.le_trans (by with_reducible assumption) (by decide) | omega); (case p1_9 => with_reducible (first | exact lit1 | exact lit5 | exact lit15)); (case p2_9 => decide); (case p3_9 => with_reducible assumption); k_whole); walk_at "uRV")
  k_with "CallK" => (k_here; (guard_target = CallK _ _ (Value.ref 78) _ _ _ _); k_dflt (refine' use_ctrX (c_days_of_month _ _ _ _ _ ?p0_9 ?p1_9) ?g9_9 ?n9_9 ?F9_9 ?N9_9 ?_; (case g9_9 => with_reducible assumption); (case n9_9 => exact rfl); (case F9_9 => k_asm); (case N9_9 => k_asm); (case p0_9 => exact mo_b0); (case p1_9 => exact mo_b1); k_whole); walk_at "uX")
  trivial
set_option maxRecDepth 100000
set_option maxHeartbeats 8000000

/-- the top's list of texts at an address -/
noncomputable def TopWords (K : Frag) (a : Addr) (ws : List (List Nat)) : Prop := ∃ (vs : List Value) (n : Nat), K.lookup a = some ⟨.type "list", none, .seq vs.toArray n, #[]⟩ ∧ StrsAre vs (ws.map mk)
theorem strs_at (k : Str) : ∀ {vs : List Value} {ys : List Str}, StrsAre vs ys → ∀ (j : Nat) (h : j < vs.length) (h' : j < ys.length), isStrOf k vs[j] = (ys[j] == k)
  | _, _, .cons y t r, 0, _, _ => rfl
  | _, _, .cons y t r, j + 1, h, h' => by
    simp only [List.getElem_cons_succ]
    exact strs_at k r j (by simpa using h) (by simpa using h')
theorem idx_ne {x : List Nat} : ∀ (ws : List (List Nat)) {j : Nat}, j < ws.idxOf x → ws[j]? = some x → False
  | [], _, h, _ => by simp at h
  | a :: r, j, h, e => by
    rw [List.idxOf_cons] at h
    cases q : (a == x) with
    | true => rw [q] at h; simp at h
    | false =>
      rw [q] at h
      cases j with
      | zero => simp at e; simp [e] at q
      | succ j => exact idx_ne r (by simpa using h) (by simpa using e)
theorem idx_mk (x : List Nat) : ∀ ws : List (List Nat), (ws.map mk).idxOf (mk x) = ws.idxOf x
  | [] => rfl
  | a :: r => by
    have e : (mk a == mk x) = (a == x) := by rw [Bool.eq_iff_iff]; simp only [beq_iff_eq, mk_inj]
    rw [List.map_cons, List.idxOf_cons, List.idxOf_cons, idx_mk x r, e]
section
variable {prog : Program} {w : World} {A : Around} {E : Value → Shared → Prop} {s : Shared} {h₀ : Heap} {L a : Addr} {m : Str → Option Value} {ws : List (List Nat)} {x : List Nat} {t : Tok}
theorem words_method {pl : Sem Bool} {Q : Value × List Value → Shared → Prop} (F : Fr h₀ L s.heap m) (X : (hd.heap_1 w.params).In h₀) (W : TopWords (hd.heap_1 w.params) a ws) (h : Q (.builtin "list.index", [.ref a]) s) :
    wpAny (model prog w) A (getMethod (.ref a) (Str.ofString "index") pl) Q E s := by
  obtain ⟨vs, n, hl, _⟩ := W
  have ho := (X.keeps F.keep) _ _ hl
  exact getMethod_builtin ⟨_, ho, rfl⟩ PySem.F.plainAttrs_list PySem.F.slot_list_index PySem.F.type_list_index (fun a e => by cases e; exact ⟨_, ho, rfl⟩) h
theorem words_index {Q : Value → Shared → Prop} (F : Fr h₀ L s.heap m) (X : (hd.heap_1 w.params).In h₀) (W : TopWords (hd.heap_1 w.params) a ws) (hw : ws.length ≤ 1000) (hx : ws.contains x = true) (h : ∀ t' k, Q (.int (ws.idxOf x : Nat) t') { s with toks := k }) :
    wpAny (model prog w) A (call (.builtin "list.index") [.ref a, .str (mk x) t]) Q E s := by
  obtain ⟨vs, n, hl, hi⟩ := W
  have ho := (X.keeps F.keep) _ _ hl
  have hx' : x ∈ ws := by simpa using hx
  have hlen : vs.length = ws.length := by have := hi.len_eq; simpa using this
  have hj : ws.idxOf x < ws.length := List.idxOf_lt_length_iff.mpr hx'
  refine call_meets PySem.F.slot_list_index ⟨_, ho, rfl⟩ PySem.F.entry_list_index (PySem.F.args_list_index_2 _ _)
    (PySem.SeqAt.list_indexAt a vs.toArray n none #[] (.str (mk x) t) (isStrOf (mk x)) (ws.idxOf x) (by simpa [hlen] using hj) (by (first | lia | omega)) ?_ ?_) ⟨ho, fun y hy => (eq_isStrOf (mk x) t hi y (by simpa using hy)).at _ _, h _ _⟩
  · show isStrOf (mk x) vs[ws.idxOf x] = true
    rw [strs_at (mk x) hi _ (by (first | lia | omega)) (by simpa using hj)]
    simp only [List.getElem_map, beq_iff_eq, mk_inj]
    exact List.getElem_idxOf hj
  · intro j hjs hlt
    show isStrOf (mk x) vs[j] = false
    rw [strs_at (mk x) hi j (by simpa using hjs) (by simp; (first | lia | omega))]
    simp only [List.getElem_map, beq_eq_false_iff_ne, ne_eq, mk_inj]
    intro e
    exact idx_ne ws hlt (by rw [List.getElem?_eq_getElem (by have := hlen; simp at hjs; (first | lia | omega))]; exact congrArg some e)
theorem words_notin {Q : Value → Shared → Prop} (F : Fr h₀ L s.heap m) (X : (hd.heap_1 w.params).In h₀) (W : TopWords (hd.heap_1 w.params) a ws) (h : Q (.bool (!(ws.contains x))) s) :
    wpAny (model prog w) A (compareOp .NotIn (.str (mk x) t) (.ref a)) Q E s := by
  obtain ⟨vs, n, hl, hi⟩ := W
  have hL : s.heap.IsList a vs.toArray := ⟨_, (X.keeps F.keep) _ _ hl, rfl, n, rfl⟩
  have e : (ws.map mk).any (· == mk x) = ws.contains x := by
    rw [Bool.eq_iff_iff]
    simp only [List.any_map, List.any_eq_true, Function.comp_apply, beq_iff_eq, mk_inj, List.contains_iff_mem]
    exact ⟨fun ⟨y, hy, e⟩ => e ▸ hy, fun hy => ⟨x, hy, rfl⟩⟩
  exact notin_list_strs hL hi (by rw [e]; exact h)
end
theorem words_wd (P : Params) : TopWords (hd.heap_1 P) 185 wdL := by
  refine ⟨_, _, rfl, ?_⟩
  show StrsAre _ [mk _, mk _, mk _, mk _, mk _, mk _, mk _]
  rw [← lit46, ← lit47, ← lit48, ← lit49, ← lit50, ← lit51, ← lit52]
  repeat constructor
theorem words_mo (P : Params) : TopWords (hd.heap_1 P) 184 moL := by
  refine ⟨_, _, rfl, ?_⟩
  show StrsAre _ [mk _, mk _, mk _, mk _, mk _, mk _, mk _, mk _, mk _, mk _, mk _, mk _]
  rw [← lit34, ← lit35, ← lit36, ← lit37, ← lit38, ← lit39, ← lit40, ← lit41, ← lit42, ← lit43, ← lit44, ← lit45]
  repeat constructor
theorem am_w {ws : List (List Nat)} {l : List Nat} {s : RS} (h : amOk ws l s = false) : amV ws l s = 0 ∧ amS ws l s = ⟨s.p, true⟩ := by
  unfold amV amS; rw [if_neg (by simp [h]), if_neg (by simp [h])]; exact ⟨rfl, rfl⟩
theorem am_r {ws : List (List Nat)} {l : List Nat} {s : RS} (h : amOk ws l s = true) : amV ws l s = (ws.idxOf ((l.drop s.p).take 3) : Nat) ∧ amS ws l s = ⟨s.p + 3, s.b⟩ := by
  unfold amV amS cut; rw [if_pos h, if_pos h]; exact ⟨rfl, rfl⟩
theorem am_1 {ws : List (List Nat)} {l : List Nat} {s : RS} (h : s.b = true) : amOk ws l s = false := by simp [amOk, h]
theorem am_2 {ws : List (List Nat)} {l : List Nat} {s : RS} (h : ws.contains ((l.drop s.p).take (Int.toNat 3)) = false) : amOk ws l s = false := by
  have h' : ws.contains ((l.drop s.p).take 3) = false := h
  unfold amOk cut; rw [h']; simp
theorem am_3 {ws : List (List Nat)} {l : List Nat} {s : RS} (hb : s.b = false) (h : ws.contains ((l.drop s.p).take (Int.toNat 3)) = true) : amOk ws l s = true := by
  have h' : ws.contains ((l.drop s.p).take 3) = true := h
  unfold amOk cut; rw [h', hb]; rfl
theorem ru_A10_1 : True := by
  k_with "compareOp NotIn str ref" => (k_here; (guard_target = wpAny _ _ (compareOp CmpOp.NotIn (Value.str (mk _) _) (Value.ref _)) _ _ _); k_dflt (refine' words_notin ?k1_9 ?k2_9 (by with_reducible assumption) ?_; (case k1_9 => k_asm); (case k2_9 => k_asm)); (try dsimp only))
  k_with "getMethod ref" => (k_here; (guard_target = wpAny _ _ (getMethod (Value.ref _) (Str.ofString "index") _) _ _ _); k_dflt (refine' words_method ?k1_9 ?k2_9 (by with_reducible assumption) ?_; (case k1_9 => k_asm); (case k2_9 => k_asm)); (try dsimp only))
  k_with "call builtin:list.index" => (k_here; (guard_target = wpAny _ _ (call (Value.builtin "list.index") [Value.ref _, Value.str (mk _) _]) _ _ _); k_dflt (refine' words_index ?k1_9 ?k2_9 (by with_reducible assumption) (by with_reducible assumption) (by with_reducible assumption) ?_; (case k1_9 => k_asm); (case k2_9 => k_asm)); intro _ _; (try dsimp only))
  trivial
theorem c_among (w : World) (a : Addr) (ws : List (List Nat)) (l : List Nat) (s : RS) (W : TopWords (hd.heap_1 w.params) a ws) (hw : ws.length ≤ 1000) (hl : l.length ≤ 1000) : CtrR w 290 1 [.ref a] l s (amS ws l s) (intv (amV ws l s)) := by
  k_dflt (refine' ctrR_enter (bs := fun x => [(Str.ofString "words", .ref a), (Str.ofString "self", .ref x)]) ?k6 ?k7 ?kb ?kB ?kr ?c2 ?c3 ?c4 ?c5 ?_; (case k6 => k_is); (case k7 => k_is); (case kb => exact fun _ => rfl); (case kB => exact fun _ => rfl); (case kr => exact fun _ => rfl); (case c2 => exact rfl); (case c3 => exact rfl); (case c4 => exact rfl); (case c5 => decide))
  intro x dx k1 k2 k3 t1 t2 hxd mean mg mb dp un gd outer A₀ base g' L' h9 gs9 d9 tk9 o9 Q
  intro A9 P9 u9 B' F9 X' N' T' hdp hun hret
  walk_at "steps"
  all_goals first
    | (have e := am_w (ws := ws) (l := l) (s := s) (by first | exact am_1 (by with_reducible assumption) | exact am_2 (by with_reducible assumption)); rw [e.1, e.2] at hret; exact hret _ _ _ _ ⟨_, rfl⟩ (by k_asm) (by k_asm))
    | (have e := am_r (am_3 (ws := ws) (l := l) (s := s) (by with_reducible assumption) (by with_reducible assumption)); have e2 : ((s.p + 3 : Nat) : Int) = s.p + 3 := (by omega); rw [e.1, e.2] at hret; dsimp only at hret; rw [e2] at hret; exact hret _ _ _ _ ⟨_, rfl⟩ (by k_asm) (by k_asm))
theorem c_amongW (w : World) (l : List Nat) (s : RS) (hl : l.length ≤ 1000) : CtrR w 290 1 [.ref 185] l s (amS wdL l s) (intv (amV wdL l s)) := c_among w 185 wdL l s (words_wd _) (by decide) hl
theorem c_amongM (w : World) (l : List Nat) (s : RS) (hl : l.length ≤ 1000) : CtrR w 290 1 [.ref 184] l s (amS moL l s) (intv (amV moL l s)) := c_among w 184 moL l s (words_mo _) (by decide) hl
theorem ru_A10_2 : True := by
  k_with "CallK" => (k_here; (guard_target = CallK _ _ (Value.ref 290) _ _ _ _); k_dflt (refine' use_ctrRX (c_amongW _ _ _ ?p0_9) ?g9_9 ?n9_9 ?F9_9 ?R9_9 ?e9_9 ?x9_9 ?_; (case g9_9 => with_reducible assumption); (case n9_9 => exact rfl); (case F9_9 => k_asm); (case R9_9 => walk_at "rd"); (case e9_9 => walk_at "nall"); (case x9_9 => with_reducible assumption); (case p0_9 => first | exact Nat.le_trans (by with_reducible assumption) (by decide) | omega); k_whole); walk_at "uRX")
  k_with "CallK" => (k_here; (guard_target = CallK _ _ (Value.ref 290) _ _ _ _); k_dflt (refine' use_ctrRX (c_amongM _ _ _ ?p0_9) ?g9_9 ?n9_9 ?F9_9 ?R9_9 ?e9_9 ?x9_9 ?_; (case g9_9 => with_reducible assumption); (case n9_9 => exact rfl); (case F9_9 => k_asm); (case R9_9 => walk_at "rd"); (case e9_9 => walk_at "nall"); (case x9_9 => with_reducible assumption); (case p0_9 => first | exact Nat.le_trans (by with_reducible assumption) (by decide) | omega); k_whole); walk_at "uRX")
  k_with "CallK" => (k_here; (guard_target = CallK _ _ (Value.ref 283) _ _ _ _); k_dflt (refine' use_ctrRX (c_number _ _ _ _ _ _ _ _ _ ?p0_9 ?p1_9 ?p2_9) ?g9_9 ?n9_9 ?F9_9 ?R9_9 ?e9_9 ?x9_9 ?_; (case g9_9 => with_reducible assumption); (case n9_9 => exact rfl); (case F9_9 => k_asm); (case R9_9 => walk_at "rd"); (case e9_9 => walk_at "nall"); (case x9_9 => with_reducible assumption); (case p0_9 => first | exact Nat.le_trans (by with_reducible assumption) (by decide) | omega); (case p1_9 => (split <;> omega)); (case p2_9 => (split <;> omega)); k_whole); walk_at "uRX")
  trivial
theorem c_long_year (w : World) (l : List Nat) (s : RS) (hl : l.length ≤ 50) : CtrR w 311 3 [] l s (lyS l s) (intv (lyV l s)) := by
  k_dflt (refine' ctrR_enter (bs := fun x => [(Str.ofString "self", .ref x)]) ?k6 ?k7 ?kb ?kB ?kr ?c2 ?c3 ?c4 ?c5 ?_; (case k6 => k_is); (case k7 => k_is); (case kb => exact fun _ => rfl); (case kB => exact fun _ => rfl); (case kr => exact fun _ => rfl); (case c2 => exact rfl); (case c3 => exact rfl); (case c4 => exact rfl); (case c5 => decide))
  intro x dx k1 k2 k3 t1 t2 hxd mean mg mb dp un gd outer A₀ base g' L' h9 gs9 d9 tk9 o9 Q
  intro A9 P9 u9 B' F9 X' N' T' hdp hun hret
  have hr := run_le l (hasS l s [45]).p
  k_with "exec While BoolOp" => k_while (fun _ (e : Int) => ((hasS l s [45]).p : Int) ≤ e ∧ e ≤ ((hasS l s [45]).p : Int) + run l (hasS l s [45]).p) (fun _ e => (((hasS l s [45]).p : Int) + run l (hasS l s [45]).p - e).toNat) "end"
  k_with "state" => first | exact run_step (by assumption) (by assumption) (by assumption) (by assumption) | omega
  k_with "measure" => exact run_step2 (by assumption) (by assumption) (by assumption) (by assumption)
  walk_at "steps"
  all_goals first
    | (have e1 := ly_k (by first | exact run_end1 (by with_reducible assumption) (by with_reducible assumption) (by with_reducible assumption) (by with_reducible assumption) | exact run_end2 (by with_reducible assumption) (by with_reducible assumption) (by with_reducible assumption)); have hq : hasB l s [45] = true := (by with_reducible assumption); simp only [lyS, lyV, hq, if_true] at hret; rw [← e1] at hret; exact hret _ _ _ _ ⟨_, rfl⟩ (by k_asm) (by first | with_reducible assumption | exact drop_news (by with_reducible assumption) (by first | with_reducible exact ktn_subA | repeat (first | with_reducible exact sub_refl | with_reducible refine sub_cons ?_ | with_reducible refine sub_skip ?_))))
    | (have e1 := ly_k (by first | exact run_end1 (by with_reducible assumption) (by with_reducible assumption) (by with_reducible assumption) (by with_reducible assumption) | exact run_end2 (by with_reducible assumption) (by with_reducible assumption) (by with_reducible assumption)); have hq : hasB l s [45] = false := (by with_reducible assumption); simp only [lyS, lyV, hq, Bool.false_eq_true, if_false] at hret; rw [← e1] at hret; exact hret _ _ _ _ ⟨_, rfl⟩ (by k_asm) (by first | with_reducible assumption | exact drop_news (by with_reducible assumption) (by first | with_reducible exact ktn_subA | repeat (first | with_reducible exact sub_refl | with_reducible refine sub_cons ?_ | with_reducible refine sub_skip ?_))))
    | (exfalso; simp only [mk_len] at *; omega)
theorem ru_A10_3 : True := by
  k_with "CallK" => (k_here; (guard_target = CallK _ _ (Value.ref 311) _ _ _ _); k_dflt (refine' use_ctrRX (c_long_year _ _ _ ?p0_9) ?g9_9 ?n9_9 ?F9_9 ?R9_9 ?e9_9 ?x9_9 ?_; (case g9_9 => with_reducible assumption); (case n9_9 => exact rfl); (case F9_9 => k_asm); (case R9_9 => walk_at "rd"); (case e9_9 => walk_at "nall"); (case x9_9 => with_reducible assumption); (case p0_9 => first | exact Nat.le_trans (by with_reducible assumption) (by decide) | omega); k_whole); walk_at "uRX")
  trivial
end

section -- A11
theorem rst_A11 : True := by
  w_top off
  trivial
open PySem PySem.W PySem.Calls PyProof.Rows
theorem ru_A11_0 : True := by
  k_with_none
  k_with "steps" => (repeat' (first | k_unfold | (k_end; kc_close) | walk1 | (dsimp only; walk1) | (leave1; (try dsimp only)) | fail "no step"))
  k_with "eval Constant int" => (k_here; (with_reducible refine ct9 ?_); intro _ _)
  k_with "eval Constant str" => (k_here; (with_reducible refine cs9 ?_); intro _ _)
  k_with "binaryOp Add int int" => (k_here; (with_reducible refine ar_add ?_); intro _ _)
  k_with "binaryOp Sub int int" => (k_here; (with_reducible refine ar_sub ?_); intro _ _)
  k_with "binaryOp Mult int int" => (k_here; (with_reducible refine' ar_mul ?_ ?m9_9); k_dflt (case m9_9 => mul_fits); intro _ _)
  k_with "binaryOp FloorDiv int int" => (k_here; (with_reducible refine' ar_div ?b9_9 ?_ ?p9_9); k_dflt (case b9_9 => decide); k_dflt (case p9_9 => first | exact PyProof.noPylong_of_log2 (by decide +kernel) | exact PyProof.noPylong_small (by omega)); intro _ _)
  k_with "binaryOp Mod int int" => (k_here; (with_reducible refine ar_mod ?b9_9 ?_); (case b9_9 => first | decide | omega | assumption); intro _ _)
  k_with "inplaceOp Add int int" => (k_here; (with_reducible refine ar_iadd ?_); intro _ _)
  k_with "storeName" => (k_here; k_dflt (refine' st9 ?F_9 ?N_9 ?_ ?a_9 ?b_9; (case F_9 => with_reducible assumption); (case N_9 => with_reducible assumption); (case a_9 => exact rfl); (case b_9 => exact rfl); k_whole); intro h9 k9 F9 N9; (try k_sweep))
  k_with "newTuple" => (k_here; kup_bare; k_dflt (refine' nt9 ?F_9 ?N_9 ?_ ?z_9; (case F_9 => with_reducible assumption); (case N_9 => with_reducible assumption); (case z_9 => kmk_size)); intro D9 h9 F9 N9; (try k_sweep))
  k_with "eval Tuple" => (k_here; k_whole; (with_reducible refine tk_go ?h9_9 ?_); k_dflt (case h9_9 => exact rfl))
  k_with "eval Tuple" => (k_here; walk_at "fold")
  k_with "TupK" => (k_here; (with_reducible refine tk_e ?_))
  k_with "TupK" => (k_here; (with_reducible refine' tk_n ?k1_9 ?k2_9 ?k3_9 ?k4_9 ?k5_9 ?_); k_dflt ((case k3_9 => exact rfl); (case k4_9 => exact rfl); (case k1_9 => k_asm); (case k2_9 => exact rfl); (case k5_9 => exact rfl); k_whole))
  k_with "TupK" => (k_here; (with_reducible refine tk_i ?_); intro _ _)
  k_with "TupK" => (k_here; (first | with_reducible refine tk_2 ?_ | with_reducible refine tk_3 ?_ | with_reducible refine tk_4 ?_ | with_reducible refine tk_5 ?_ | with_reducible refine tk_6 ?_))
  k_with "uX" => (intro t9 h9 tk9 F9 N9; (try dsimp only); (try k_sweep); (try k_fold))
  k_with "uV" => (intro h9 tk9 F9 N9; (try dsimp only); (try k_sweep); (try k_fold))
  k_with "callWith ref" => (k_here; k_dflt (first | (refine' cw_K0 ?k1_9 ?k2_9 ?_; (case k1_9 => k_is); (case k2_9 => exact rfl); k_whole) | (refine' cw_K1 ?k1_9 ?k2_9 ?_; (case k1_9 => k_is); (case k2_9 => exact rfl); k_whole)))
  k_with "eval Call" => (k_here; (with_reducible refine' cg_K ?k1_9 ?k2_9 ?k3_9 ?k4_9 ?k5_9 ?k6_9 ?k7_9 ?k8_9 ?k9_9 ?_); k_dflt ((case k7_9 => exact rfl); (case k8_9 => exact rfl); (case k9_9 => exact rfl); (case k1_9 => k_asm); (case k2_9 => k_asm); (case k3_9 => k_asm); (case k4_9 => k_is); (case k5_9 => exact rfl); (case k6_9 => k_is); k_whole))
  k_with "eval Name" => (k_here; k_dflt (refine' nm9 ?k1_9 ?k2_9 ?k3_9 ?k4_9 ?k5_9 ?_; (case k4_9 => exact rfl); (case k3_9 => exact rfl); (case k1_9 => k_asm); (case k2_9 => exact rfl); (case k5_9 => exact rfl); k_whole))
  k_with "fold" => (k_whole; (fail_if_success (fail_if_success k_fold)); refine fold9 ?_; intro qk)
  k_with "eval Call" => (k_here; walk_at "fold")
  k_with "eval BinOp" => (k_here; walk_at "fold")
  k_with "ArgK" => (k_here; (with_reducible refine ak_e ?_))
  k_with "ArgK" => (k_here; (with_reducible refine' ak_n ?k1_9 ?k2_9 ?k3_9 ?k4_9 ?k5_9 ?_); k_dflt ((case k3_9 => exact rfl); (case k4_9 => exact rfl); (case k1_9 => k_asm); (case k2_9 => exact rfl); (case k5_9 => exact rfl); k_whole))
  k_with "ArgK" => (k_here; (first | with_reducible refine ak_i ?_ | with_reducible refine ak_s ?_); intro _ _)
  k_with "ArgK" => (k_here; (first | with_reducible refine ak_1 ?_ | with_reducible refine ak_2 ?_ | with_reducible refine ak_3 ?_ | with_reducible refine ak_4 ?_ | with_reducible refine ak_0 ?_))
  k_with "ne" => first | with_reducible assumption | exact ne_news (by with_reducible assumption) (by k_mem) (by k_mem) rfl | k_ne
  k_with "upd" => first | (refine' Upd.head ?a_9; (case a_9 => walk_at "nall")) | (refine' Upd.tail ?a_9 ?b_9; (case a_9 => walk_at "ne"); (case b_9 => walk_at "upd"))
  k_with "setAttr ref" => (k_here; k_dflt (refine' set_dict ?k1_9 ?k2_9 ?k3_9 ?k4_9 ?k5_9 ?k6_9 ?k7_9 ?k8_9 ?k9_9 ?k10_9 ?k11_9 ?k12_9 ?k13_9 ?_; (case k1_9 => k_asm); (case k2_9 => k_asm); (case k3_9 => k_asm); (case k4_9 => k_inst); (case k5_9 => exact rfl); (case k6_9 => k_is); (case k7_9 => k_is); (case k8_9 => k_is); (case k9_9 => k_is); (case k10_9 => k_get); (case k11_9 => k_put); (case k12_9 => walk_at "upd"); (case k13_9 => exact Nat.le_of_ble_eq_true rfl); k_whole); intro h' F' N'; (try k_sweep))
  k_with "nall" => first | exact List.forall_mem_nil _ | (refine' List.forall_mem_cons.mpr ⟨?a_9, ?b_9⟩; (case a_9 => walk_at "ne"); (case b_9 => walk_at "nall"))
  k_with "execs cons" => (k_here; (with_reducible refine gen_toks ?_); intro _)
  k_with "execs nil" => (k_here; (with_reducible refine gen_toks ?_); intro _)
  k_with "end eq" => (law_clear; (try simp only [decide_eq_true_eq, decide_eq_false_iff_not, ne_eq, Bool.not_eq_true, Bool.not_eq_false, bne_iff_ne, beq_iff_eq] at *); first | rfl | omega | (simp_all; done) | (simp_all; rfl) | ((simp_all); omega))
  k_with "CallK" => (k_here; (guard_target = CallK _ _ (Value.ref 22) _ _ _ _); k_dflt (refine' use_ctrX (c_day_of _ _ _) ?g9_9 ?n9_9 ?F9_9 ?N9_9 ?_; (case g9_9 => with_reducible assumption); (case n9_9 => exact rfl); (case F9_9 => k_asm); (case N9_9 => k_asm); k_whole); walk_at "uX")
  k_with "CallK" => (k_here; (guard_target = CallK _ _ (Value.ref 29) _ _ _ _); k_dflt (refine' use_ctrX (c_time_in_day _ _ _) ?g9_9 ?n9_9 ?F9_9 ?N9_9 ?_; (case g9_9 => with_reducible assumption); (case n9_9 => exact rfl); (case F9_9 => k_asm); (case N9_9 => k_asm); k_whole); walk_at "uX")
  k_with "CallK" => (k_here; (guard_target = CallK _ _ (Value.ref 36) _ _ _ _); k_dflt (refine' use_ctrV (c_leap _ _ _) ?g9_9 ?n9_9 ?F9_9 ?N9_9 ?_; (case g9_9 => with_reducible assumption); (case n9_9 => exact rfl); (case F9_9 => k_asm); (case N9_9 => k_asm); k_whole); walk_at "uV")
  k_with "CallK" => (k_here; (guard_target = CallK _ _ (Value.ref 43) _ _ _ _); k_dflt (refine' use_ctrX (c_dfy _ _ _) ?g9_9 ?n9_9 ?F9_9 ?N9_9 ?_; (case g9_9 => with_reducible assumption); (case n9_9 => exact rfl); (case F9_9 => k_asm); (case N9_9 => k_asm); k_whole); walk_at "uX")
  k_with "CallK" => (k_here; (guard_target = CallK _ _ (Value.ref 71) _ _ _ _); k_dflt (refine' use_ctrX (c_days_ahead _ _ _ _ ?p0_9 ?p1_9) ?g9_9 ?n9_9 ?F9_9 ?N9_9 ?_; (case g9_9 => with_reducible assumption); (case n9_9 => exact rfl); (case F9_9 => k_asm); (case N9_9 => k_asm); (case p0_9 => first | with_reducible assumption | decide | l_fact); (case p1_9 => first | with_reducible assumption | decide | l_fact); k_whole); walk_at "uX")
  k_with "CallK" => (k_here; (guard_target = CallK _ _ (Value.ref 50) _ _ _ _); k_dflt (refine' use_ctrX (c_year_of_day _ _ _ _ ?p0_9 ?p1_9) ?g9_9 ?n9_9 ?F9_9 ?N9_9 ?_; (case g9_9 => with_reducible assumption); (case n9_9 => exact rfl); (case F9_9 => k_asm); (case N9_9 => k_asm); (case p0_9 => assumption); (case p1_9 => assumption); k_whole); walk_at "uX")
  k_with "CallK" => (k_here; (guard_target = CallK _ _ (Value.ref 78) _ _ _ _); k_dflt (refine' use_ctrX (c_days_of_month _ _ _ _ _ ?p0_9 ?p1_9) ?g9_9 ?n9_9 ?F9_9 ?N9_9 ?_; (case g9_9 => with_reducible assumption); (case n9_9 => exact rfl); (case F9_9 => k_asm); (case N9_9 => k_asm); (case p0_9 => first | with_reducible assumption | decide | l_fact); (case p1_9 => first | with_reducible assumption | decide | l_fact); k_whole); walk_at "uX")
  k_with "CallK" => (k_here; (guard_target = CallK _ _ (Value.ref 57) _ _ _ _); k_dflt (refine' use_ctrX (c_year_of _ _ _ _ ?p0_9) ?g9_9 ?n9_9 ?F9_9 ?N9_9 ?_; (case g9_9 => with_reducible assumption); (case n9_9 => exact rfl); (case F9_9 => k_asm); (case N9_9 => k_asm); (case p0_9 => assumption); k_whole); walk_at "uX")
  k_with "CallK" => (k_here; (guard_target = CallK _ _ (Value.ref 64) _ _ _ _); k_dflt (refine' use_ctrX (c_day_in_year _ _ _ _ ?p0_9) ?g9_9 ?n9_9 ?F9_9 ?N9_9 ?_; (case g9_9 => with_reducible assumption); (case n9_9 => exact rfl); (case F9_9 => k_asm); (case N9_9 => k_asm); (case p0_9 => assumption); k_whole); walk_at "uX")
  k_with "CallK" => (k_here; (guard_target = CallK _ _ (Value.ref 85) _ _ _ _); k_dflt (refine' use_ctrX (c_month_of _ _ _ _ _ ?p0_9 ?p1_9) ?g9_9 ?n9_9 ?F9_9 ?N9_9 ?_; (case g9_9 => with_reducible assumption); (case n9_9 => exact rfl); (case F9_9 => k_asm); (case N9_9 => k_asm); (case p0_9 => assumption); (case p1_9 => assumption); k_whole); walk_at "uX")
  k_with "CallK" => (k_here; (guard_target = CallK _ _ (Value.ref 92) _ _ _ _); k_dflt (refine' use_ctrX (c_date_of _ _ _ _ _ ?p0_9 ?p1_9) ?g9_9 ?n9_9 ?F9_9 ?N9_9 ?_; (case g9_9 => with_reducible assumption); (case n9_9 => exact rfl); (case F9_9 => k_asm); (case N9_9 => k_asm); (case p0_9 => assumption); (case p1_9 => assumption); k_whole); walk_at "uX")
  k_with "CallK" => (k_here; (guard_target = CallK _ _ (Value.ref 99) _ _ _ _); k_dflt (refine' use_ctrX (c_week_day_of _ _ _) ?g9_9 ?n9_9 ?F9_9 ?N9_9 ?_; (case g9_9 => with_reducible assumption); (case n9_9 => exact rfl); (case F9_9 => k_asm); (case N9_9 => k_asm); k_whole); walk_at "uX")
  k_with "CallK" => (k_here; (guard_target = CallK _ _ (Value.ref 106) _ _ _ _); k_dflt (refine' use_ctrX (c_hour_of _ _ _) ?g9_9 ?n9_9 ?F9_9 ?N9_9 ?_; (case g9_9 => with_reducible assumption); (case n9_9 => exact rfl); (case F9_9 => k_asm); (case N9_9 => k_asm); k_whole); walk_at "uX")
  k_with "CallK" => (k_here; (guard_target = CallK _ _ (Value.ref 113) _ _ _ _); k_dflt (refine' use_ctrX (c_minute_of _ _ _) ?g9_9 ?n9_9 ?F9_9 ?N9_9 ?_; (case g9_9 => with_reducible assumption); (case n9_9 => exact rfl); (case F9_9 => k_asm); (case N9_9 => k_asm); k_whole); walk_at "uX")
  k_with "CallK" => (k_here; (guard_target = CallK _ _ (Value.ref 120) _ _ _ _); k_dflt (refine' use_ctrX (c_second_of _ _ _) ?g9_9 ?n9_9 ?F9_9 ?N9_9 ?_; (case g9_9 => with_reducible assumption); (case n9_9 => exact rfl); (case F9_9 => k_asm); (case N9_9 => k_asm); k_whole); walk_at "uX")
  k_with "CallK" => (k_here; (guard_target = CallK _ _ (Value.ref 127) _ _ _ _); k_dflt (refine' use_ctrX (c_ms_of _ _ _) ?g9_9 ?n9_9 ?F9_9 ?N9_9 ?_; (case g9_9 => with_reducible assumption); (case n9_9 => exact rfl); (case F9_9 => k_asm); (case N9_9 => k_asm); k_whole); walk_at "uX")
  k_with "compareOp In" => (k_here; (guard_target = wpAny _ _ (compareOp CmpOp.In Value.none (Value.ref _)) _ _ _); k_dflt (first | (refine' none_in4 ?N_9 ?a_9 ?n_9 ?_; (case N_9 => k_asm); (case a_9 => k_mem); (case n_9 => first | with_reducible assumption | ktr_units); k_whole) | (refine' none_in3 ?N_9 ?a_9 ?n_9 ?_; (case N_9 => k_asm); (case a_9 => k_mem); (case n_9 => first | with_reducible assumption | ktr_units); k_whole)); (try dsimp only))
  k_with "CallK" => (k_here; (guard_target = CallK _ _ (Value.ref 141) _ _ _ _); k_dflt (refine' use_ctrX (c_make_time _ _ _ _ _ _ _ _ _) ?g9_9 ?n9_9 ?F9_9 ?N9_9 ?_; (case g9_9 => with_reducible assumption); (case n9_9 => exact rfl); (case F9_9 => k_asm); (case N9_9 => k_asm); k_whole); walk_at "uX")
  k_with "CallK" => (k_here; (guard_target = CallK _ _ (Value.ref 148) _ _ _ _); k_dflt (refine' use_ctrX (c_make_day _ _ _ _ _ _ _) ?g9_9 ?n9_9 ?F9_9 ?N9_9 ?_; (case g9_9 => with_reducible assumption); (case n9_9 => exact rfl); (case F9_9 => k_asm); (case N9_9 => k_asm); k_whole); walk_at "uX")
  k_with "CallK" => (k_here; (guard_target = CallK _ _ (Value.ref 155) _ _ _ _); k_dflt (refine' use_ctrX (c_make_date _ _ _ _ _) ?g9_9 ?n9_9 ?F9_9 ?N9_9 ?_; (case g9_9 => with_reducible assumption); (case n9_9 => exact rfl); (case F9_9 => k_asm); (case N9_9 => k_asm); k_whole); walk_at "uX")
  k_with "CallK" => (k_here; (guard_target = CallK _ _ (Value.ref 176) _ _ _ _); k_dflt (refine' use_ctrX (c_local_of _ _ _ _ _) ?g9_9 ?n9_9 ?F9_9 ?N9_9 ?_; (case g9_9 => with_reducible assumption); (case n9_9 => exact rfl); (case F9_9 => k_asm); (case N9_9 => k_asm); k_whole); walk_at "uX")
  k_with "CallK" => (k_here; (guard_target = CallK _ _ (Value.ref 183) _ _ _ _); k_dflt (refine' use_ctrX (c_utc_of _ _ _ _ _) ?g9_9 ?n9_9 ?F9_9 ?N9_9 ?_; (case g9_9 => with_reducible assumption); (case n9_9 => exact rfl); (case F9_9 => k_asm); (case N9_9 => k_asm); k_whole); walk_at "uX")
  k_with "CallK" => (k_here; (guard_target = CallK _ _ (Value.ref 162) _ _ _ _); k_dflt (refine' use_ctr (c_time_clip _ _ _) ?g9_9 ?n9_9 ?F9_9 ?N9_9 ?_; (case g9_9 => with_reducible assumption); (case n9_9 => exact rfl); (case F9_9 => k_asm); (case N9_9 => k_asm); k_whole); intro r9 h9 tk9 hP9 F9 N9; (try dsimp only); (try k_sweep); (try k_fold))
  k_with "my size" => (simp only [Str.length_append, mk_len, figs_len, item_len, lit0, lit1, lit2, lit3, lit4, lit5, lit6, lit7, lit8, lit9, lit10, lit11, lit12, lit13, lit14, lit15, lit16, lit17, lit18, lit19, lit20, lit21, lit22, lit23, lit24, lit25, lit26, lit27, lit28, lit29, lit30, lit31, lit32, lit33, lit34, lit35, lit36, lit37, lit38, lit39, lit40, lit41, lit42, lit43, lit44, lit45, lit46, lit47, lit48, lit49, lit50, lit51, lit52, lit53, List.length_append, List.length_cons, List.length_nil]; omega)
  k_with "binaryOp Add str str" => (k_here; (guard_target = wpAny _ _ (binaryOp Operator.Add (Value.str _ _) (Value.str _ _)) _ _ _); (refine' add_txt ?z_9 ?_; (case z_9 => walk_at "my size")); intro _ _)
  k_with "CallK" => (k_here; (guard_target = CallK _ _ (Value.ref 192) _ _ _ _); k_dflt (refine' use_ctrX (c_padded2 _ _ _ _ ?p0_9 ?p1_9) ?g9_9 ?n9_9 ?F9_9 ?N9_9 ?_; (case g9_9 => with_reducible assumption); (case n9_9 => exact rfl); (case F9_9 => k_asm); (case N9_9 => k_asm); (case p0_9 => first | with_reducible assumption | decide | l_fact); (case p1_9 => first | with_reducible assumption | decide | l_fact); k_whole); walk_at "uX")
  k_with "CallK" => (k_here; (guard_target = CallK _ _ (Value.ref 192) _ _ _ _); k_dflt (refine' use_ctrX (c_padded4 _ _ _ _ ?p0_9 ?p1_9) ?g9_9 ?n9_9 ?F9_9 ?N9_9 ?_; (case g9_9 => with_reducible assumption); (case n9_9 => exact rfl); (case F9_9 => k_asm); (case N9_9 => k_asm); (case p0_9 => first | with_reducible assumption | decide | l_fact); (case p1_9 => first | with_reducible assumption | decide | l_fact); k_whole); walk_at "uX")
  k_with "CallK" => (k_here; (guard_target = CallK _ _ (Value.ref 199) _ _ _ _); k_dflt (refine' use_ctrX (c_plain_year _ _ _ ?p0_9 ?p1_9) ?g9_9 ?n9_9 ?F9_9 ?N9_9 ?_; (case g9_9 => with_reducible assumption); (case n9_9 => exact rfl); (case F9_9 => k_asm); (case N9_9 => k_asm); (case p0_9 => first | with_reducible assumption | decide | l_fact); (case p1_9 => first | with_reducible assumption | decide | l_fact); k_whole); walk_at "uX")
  k_with "CallK" => (k_here; (guard_target = CallK _ _ (Value.ref 206) _ _ _ _); k_dflt (refine' use_ctrX (c_clock_text _ _ _ _ _ _ _ ?p0_9 ?p1_9 ?p2_9 ?p3_9 ?p4_9 ?p5_9) ?g9_9 ?n9_9 ?F9_9 ?N9_9 ?_; (case g9_9 => with_reducible assumption); (case n9_9 => exact rfl); (case F9_9 => k_asm); (case N9_9 => k_asm); (case p0_9 => first | with_reducible assumption | decide | l_fact); (case p1_9 => first | with_reducible assumption | decide | l_fact); (case p2_9 => first | with_reducible assumption | decide | l_fact); (case p3_9 => first | with_reducible assumption | decide | l_fact); (case p4_9 => first | with_reducible assumption | decide | l_fact); (case p5_9 => first | with_reducible assumption | decide | l_fact); k_whole); walk_at "uX")
  k_with "CallK" => (k_here; (guard_target = CallK _ _ (Value.ref 220) _ _ _ _); k_dflt (refine' use_ctrX (c_offset_text _ _ _ ?p0_9 ?p1_9) ?g9_9 ?n9_9 ?F9_9 ?N9_9 ?_; (case g9_9 => with_reducible assumption); (case n9_9 => exact rfl); (case F9_9 => k_asm); (case N9_9 => k_asm); (case p0_9 => first | with_reducible assumption | decide | l_fact); (case p1_9 => first | with_reducible assumption | decide | l_fact); k_whole); walk_at "uX")
  k_with "CallK" => (k_here; (guard_target = CallK _ _ (Value.ref 134) _ _ _ _); k_dflt (refine' use_fields (c_fields_of _ _ _ _ _ ?p0_9 ?p1_9) ?g9_9 ?n9_9 ?F9_9 ?N9_9 ?_; (case g9_9 => with_reducible assumption); (case n9_9 => exact rfl); (case F9_9 => k_asm); (case N9_9 => k_asm); (case p0_9 => assumption); (case p1_9 => assumption); k_whole); intro q9 t91 t92 t93 t94 t95 t96 t97 h9 tk9 F9 N9; (try dsimp only); (try k_sweep); (try k_fold))
  k_with "subscriptTail" => (k_here; (guard_target = wpAny _ _ (subscriptTail _ _ (Value.ref 185) (Value.int _ _)) _ _ _); k_dflt (refine' wd_item ?k1_9 ?k2_9 ?k3_9 ?k4_9 ?_ ?k5_9; (case k1_9 => k_asm); (case k2_9 => k_asm); (case k3_9 => assumption); (case k4_9 => assumption); (case k5_9 => with_unfolding_all rfl)); intro _)
  k_with "subscriptTail" => (k_here; (guard_target = wpAny _ _ (subscriptTail _ _ (Value.ref 184) (Value.int _ _)) _ _ _); k_dflt (refine' mo_item ?k1_9 ?k2_9 ?k3_9 ?k4_9 ?_ ?k5_9; (case k1_9 => k_asm); (case k2_9 => k_asm); (case k3_9 => assumption); (case k4_9 => assumption); (case k5_9 => with_unfolding_all rfl)); intro _)
  k_with "my size" => (simp only [Str.length_append, mk_len, figs_len, item_len, clockT, offT, dayT, lit0, lit1, lit2, lit3, lit4, lit5, lit6, lit7, lit8, lit9, lit10, lit11, lit12, lit13, lit14, lit15, lit16, lit17, lit18, lit19, lit20, lit21, lit22, lit23, lit24, lit25, lit26, lit27, lit28, lit29, lit30, lit31, lit32, lit33, lit34, lit35, lit36, lit37, lit38, lit39, lit40, lit41, lit42, lit43, lit44, lit45, lit46, lit47, lit48, lit49, lit50, lit51, lit52, lit53, List.length_append, List.length_cons, List.length_nil]; (try split); omega)
  k_with "CallK" => (k_here; (guard_target = CallK _ _ (Value.ref 213) _ _ _ _); k_dflt (refine' use_ctrX (c_day_text _ _ _ _ _ ?p0_9 ?p1_9 ?p2_9) ?g9_9 ?n9_9 ?F9_9 ?N9_9 ?_; (case g9_9 => with_reducible assumption); (case n9_9 => exact rfl); (case F9_9 => k_asm); (case N9_9 => k_asm); (case p0_9 => assumption); (case p1_9 => assumption); (case p2_9 => assumption); k_whole); walk_at "uX")
  k_with "my size" => (simp only [Str.length_append, mk_len, figs_len, item_len, clockT_len, offT_len, timeT_len, lit0, lit1, lit2, lit3, lit4, lit5, lit6, lit7, lit8, lit9, lit10, lit11, lit12, lit13, lit14, lit15, lit16, lit17, lit18, lit19, lit20, lit21, lit22, lit23, lit24, lit25, lit26, lit27, lit28, lit29, lit30, lit31, lit32, lit33, lit34, lit35, lit36, lit37, lit38, lit39, lit40, lit41, lit42, lit43, lit44, lit45, lit46, lit47, lit48, lit49, lit50, lit51, lit52, lit53, List.length_append, List.length_cons, List.length_nil]; omega)
  k_with "CallK" => (k_here; (guard_target = CallK _ _ (Value.ref 227) _ _ _ _); k_dflt (refine' use_ctrX (c_time_text _ _ _ _ _ _ _ ?p0_9 ?p1_9 ?p2_9 ?p3_9) ?g9_9 ?n9_9 ?F9_9 ?N9_9 ?_; (case g9_9 => with_reducible assumption); (case n9_9 => exact rfl); (case F9_9 => k_asm); (case N9_9 => k_asm); (case p0_9 => assumption); (case p1_9 => assumption); (case p2_9 => first | with_reducible assumption | decide | l_fact); (case p3_9 => first | with_reducible assumption | decide | l_fact); k_whole); walk_at "uX")
  k_with "CallK" => (k_here; (guard_target = CallK _ _ (Value.ref 234) _ _ _ _); k_dflt (refine' use_ctrX (c_whole_text _ _ _ _ _ _ _ ?p0_9 ?p1_9 ?p2_9 ?p3_9 ?p4_9) ?g9_9 ?n9_9 ?F9_9 ?N9_9 ?_; (case g9_9 => with_reducible assumption); (case n9_9 => exact rfl); (case F9_9 => k_asm); (case N9_9 => k_asm); (case p0_9 => assumption); (case p1_9 => assumption); (case p2_9 => assumption); (case p3_9 => first | with_reducible assumption | decide | l_fact); (case p4_9 => first | with_reducible assumption | decide | l_fact); k_whole); walk_at "uX")
  k_with "CallK" => (k_here; (guard_target = CallK _ _ (Value.ref 234) _ _ _ _); k_dflt (refine' use_ctrX (c_whole_none _ _ _) ?g9_9 ?n9_9 ?F9_9 ?N9_9 ?_; (case g9_9 => with_reducible assumption); (case n9_9 => exact rfl); (case F9_9 => k_asm); (case N9_9 => k_asm); k_whole); walk_at "uX")
  k_with "CallK" => (k_here; (guard_target = CallK _ _ (Value.ref 241) _ _ _ _); k_dflt (refine' use_ctrX (c_utc_text _ _ _ _ _ ?p0_9 ?p1_9 ?p2_9) ?g9_9 ?n9_9 ?F9_9 ?N9_9 ?_; (case g9_9 => with_reducible assumption); (case n9_9 => exact rfl); (case F9_9 => k_asm); (case N9_9 => k_asm); (case p0_9 => assumption); (case p1_9 => assumption); (case p2_9 => assumption); k_whole); walk_at "uX")
  k_with "CallK" => (k_here; (guard_target = CallK _ _ (Value.ref 241) _ _ _ _); k_dflt (refine' use_ctrX (c_utc_none _) ?g9_9 ?n9_9 ?F9_9 ?N9_9 ?_; (case g9_9 => with_reducible assumption); (case n9_9 => exact rfl); (case F9_9 => k_asm); (case N9_9 => k_asm); k_whole); walk_at "uX")
  k_with "uRX" => (intro t9 t29 h9 tk9 F9 N9; (try dsimp only); (try k_sweep); (try k_fold))
  k_with "uRV" => (intro t29 h9 tk9 F9 N9; (try dsimp only); (try k_sweep); (try k_fold))
  k_with "call builtin:len" => (k_here; (guard_target = wpAny _ _ (call (Value.builtin "len") [Value.str _ _]) _ _ _); k_dflt (refine' len_mk ?z_9 ?_; (case z_9 => first | omega | (simp only [List.length_take, List.length_drop]; omega))); intro _ _; (try dsimp only))
  k_with "subscriptTail Name Slice str ref" => (k_here; k_dflt (refine' slice_mk_rd (s := ⟨_, _, _, _, _⟩) ?k1_9 ?k2_9 ?k3_9 ?k4_9 ?_ ?k5_9 ?k6_9; (case k1_9 => k_asm); (case k2_9 => k_asm); (case k3_9 => omega); (case k4_9 => omega); (case k5_9 => with_unfolding_all rfl); (case k6_9 => intro _; with_unfolding_all rfl)); intro _ _ _ _ _; (try dsimp only); (try k_sweep))
  k_with "eval Call Attribute" => (k_here; (with_reducible refine' rd_call ?k1_9 ?k2_9 ?k3_9 ?k4_9 ?k5_9 ?k6_9 ?kf_9 ?kg_9 ?kh_9 ?ki_9 ?kj_9 ?kk_9 ?kl_9 ?km_9 ?kn_9 ?kp_9 ?_); k_dflt ((case kp_9 => exact rfl); (case kl_9 => exact rfl); (case km_9 => exact rfl); (case kn_9 => exact rfl); (case k1_9 => k_asm); (case k2_9 => k_asm); (case k3_9 => k_asm); (case k4_9 => exact rfl); (case k5_9 => k_mem); (case k6_9 => k_mem); (case kf_9 => k_is); (case kg_9 => k_is); (case kh_9 => k_is); (case ki_9 => k_get); (case kj_9 => k_is); (case kk_9 => exact rfl); k_whole))
  k_with "eval Call Attribute" => (k_here; walk_at "fold")
  k_with "rd" => first | with_reducible assumption | exact rd_perm1 (by with_reducible assumption) | exact rd_perm2 (by with_reducible assumption) | exact rd_perm3 (by with_reducible assumption) | exact rd_perm4 (by with_reducible assumption) | k_asm
  k_with "CallK" => (k_here; (guard_target = CallK _ _ (Value.ref 269) _ _ _ _); k_dflt (refine' use_ctrRV (c_has' _ _ _ _ _ _ ?p0_9 ?p1_9 ?p2_9) ?g9_9 ?n9_9 ?F9_9 ?R9_9 ?e9_9 ?x9_9 ?_; (case g9_9 => with_reducible assumption); (case n9_9 => exact rfl); (case F9_9 => k_asm); (case R9_9 => walk_at "rd"); (case e9_9 => walk_at "nall"); (case x9_9 => with_reducible assumption); (case p0_9 => first | exact Nat.le_trans (by with_reducible assumption) (by decide) | omega); (case p1_9 => with_reducible (first | exact lit1 | exact lit2 | exact lit4 | exact lit8 | exact lit5 | exact lit15 | exact lit6 | exact lit7 | exact lit3 | exact rfl)); (case p2_9 => (first | decide | omega)); k_whole); walk_at "uRV")
  k_with "CallK" => (k_here; (guard_target = CallK _ _ (Value.ref 248) _ _ _ _); k_dflt (refine' use_opt (c_nof _ _ _ ?p0_9) ?g9_9 ?n9_9 ?F9_9 ?N9_9 ?h8_9 ?h9_9; (case g9_9 => with_reducible assumption); (case n9_9 => exact rfl); (case F9_9 => k_asm); (case N9_9 => k_asm); (case p0_9 => (simp only [List.length_take]; omega)); k_whole); all_goals (intros; (try k_sweep)))
  k_with "CallK" => (k_here; (guard_target = CallK _ _ (Value.ref 276) _ _ _ _); k_dflt (refine' use_ctrRV (c_need _ _ _ _ _ _ ?p0_9 ?p1_9 ?p2_9) ?g9_9 ?n9_9 ?F9_9 ?R9_9 ?e9_9 ?x9_9 ?_; (case g9_9 => with_reducible assumption); (case n9_9 => exact rfl); (case F9_9 => k_asm); (case R9_9 => walk_at "rd"); (case e9_9 => walk_at "nall"); (case x9_9 => with_reducible assumption); (case p0_9 => first | exact Nat.le_trans (by with_reducible assumption) (by decide) | omega); (case p1_9 => with_reducible (first | exact lit1 | exact lit2 | exact lit4 | exact lit8 | exact lit5 | exact lit15 | exact lit6 | exact lit7 | exact lit3 | exact rfl)); (case p2_9 => (first | decide | omega)); k_whole); walk_at "uRV")
  k_with "CallK" => (k_here; (guard_target = CallK _ _ (Value.ref 283) _ _ _ _); k_dflt (refine' use_ctrRX (c_number _ _ _ _ _ _ _ _ _ ?p0_9 ?p1_9 ?p2_9) ?g9_9 ?n9_9 ?F9_9 ?R9_9 ?e9_9 ?x9_9 ?_; (case g9_9 => with_reducible assumption); (case n9_9 => exact rfl); (case F9_9 => k_asm); (case R9_9 => walk_at "rd"); (case e9_9 => walk_at "nall"); (case x9_9 => with_reducible assumption); (case p0_9 => first | exact Nat.le_trans (by with_reducible assumption) (by decide) | omega); (case p1_9 => (first | decide | omega)); (case p2_9 => (first | decide | omega)); k_whole); walk_at "uRX")
  k_with "CallK" => (k_here; (guard_target = CallK _ _ (Value.ref 283) _ _ _ _); k_dflt (refine' use_ctrRX (c_number6 _ _ _ _ _ _ _ _ ?p0_9) ?g9_9 ?n9_9 ?F9_9 ?R9_9 ?e9_9 ?x9_9 ?_; (case g9_9 => with_reducible assumption); (case n9_9 => exact rfl); (case F9_9 => k_asm); (case R9_9 => walk_at "rd"); (case e9_9 => walk_at "nall"); (case x9_9 => with_reducible assumption); (case p0_9 => first | exact Nat.le_trans (by with_reducible assumption) (by decide) | omega); k_whole); walk_at "uRX")
  k_with "CallK" => (k_here; (guard_target = CallK _ _ (Value.ref 283) _ _ _ _); k_dflt (refine' use_ctrRX (c_number4 _ _ _ _ _ _ _ _ ?p0_9) ?g9_9 ?n9_9 ?F9_9 ?R9_9 ?e9_9 ?x9_9 ?_; (case g9_9 => with_reducible assumption); (case n9_9 => exact rfl); (case F9_9 => k_asm); (case R9_9 => walk_at "rd"); (case e9_9 => walk_at "nall"); (case x9_9 => with_reducible assumption); (case p0_9 => first | exact Nat.le_trans (by with_reducible assumption) (by decide) | omega); k_whole); walk_at "uRX")
  k_with "CallK" => (k_here; (guard_target = CallK _ _ (Value.ref 283) _ _ _ _); k_dflt (refine' use_ctrRX (c_number3 _ _ _ _ _ _ _ _ ?p0_9) ?g9_9 ?n9_9 ?F9_9 ?R9_9 ?e9_9 ?x9_9 ?_; (case g9_9 => with_reducible assumption); (case n9_9 => exact rfl); (case F9_9 => k_asm); (case R9_9 => walk_at "rd"); (case e9_9 => walk_at "nall"); (case x9_9 => with_reducible assumption); (case p0_9 => first | exact Nat.le_trans (by with_reducible assumption) (by decide) | omega); k_whole); walk_at "uRX")
  k_with "CallK" => (k_here; (guard_target = CallK _ _ (Value.ref 283) _ _ _ _); k_dflt (refine' use_ctrRX (c_number2 _ _ _ _ _ _ _ _ ?p0_9) ?g9_9 ?n9_9 ?F9_9 ?R9_9 ?e9_9 ?x9_9 ?_; (case g9_9 => with_reducible assumption); (case n9_9 => exact rfl); (case F9_9 => k_asm); (case R9_9 => walk_at "rd"); (case e9_9 => walk_at "nall"); (case x9_9 => with_reducible assumption); (case p0_9 => first | exact Nat.le_trans (by with_reducible assumption) (by decide) | omega); k_whole); walk_at "uRX")
  k_with "CallK" => (k_here; (guard_target = CallK _ _ (Value.ref 297) _ _ _ _); k_dflt (refine' use_ctrRV (c_ends _ _ _ ?p0_9) ?g9_9 ?n9_9 ?F9_9 ?R9_9 ?e9_9 ?x9_9 ?_; (case g9_9 => with_reducible assumption); (case n9_9 => exact rfl); (case F9_9 => k_asm); (case R9_9 => walk_at "rd"); (case e9_9 => walk_at "nall"); (case x9_9 => with_reducible assumption); (case p0_9 => first | exact Nat.le_trans (by with_reducible assumption) (by decide) | omega); k_whole); walk_at "uRV")
  k_with "CallK" => (k_here; (guard_target = CallK _ _ (Value.ref 304) _ _ _ _); k_dflt (refine' use_ctrRX (c_year _ _ _ ?p0_9) ?g9_9 ?n9_9 ?F9_9 ?R9_9 ?e9_9 ?x9_9 ?_; (case g9_9 => with_reducible assumption); (case n9_9 => exact rfl); (case F9_9 => k_asm); (case R9_9 => walk_at "rd"); (case e9_9 => walk_at "nall"); (case x9_9 => with_reducible assumption); (case p0_9 => first | exact Nat.le_trans (by with_reducible assumption) (by decide) | omega); k_whole); walk_at "uRX")
  k_with "CallK" => (k_here; (guard_target = CallK _ _ (Value.ref 325) _ _ _ _); k_dflt (refine' use_ctrRX (c_zone _ _ _ _ ?p0_9) ?g9_9 ?n9_9 ?F9_9 ?R9_9 ?e9_9 ?x9_9 ?_; (case g9_9 => with_reducible assumption); (case n9_9 => exact rfl); (case F9_9 => k_asm); (case R9_9 => walk_at "rd"); (case e9_9 => walk_at "nall"); (case x9_9 => with_reducible assumption); (case p0_9 => first | exact Nat.le_trans (by with_reducible assumption) (by decide) | omega); k_whole); walk_at "uRX")
  k_with "CallK" => (k_here; (guard_target = CallK _ _ (Value.ref 318) _ _ _ _); k_dflt (refine' use_tup4 (c_clock _ _ _ ?p0_9) ?g9_9 ?n9_9 ?F9_9 ?R9_9 ?e9_9 ?x9_9 ?_; (case g9_9 => with_reducible assumption); (case n9_9 => exact rfl); (case F9_9 => k_asm); (case R9_9 => walk_at "rd"); (case e9_9 => walk_at "nall"); (case x9_9 => with_reducible assumption); (case p0_9 => first | exact Nat.le_trans (by with_reducible assumption) (by decide) | omega); k_whole); intro q9 u91 u92 u93 u94 t29 h9 tk9 F9 N9; (try dsimp only); (try k_sweep); (try k_fold))
  k_with "CallK" => (k_here; (guard_target = CallK _ _ (Value.ref 328) _ _ _ _); k_dflt (refine' use_reader (c_reader _ _ _ ?p0_9) ?g9_9 ?n9_9 ?F9_9 ?N9_9 ?_; (case g9_9 => with_reducible assumption); (case n9_9 => exact rfl); (case F9_9 => k_asm); (case N9_9 => k_asm); (case p0_9 => first | exact Nat.le_trans (by with_reducible assumption) (by decide) | omega); k_whole); intro x9 d9 u91 u92 u93 u94 u95 h9 tk9 m9 F9 N9; (try dsimp only); (try k_sweep); (try k_fold))
  k_with "CallK" => (k_here; (guard_target = CallK _ _ (Value.ref 339) _ _ _ _); k_dflt (refine' use_tup4 (c_iso_clock _ _ _ ?p0_9) ?g9_9 ?n9_9 ?F9_9 ?R9_9 ?e9_9 ?x9_9 ?_; (case g9_9 => with_reducible assumption); (case n9_9 => exact rfl); (case F9_9 => k_asm); (case R9_9 => walk_at "rd"); (case e9_9 => walk_at "nall"); (case x9_9 => with_reducible assumption); (case p0_9 => first | exact Nat.le_trans (by with_reducible assumption) (by decide) | omega); k_whole); intro q9 u91 u92 u93 u94 t29 h9 tk9 F9 N9; (try dsimp only); (try k_sweep); (try k_fold))
  k_with "CallK" => (k_here; (guard_target = CallK _ _ (Value.ref 169) _ _ _ _); k_dflt (refine' use_ctrMX (c_tof _ _ _ _ _ _ _ _ _ _ _ _ _ _ _ _) ?g9_9 ?n9_9 ?F9_9 ?N9_9 ?q9_9 ?_; (case g9_9 => with_reducible assumption); (case n9_9 => exact rfl); (case F9_9 => k_asm); (case N9_9 => k_asm); (case q9_9 => k_mem); k_whole); walk_at "uX")
  k_with "CallK" => (k_here; (guard_target = CallK _ _ (Value.ref 269) _ _ _ _); k_dflt (refine' use_ctrRV (c_hasF _ _ _ _ _ _ ?p0_9 ?p1_9 ?p2_9 ?p3_9) ?g9_9 ?n9_9 ?F9_9 ?R9_9 ?e9_9 ?x9_9 ?_; (case g9_9 => with_reducible assumption); (case n9_9 => exact rfl); (case F9_9 => k_asm); (case R9_9 => walk_at "rd"); (case e9_9 => walk_at "nall"); (case x9_9 => with_reducible assumption); (case p0_9 => first | exact Nat.le_trans (by with_reducible assumption) (by decide) | omega); (case p1_9 => with_reducible (first | exact lit1 | exact lit5 | exact lit15)); (case p2_9 => decide); (case p3_9 => with_reducible assumption); k_whole); walk_at "uRV")
  k_with "CallK" => (k_here; (guard_target = CallK _ _ (Value.ref 269) _ _ _ _); k_dflt (refine' use_ctrRV (c_hasT _ _ _ _ _ _ ?p0_9 ?p1_9 ?p2_9 ?p3_9) ?g9_9 ?n9_9 ?F9_9 ?R9_9 ?e9_9 ?x9_9 ?_; (case g9_9 => with_reducible assumption); (case n9_9 => exact rfl); (case F9_9 => k_asm); (case R9_9 => walk_at "rd"); (case e9_9 => walk_at "nall"); (case x9_9 => with_reducible assumption); (case p0_9 => first | exact Nat.le_trans (by with_reducible assumption) (by decide) | omega); (case p1_9 => with_reducible (first | exact lit1 | exact lit5 | exact lit15)); (case p2_9 => decide); (case p3_9 => with_reducible assumption); k_whole); walk_at "uRV")
  k_with "CallK" => (k_here; (guard_target = CallK _ _ (Value.ref 78) _ _ _ _); k_dflt (refine' use_ctrX (c_days_of_month _ _ _ _ _ ?p0_9 ?p1_9) ?g9_9 ?n9_9 ?F9_9 ?N9_9 ?_; (case g9_9 => with_reducible assumption); (case n9_9 => exact rfl); (case F9_9 => k_asm); (case N9_9 => k_asm); (case p0_9 => exact mo_b0); (case p1_9 => exact mo_b1); k_whole); walk_at "uX")
  k_with "compareOp NotIn str ref" => (k_here; (guard_target = wpAny _ _ (compareOp CmpOp.NotIn (Value.str (mk _) _) (Value.ref _)) _ _ _); k_dflt (refine' words_notin ?k1_9 ?k2_9 (by with_reducible assumption) ?_; (case k1_9 => k_asm); (case k2_9 => k_asm)); (try dsimp only))
  k_with "getMethod ref" => (k_here; (guard_target = wpAny _ _ (getMethod (Value.ref _) (Str.ofString "index") _) _ _ _); k_dflt (refine' words_method ?k1_9 ?k2_9 (by with_reducible assumption) ?_; (case k1_9 => k_asm); (case k2_9 => k_asm)); (try dsimp only))
  k_with "call builtin:list.index" => (k_here; (guard_target = wpAny _ _ (call (Value.builtin "list.index") [Value.ref _, Value.str (mk _) _]) _ _ _); k_dflt (refine' words_index ?k1_9 ?k2_9 (by with_reducible assumption) (by with_reducible assumption) (by with_reducible assumption) ?_; (case k1_9 => k_asm); (case k2_9 => k_asm)); intro _ _; (try dsimp only))
  k_with "CallK" => (k_here; (guard_target = CallK _ _ (Value.ref 290) _ _ _ _); k_dflt (refine' use_ctrRX (c_amongW _ _ _ ?p0_9) ?g9_9 ?n9_9 ?F9_9 ?R9_9 ?e9_9 ?x9_9 ?_; (case g9_9 => with_reducible assumption); (case n9_9 => exact rfl); (case F9_9 => k_asm); (case R9_9 => walk_at "rd"); (case e9_9 => walk_at "nall"); (case x9_9 => with_reducible assumption); (case p0_9 => first | exact Nat.le_trans (by with_reducible assumption) (by decide) | omega); k_whole); walk_at "uRX")
  k_with "CallK" => (k_here; (guard_target = CallK _ _ (Value.ref 290) _ _ _ _); k_dflt (refine' use_ctrRX (c_amongM _ _ _ ?p0_9) ?g9_9 ?n9_9 ?F9_9 ?R9_9 ?e9_9 ?x9_9 ?_; (case g9_9 => with_reducible assumption); (case n9_9 => exact rfl); (case F9_9 => k_asm); (case R9_9 => walk_at "rd"); (case e9_9 => walk_at "nall"); (case x9_9 => with_reducible assumption); (case p0_9 => first | exact Nat.le_trans (by with_reducible assumption) (by decide) | omega); k_whole); walk_at "uRX")
  k_with "CallK" => (k_here; (guard_target = CallK _ _ (Value.ref 283) _ _ _ _); k_dflt (refine' use_ctrRX (c_number _ _ _ _ _ _ _ _ _ ?p0_9 ?p1_9 ?p2_9) ?g9_9 ?n9_9 ?F9_9 ?R9_9 ?e9_9 ?x9_9 ?_; (case g9_9 => with_reducible assumption); (case n9_9 => exact rfl); (case F9_9 => k_asm); (case R9_9 => walk_at "rd"); (case e9_9 => walk_at "nall"); (case x9_9 => with_reducible assumption); (case p0_9 => first | exact Nat.le_trans (by with_reducible assumption) (by decide) | omega); (case p1_9 => (split <;> omega)); (case p2_9 => (split <;> omega)); k_whole); walk_at "uRX")
  k_with "CallK" => (k_here; (guard_target = CallK _ _ (Value.ref 311) _ _ _ _); k_dflt (refine' use_ctrRX (c_long_year _ _ _ ?p0_9) ?g9_9 ?n9_9 ?F9_9 ?R9_9 ?e9_9 ?x9_9 ?_; (case g9_9 => with_reducible assumption); (case n9_9 => exact rfl); (case F9_9 => k_asm); (case R9_9 => walk_at "rd"); (case e9_9 => walk_at "nall"); (case x9_9 => with_reducible assumption); (case p0_9 => first | exact Nat.le_trans (by with_reducible assumption) (by decide) | omega); k_whole); walk_at "uRX")
  trivial
set_option maxRecDepth 100000
set_option maxHeartbeats 8000000

theorem c_parse_shown (w : World) (l : List Nat) (t : Tok) (hl : l.length ≤ 50) : Ctr w 353 6 [.str (mk l) t] (optv (parseShown l)) := by
  k_dflt (refine' ctr_enter (bs := [(Str.ofString "text", _)]) ?k6 ?k7 ?kb ?kB ?kr ?c2 ?c3 ?c4 ?c5 ?_; (case k6 => k_is); (case k7 => k_is); (case kb => exact rfl); (case kB => exact rfl); (case kr => exact rfl); (case c2 => exact rfl); (case c3 => exact rfl); (case c4 => exact rfl); (case c5 => decide))
  intro mean mg mb dp un gd outer A₀ base g' L' h9 gs9 d9 tk9 o9 Q
  intro A9 P9 u9 B' F9 X' N' T' hdp hun hret
  walk_at "steps"
  all_goals first
    | (rw [ps_u (by with_reducible assumption), pt_1 (by with_reducible assumption) (by with_reducible assumption)] at hret; exact hret _ _ _ (by with_reducible assumption) (by k_asm))
    | (rw [ps_u (by with_reducible assumption), pt_2 (by with_reducible assumption) (by with_reducible assumption)] at hret; exact hret _ _ _ rfl (by k_asm))
    | (rw [ps_u (by with_reducible assumption), pt_3 (by with_reducible assumption)] at hret; exact hret _ _ _ rfl (by k_asm))
    | (rw [ps_v (by with_reducible assumption), pt_4 (by with_reducible assumption) (by with_reducible assumption)] at hret; exact hret _ _ _ (by with_reducible assumption) (by k_asm))
    | (rw [ps_v (by with_reducible assumption), pt_5 (by with_reducible assumption) (by with_reducible assumption)] at hret; exact hret _ _ _ rfl (by k_asm))
    | (rw [ps_v (by with_reducible assumption), pt_6 (by with_reducible assumption)] at hret; exact hret _ _ _ rfl (by k_asm))
theorem ru_A11_1 : True := by
  k_with "CallK" => (k_here; (guard_target = CallK _ _ (Value.ref 346) _ _ _ _); k_dflt (refine' use_opt (c_parse_iso _ _ _ ?p0_9 ?p1_9) ?g9_9 ?n9_9 ?F9_9 ?N9_9 ?h8_9 ?h9_9; (case g9_9 => with_reducible assumption); (case n9_9 => exact rfl); (case F9_9 => k_asm); (case N9_9 => k_asm); (case p0_9 => first | exact Nat.le_trans (by with_reducible assumption) (by decide) | omega); (case p1_9 => with_reducible assumption); k_whole); all_goals (intros; (try k_sweep)))
  k_with "CallK" => (k_here; (guard_target = CallK _ _ (Value.ref 353) _ _ _ _); k_dflt (refine' use_ctr (c_parse_shown _ _ _ ?p0_9) ?g9_9 ?n9_9 ?F9_9 ?N9_9 ?_; (case g9_9 => with_reducible assumption); (case n9_9 => exact rfl); (case F9_9 => k_asm); (case N9_9 => k_asm); (case p0_9 => first | exact Nat.le_trans (by with_reducible assumption) (by decide) | omega); k_whole); intro r9 h9 tk9 hP9 F9 N9; (try dsimp only); (try k_sweep); (try k_fold))
  trivial
theorem c_parse_date (w : World) (l : List Nat) (t : Tok) (hl : l.length ≤ 50) (hk : isoK l) : Ctr w 360 7 [.str (mk l) t] (optv (parseDate l)) := by
  k_dflt (refine' ctr_enter (bs := [(Str.ofString "text", _)]) ?k6 ?k7 ?kb ?kB ?kr ?c2 ?c3 ?c4 ?c5 ?_; (case k6 => k_is); (case k7 => k_is); (case kb => exact rfl); (case kB => exact rfl); (case kr => exact rfl); (case c2 => exact rfl); (case c3 => exact rfl); (case c4 => exact rfl); (case c5 => decide))
  intro mean mg mb dp un gd outer A₀ base g' L' h9 gs9 d9 tk9 o9 Q
  intro A9 P9 u9 B' F9 X' N' T' hdp hun hret
  walk_at "steps"
  all_goals first
    | (rw [pd_n (by with_reducible assumption)] at hret; exact hret _ _ _ (by with_reducible assumption) (by k_asm))
    | (rw [pd_s (by with_reducible assumption)] at hret; exact hret _ _ _ ⟨_, rfl⟩ (by k_asm))
end

section -- T5
theorem rst_T5 : True := by
  w_top off
  trivial
open PySem PySem.W PySem.Calls PyProof.Rows
section
variable {l g : List Nat} {p k : Nat} {lo hi : Int}
theorem has_y (h : (l.drop p).take g.length = g) : hasB l ⟨p, false⟩ g = true := by simp [hasB, cut, h]
theorem hasS_y (h : (l.drop p).take g.length = g) : hasS l ⟨p, false⟩ g = ⟨p + g.length, false⟩ := by unfold hasS; rw [if_pos (has_y h)]
theorem need_y (h : (l.drop p).take g.length = g) : needS l ⟨p, false⟩ g = ⟨p + g.length, false⟩ := by unfold needS; rw [if_pos (has_y h)]
theorem has_n (h : (l.drop p).take g.length ≠ g) : hasB l ⟨p, false⟩ g = false := by simp [hasB, cut, h]
theorem hasS_n (h : (l.drop p).take g.length ≠ g) : hasS l ⟨p, false⟩ g = ⟨p, false⟩ := by unfold hasS; rw [if_neg (by simp [has_n h])]
theorem need_n (h : (l.drop p).take g.length ≠ g) : needS l ⟨p, false⟩ g = ⟨p, true⟩ := by unfold needS; rw [if_neg (by simp [has_n h])]
theorem has_w : hasB l ⟨p, true⟩ g = false := by simp [hasB]
theorem hasS_w : hasS l ⟨p, true⟩ g = ⟨p, true⟩ := by simp [hasS, has_w]
theorem need_w : needS l ⟨p, true⟩ g = ⟨p, true⟩ := by simp [needS, has_w]
theorem numOk_w : numOk l ⟨p, true⟩ k lo hi = false := by simp [numOk]
theorem numV_w : numV l ⟨p, true⟩ k lo hi = lo := by simp [numV, numOk_w]
theorem numS_w : numS l ⟨p, true⟩ k lo hi = ⟨p, true⟩ := by simp [numS, numOk_w]
theorem amS_w {ws : List (List Nat)} : amS ws l ⟨p, true⟩ = ⟨p, true⟩ := by simp [amS, amOk]
theorem ends_w : endsB l ⟨p, true⟩ = false := by simp [endsB]
theorem ends_y (h : p = l.length) : endsB l ⟨p, false⟩ = true := by simp [endsB, h]
theorem ends_n (h : p ≠ l.length) : endsB l ⟨p, false⟩ = false := by simp [endsB, h]
end
theorem val_go (l : List Nat) : ∀ a : Int, l.foldl (fun (a : Int) (c : Nat) => a * 10 + ((c : Int) - 48)) a = a * 10 ^ l.length + val l := by
  induction l with
  | nil => intro a; simp [val]
  | cons c r ih =>
    intro a
    simp only [List.foldl_cons, List.length_cons, val]
    rw [ih, ih (0 * 10 + ((c : Int) - 48)), Int.pow_succ]
    simp only [Int.add_mul, Int.zero_mul, Int.zero_add, Int.mul_assoc, Int.mul_comm (10 ^ r.length) 10, Int.add_assoc]
theorem val_cons (c : Nat) (r : List Nat) : val (c :: r) = ((c : Int) - 48) * 10 ^ r.length + val r := by
  show r.foldl _ _ = _
  rw [val_go]; simp
theorem val_figs (n : Nat) : ∀ k, val (figs n k) = ((n % 10 ^ k : Nat) : Int)
  | 0 => by simp [figs, val, Nat.mod_one]
  | k + 1 => by
    rw [figs, val_cons, val_figs n k, figs_len, Nat.pow_succ, Nat.mod_mul]
    have : ((48 + n / 10 ^ k % 10 : Nat) : Int) - 48 = ((n / 10 ^ k % 10 : Nat) : Int) := by (first | lia | omega)
    rw [this, Int.natCast_add, Int.natCast_mul, Int.natCast_pow, Int.mul_comm, Int.add_comm]
    rfl
theorem nof_figs {n k : Nat} (hk : 0 < k) (hn : n < 10 ^ k) : nofF (figs n k) = some (n : Int) := by
  unfold nofF
  have a : figs n k ≠ [] := by intro e; have := figs_len n k; rw [e] at this; simp at this; (first | lia | omega)
  have b : (figs n k).all isDig = true := by rw [List.all_eq_true]; exact figs_dig n k
  rw [if_neg a, if_pos b, val_figs, Nat.mod_eq_of_lt hn]
theorem nof_bad {l : List Nat} (h : l.all isDig = false) : nofF l = none := by
  unfold nofF
  split
  · rfl
  · rw [if_neg (by simp [h])]
section
variable {l : List Nat} {p k n : Nat} {lo hi : Int}
theorem numOk_y (h : (l.drop p).take k = figs n k) (hk : 0 < k) (hn : n < 10 ^ k) (h0 : lo ≤ n) (h1 : (n : Int) ≤ hi) : numOk l ⟨p, false⟩ k lo hi = true := by
  have e : p + k ≤ l.length := by
    have := congrArg List.length h
    rw [figs_len] at this
    simp at this
    (first | lia | omega)
  simp [numOk, cut, h, nof_figs hk hn, e, h0, h1]
theorem numV_y (h : (l.drop p).take k = figs n k) (hk : 0 < k) (hn : n < 10 ^ k) (h0 : lo ≤ n) (h1 : (n : Int) ≤ hi) : numV l ⟨p, false⟩ k lo hi = n := by
  unfold numV cut; rw [if_pos (numOk_y h hk hn h0 h1), h, nof_figs hk hn]; rfl
theorem numS_y (h : (l.drop p).take k = figs n k) (hk : 0 < k) (hn : n < 10 ^ k) (h0 : lo ≤ n) (h1 : (n : Int) ≤ hi) : numS l ⟨p, false⟩ k lo hi = ⟨p + k, false⟩ := by
  unfold numS; rw [if_pos (numOk_y h hk hn h0 h1)]
theorem numS_of (h : numOk l ⟨p, false⟩ k lo hi = false) : numS l ⟨p, false⟩ k lo hi = ⟨p, true⟩ := by unfold numS; rw [if_neg (by simp [h])]
theorem numS_r (h : (l.drop p).take k = figs n k) (hk : 0 < k) (hn : n < 10 ^ k) (hb : (n : Int) < lo ∨ hi < n) : numS l ⟨p, false⟩ k lo hi = ⟨p, true⟩ := by
  refine numS_of ?_
  have : decide (lo ≤ (n : Int) ∧ (n : Int) ≤ hi) = false := by simp; (first | lia | omega)
  unfold numOk cut; rw [h, nof_figs hk hn]; simp only [this, Bool.and_false]
theorem numS_d (h : ((l.drop p).take k).all isDig = false) : numS l ⟨p, false⟩ k lo hi = ⟨p, true⟩ := by
  refine numS_of ?_
  simp [numOk, cut, nof_bad h]
theorem numS_l (h : l.length < p + k) : numS l ⟨p, false⟩ k lo hi = ⟨p, true⟩ := by
  refine numS_of ?_
  have : ¬ (p + k ≤ l.length) := by (first | lia | omega)
  simp [numOk, this]
end
section
variable {l g : List Nat} {s : RS} {k : Nat} {lo hi : Int} {b : Bool} {ws : List (List Nat)}
theorem rs_eta (h : s.b = true) : s = ⟨s.p, true⟩ := by cases s; simp_all
theorem needS_b (h : s.b = true) : (needS l s g).b = true := by rw [rs_eta h, need_w]
theorem hasS_b (h : s.b = true) : (hasS l s g).b = true := by rw [rs_eta h, hasS_w]
theorem numS_b (h : s.b = true) : (numS l s k lo hi).b = true := by rw [rs_eta h, numS_w]
theorem amS_b (h : s.b = true) : (amS ws l s).b = true := by rw [rs_eta h, amS_w]
theorem hasB_b (h : s.b = true) : hasB l s g = false := by rw [rs_eta h, has_w]
theorem ends_b (h : s.b = true) : endsB l s = false := by rw [rs_eta h, ends_w]
theorem lyS_b (h : s.b = true) : (lyS l s).b = true := by unfold lyS; exact numS_b (hasS_b h)
theorem ckS1_b (h : s.b = true) : (ckS1 l s).b = true := by unfold ckS1; exact needS_b (numS_b h)
theorem ckS2_b (h : (ckS1 l s).b = true) : (ckS2 l s).b = true := by unfold ckS2; exact needS_b (numS_b h)
theorem ckS_b (h : (ckS2 l s).b = true) : (ckS l s).b = true := by unfold ckS; exact numS_b h
theorem znS0_b (h : s.b = true) : (znS0 l s).b = true := by unfold znS0; rw [hasB_b h, if_neg (by simp)]; exact needS_b (hasS_b h)
theorem znS1_b (h : (znS0 l s).b = true) : (znS1 l s b).b = true := by
  unfold znS1; split
  · exact needS_b (numS_b h)
  · exact numS_b h
theorem znS_b (h : (znS1 l s b).b = true) : (znS l s b).b = true := by unfold znS; exact numS_b h
end
end

section -- T6
theorem rst_T6 : True := by
  w_top off
  trivial
open PySem PySem.W PySem.Calls PyProof.Rows
theorem dv4 (x : Int) : (x + 1) / 4 = x / 4 + (if (x + 1) % 4 = 0 then 1 else 0) := by split <;> (first | lia | omega)
theorem dv100 (x : Int) : (x + 1) / 100 = x / 100 + (if (x + 1) % 100 = 0 then 1 else 0) := by split <;> (first | lia | omega)
theorem dv400 (x : Int) : (x + 1) / 400 = x / 400 + (if (x + 1) % 400 = 0 then 1 else 0) := by split <;> (first | lia | omega)
theorem lp_if {a b c : Prop} [Decidable a] [Decidable b] [Decidable c] (h1 : c → b) (h2 : b → a) : (if a then (1 : Int) else 0) - (if b then 1 else 0) + (if c then 1 else 0) = if a ∧ (¬ b ∨ c) then 1 else 0 := by
  by_cases hc : c
  · have hb := h1 hc; have ha := h2 hb; simp [ha, hb, hc]
  · by_cases hb : b
    · have ha := h2 hb; simp [ha, hb, hc]
    · by_cases ha : a <;> simp [ha, hb, hc]
theorem dfy_len (y : Int) : dfy (y + 1) = dfy y + 365 + (if leap y = true then 1 else 0) := by
  have h4 := Int.fmod_eq_emod_of_nonneg y (show (0:Int) ≤ 4 by decide)
  have h1 := Int.fmod_eq_emod_of_nonneg y (show (0:Int) ≤ 100 by decide)
  have h0 := Int.fmod_eq_emod_of_nonneg y (show (0:Int) ≤ 400 by decide)
  unfold dfy leap
  rw [h4, h1, h0]
  simp only [Int.fdiv_eq_ediv_of_nonneg _ (show (0:Int) ≤ 4 by decide), Int.fdiv_eq_ediv_of_nonneg _ (show (0:Int) ≤ 100 by decide), Int.fdiv_eq_ediv_of_nonneg _ (show (0:Int) ≤ 400 by decide)]
  simp only [Bool.and_eq_true, Bool.or_eq_true, decide_eq_true_eq, Bool.not_eq_true', decide_eq_false_iff_not]
  have e4 := dv4 (y - 1969)
  have e1 := dv100 (y - 1901)
  have e0 := dv400 (y - 1601)
  have a4 : (y - 1969 + 1) % 4 = y % 4 := by (first | lia | omega)
  have a1 : (y - 1901 + 1) % 100 = y % 100 := by (first | lia | omega)
  have a0 : (y - 1601 + 1) % 400 = y % 400 := by (first | lia | omega)
  rw [a4] at e4; rw [a1] at e1; rw [a0] at e0
  have l := lp_if (a := y % 4 = 0) (b := y % 100 = 0) (c := y % 400 = 0) (fun h => by (first | lia | omega)) (fun h => by (first | lia | omega))
  rw [← l, show y + 1 - 1969 = y - 1969 + 1 by (first | lia | omega), show y + 1 - 1901 = y - 1901 + 1 by (first | lia | omega), show y + 1 - 1601 = y - 1601 + 1 by (first | lia | omega), e4, e1, e0]
  generalize (y - 1969) / 4 = p4, (y - 1901) / 100 = p1, (y - 1601) / 400 = p0
  generalize (if y % 4 = 0 then (1 : Int) else 0) = q4, (if y % 100 = 0 then (1 : Int) else 0) = q1, (if y % 400 = 0 then (1 : Int) else 0) = q0
  (first | lia | omega)
theorem ahead_12 (b : Bool) : daysAhead 12 b = 365 + (if b = true then 1 else 0) := by cases b <;> decide +kernel
theorem ahead_0 (b : Bool) : daysAhead 0 b = 0 := by cases b <;> decide +kernel
/-- what the drawn fields are -/
structure Fl (y m d h mi s : Int) : Prop where
  y0 : 0 ≤ y
  y1 : y ≤ 9999
  m0 : 0 ≤ m
  m1 : m ≤ 11
  d0 : 1 ≤ d
  d1 : d ≤ daysOf y m
  h0 : 0 ≤ h
  h1 : h ≤ 23
  i0 : 0 ≤ mi
  i1 : mi ≤ 59
  s0 : 0 ≤ s
  s1 : s ≤ 59
theorem daysOf_le {y m : Int} (h0 : 0 ≤ m) (h1 : m ≤ 11) : 28 ≤ daysOf y m ∧ daysOf y m ≤ 31 := by
  obtain ⟨k, rfl⟩ := Int.eq_ofNat_of_zero_le h0
  have h : k ≤ 11 := by (first | lia | omega)
  unfold daysOf
  cases leap y
  · exact (by decide +kernel : ∀ k : Nat, k ≤ 11 → 28 ≤ daysAhead ((k : Int) + 1) false - daysAhead k false ∧ daysAhead ((k : Int) + 1) false - daysAhead k false ≤ 31) k h
  · exact (by decide +kernel : ∀ k : Nat, k ≤ 11 → 28 ≤ daysAhead ((k : Int) + 1) true - daysAhead k true ∧ daysAhead ((k : Int) + 1) true - daysAhead k true ≤ 31) k h
/-- the moment as shown -/
noncomputable def shX (y m d h mi s ms : Int) : Int := mkDay y m d * 86400000 + h * 3600000 + mi * 60000 + s * 1000 + ms
theorem mkDay_eq {y m d : Int} (h0 : 0 ≤ m) (h1 : m ≤ 11) : mkDay y m d = dfy y + daysAhead m (leap y) + d - 1 := by
  unfold mkDay
  have a : m.fdiv 12 = 0 := by rw [Int.fdiv_eq_ediv_of_nonneg _ (by (first | lia | omega))]; (first | lia | omega)
  have b : m.fmod 12 = m := by rw [Int.fmod_eq_emod_of_nonneg _ (by (first | lia | omega))]; (first | lia | omega)
  rw [a, b, Int.add_zero]
section
variable {y m d h mi s ms : Int}
theorem sh_day (f : Fl y m d h mi s) (g0 : 0 ≤ ms) (g1 : ms < 1000) : (shX y m d h mi s ms).fdiv 86400000 = mkDay y m d := by
  obtain ⟨y0, y1, m0, m1, d0, d1, h0, h1, i0, i1, s0, s1⟩ := f
  rw [Int.fdiv_eq_ediv_of_nonneg _ (by (first | lia | omega))]; unfold shX; (first | lia | omega)
theorem sh_in (f : Fl y m d h mi s) (g0 : 0 ≤ ms) (g1 : ms < 1000) : (shX y m d h mi s ms).fmod 86400000 = h * 3600000 + mi * 60000 + s * 1000 + ms := by
  obtain ⟨y0, y1, m0, m1, d0, d1, h0, h1, i0, i1, s0, s1⟩ := f
  rw [Int.fmod_eq_emod_of_nonneg _ (by (first | lia | omega))]; unfold shX; (first | lia | omega)
theorem sh_hour (f : Fl y m d h mi s) (g0 : 0 ≤ ms) (g1 : ms < 1000) : hourF (shX y m d h mi s ms) = h := by
  unfold hourF; rw [sh_in f g0 g1, Int.fdiv_eq_ediv_of_nonneg _ (by (first | lia | omega))]
  obtain ⟨y0, y1, m0, m1, d0, d1, h0, h1, i0, i1, s0, s1⟩ := f
  (first | lia | omega)
theorem sh_min (f : Fl y m d h mi s) (g0 : 0 ≤ ms) (g1 : ms < 1000) : minF (shX y m d h mi s ms) = mi := by
  unfold minF; rw [sh_in f g0 g1, Int.fdiv_eq_ediv_of_nonneg _ (by (first | lia | omega)), Int.fmod_eq_emod_of_nonneg _ (by (first | lia | omega))]
  obtain ⟨y0, y1, m0, m1, d0, d1, h0, h1, i0, i1, s0, s1⟩ := f
  (first | lia | omega)
theorem sh_sec (f : Fl y m d h mi s) (g0 : 0 ≤ ms) (g1 : ms < 1000) : secF (shX y m d h mi s ms) = s := by
  unfold secF; rw [sh_in f g0 g1, Int.fdiv_eq_ediv_of_nonneg _ (by (first | lia | omega)), Int.fmod_eq_emod_of_nonneg _ (by (first | lia | omega))]
  obtain ⟨y0, y1, m0, m1, d0, d1, h0, h1, i0, i1, s0, s1⟩ := f
  (first | lia | omega)
theorem sh_ahead (f : Fl y m d h mi s) : daysAhead (m + 1) (leap y) = daysAhead m (leap y) + daysOf y m := by unfold daysOf; (first | lia | omega)
theorem sh_YF (f : Fl y m d h mi s) (g0 : 0 ≤ ms) (g1 : ms < 1000) : YF (shX y m d h mi s ms) y := by
  unfold YF
  rw [sh_day f g0 g1, mkDay_eq f.m0 f.m1, dfy_len]
  have a := ahead_12 (leap y)
  have z := ahead_0 (leap y)
  have e := sh_ahead f
  obtain ⟨y0, y1, m0, m1, d0, d1, h0, h1, i0, i1, s0, s1⟩ := f
  obtain ⟨k, rfl⟩ := Int.eq_ofNat_of_zero_le m0
  have b := ahead_mono (leap y) 12 (by (first | lia | omega)) (k + 1) (by (first | lia | omega))
  have c := ahead_mono (leap y) k (by (first | lia | omega)) 0 (by (first | lia | omega))
  have b' : daysAhead ((k : Int) + 1) (leap y) ≤ daysAhead 12 (leap y) := b
  have c' : daysAhead 0 (leap y) ≤ daysAhead (k : Int) (leap y) := c
  (first | lia | omega)
theorem sh_diy (f : Fl y m d h mi s) (g0 : 0 ≤ ms) (g1 : ms < 1000) : diy (shX y m d h mi s ms) y = daysAhead m (leap y) + d - 1 := by
  unfold diy; rw [sh_day f g0 g1, mkDay_eq f.m0 f.m1]; (first | lia | omega)
theorem sh_MF (f : Fl y m d h mi s) (g0 : 0 ≤ ms) (g1 : ms < 1000) : MF (shX y m d h mi s ms) y m := by
  refine ⟨f.m0, f.m1, ?_, ?_⟩
  · rw [sh_diy f g0 g1]; have := f.d0; (first | lia | omega)
  · rw [sh_diy f g0 g1, sh_ahead f]; have := f.d1; (first | lia | omega)
theorem sh_date (f : Fl y m d h mi s) (g0 : 0 ≤ ms) (g1 : ms < 1000) : dateF (shX y m d h mi s ms) y m = d := by
  unfold dateF; rw [sh_diy f g0 g1]; (first | lia | omega)
theorem sh_BF (f : Fl y m d h mi s) (g0 : 0 ≤ ms) (g1 : ms < 1000) : BF (shX y m d h mi s ms) y m := by
  have q := daysOf_le (y := y) f.m0 f.m1
  have := f.d0; have := f.d1; have := f.y0; have := f.y1
  refine ⟨by (first | lia | omega), by (first | lia | omega), ?_, ?_⟩ <;> rw [sh_date f g0 g1] <;> (first | lia | omega)
theorem sh_wd (f : Fl y m d h mi s) (g0 : 0 ≤ ms) (g1 : ms < 1000) : wdF (shX y m d h mi s ms) = (mkDay y m d + 4).fmod 7 := by
  unfold wdF; rw [sh_day f g0 g1]
/-- the moment is near -/
theorem dfy_bnd {y : Int} (h0 : 0 ≤ y) (h1 : y ≤ 9999) : -719528 ≤ dfy y ∧ dfy y ≤ 3000000 := by
  unfold dfy
  simp only [Int.fdiv_eq_ediv_of_nonneg _ (show (0:Int) ≤ 4 by decide), Int.fdiv_eq_ediv_of_nonneg _ (show (0:Int) ≤ 100 by decide), Int.fdiv_eq_ediv_of_nonneg _ (show (0:Int) ≤ 400 by decide)]
  (first | lia | omega)
theorem ahead_bnd {m : Int} (b : Bool) (h0 : 0 ≤ m) (h1 : m ≤ 12) : 0 ≤ daysAhead m b ∧ daysAhead m b ≤ 366 := by
  obtain ⟨k, rfl⟩ := Int.eq_ofNat_of_zero_le h0
  have a := ahead_mono b 12 (by (first | lia | omega)) k (by (first | lia | omega))
  have c := ahead_mono b k (by (first | lia | omega)) 0 (by (first | lia | omega))
  have a' : daysAhead (k : Int) b ≤ daysAhead 12 b := a
  have c' : daysAhead 0 b ≤ daysAhead (k : Int) b := c
  rw [ahead_12] at a'
  rw [ahead_0] at c'
  split at a' <;> (first | lia | omega)
theorem mkDay_bnd {y m d : Int} (y0 : 0 ≤ y) (y1 : y ≤ 9999) (m0 : 0 ≤ m) (m1 : m ≤ 11) (d0 : 0 ≤ d) (d1 : d ≤ 40) : -800000 ≤ mkDay y m d ∧ mkDay y m d ≤ 4000000 := by
  rw [mkDay_eq m0 m1]
  have := dfy_bnd y0 y1
  have := ahead_bnd (leap y) m0 (show m ≤ 12 by (first | lia | omega))
  (first | lia | omega)
theorem clip_in {x : Int} (h0 : -8640000000000000 ≤ x) (h1 : x ≤ 8640000000000000) : clipF x = some x := by
  unfold clipF; rw [if_pos (by (first | lia | omega))]
end
end

section -- T7
theorem rst_T7 : True := by
  w_top off
  trivial
open PySem PySem.W PySem.Calls PyProof.Rows
noncomputable def isoN (Y M D H I S : Nat) (tl : List Nat) : List Nat := figs Y 4 ++ [45] ++ figs M 2 ++ [45] ++ figs D 2 ++ [84] ++ figs H 2 ++ [58] ++ figs I 2 ++ [58] ++ figs S 2 ++ tl
section
variable {Y M D H I S : Nat} {tl : List Nat}
theorem iso_len : (isoN Y M D H I S tl).length = 19 + tl.length := by simp only [isoN, List.length_append, figs_len, List.length_cons, List.length_nil]
theorem iso_n43 : ((isoN Y M D H I S tl).drop 0).take ([43] : List Nat).length ≠ [43] := by
  show [48 + Y / 10 ^ 3 % 10] ≠ [43]
  intro e; injection e with e; (first | lia | omega)
theorem iso_n45 : ((isoN Y M D H I S tl).drop 0).take ([45] : List Nat).length ≠ [45] := by
  show [48 + Y / 10 ^ 3 % 10] ≠ [45]
  intro e; injection e with e; (first | lia | omega)
theorem iso_yS (hY : Y < 10000) : yearS (isoN Y M D H I S tl) rs0 = ⟨4, false⟩ := by
  simp only [yearS, rs0, has_n iso_n43, hasS_n iso_n43, has_n iso_n45, hasS_n iso_n45, Bool.false_eq_true, if_false]
  exact numS_y (n := Y) rfl (by decide) hY (by (first | lia | omega)) (by (first | lia | omega))
theorem iso_yV (hY : Y < 10000) : yearV (isoN Y M D H I S tl) rs0 = Y := by
  simp only [yearV, rs0, has_n iso_n43, hasS_n iso_n43, has_n iso_n45, hasS_n iso_n45, Bool.false_eq_true, if_false]
  exact numV_y rfl (by decide) hY (by (first | lia | omega)) (by (first | lia | omega))
theorem iso_h4 (hY : Y < 10000) : hasB (isoN Y M D H I S tl) (yearS (isoN Y M D H I S tl) rs0) [45] = true := by rw [iso_yS hY]; exact has_y rfl
theorem iso_s4 (hY : Y < 10000) : hasS (isoN Y M D H I S tl) (yearS (isoN Y M D H I S tl) rs0) [45] = ⟨5, false⟩ := by rw [iso_yS hY]; exact hasS_y rfl
/-- the month -/
theorem iso_mS (hY : Y < 10000) (m0 : 1 ≤ M) (m1 : M ≤ 12) : sA (isoN Y M D H I S tl) = ⟨7, false⟩ := by
  unfold sA; rw [iso_s4 hY]; exact numS_y (n := M) rfl (by decide) (by (first | lia | omega)) (by (first | lia | omega)) (by (first | lia | omega))
theorem iso_mV (hY : Y < 10000) (m0 : 1 ≤ M) (m1 : M ≤ 12) : moA (isoN Y M D H I S tl) = M := by
  unfold moA; rw [iso_s4 hY]; exact numV_y (n := M) rfl (by decide) (by (first | lia | omega)) (by (first | lia | omega)) (by (first | lia | omega))
theorem iso_mB (hY : Y < 10000) (hM : M < 100) (hb : M < 1 ∨ 12 < M) : sA (isoN Y M D H I S tl) = ⟨5, true⟩ := by
  unfold sA; rw [iso_s4 hY]; exact numS_r (n := M) rfl (by decide) hM (by (first | lia | omega))
theorem iso_h7 (hY : Y < 10000) (m0 : 1 ≤ M) (m1 : M ≤ 12) : hasB (isoN Y M D H I S tl) (sA (isoN Y M D H I S tl)) [45] = true := by rw [iso_mS hY m0 m1]; exact has_y rfl
theorem iso_s7 (hY : Y < 10000) (m0 : 1 ≤ M) (m1 : M ≤ 12) : hasS (isoN Y M D H I S tl) (sA (isoN Y M D H I S tl)) [45] = ⟨8, false⟩ := by rw [iso_mS hY m0 m1]; exact hasS_y rfl
/-- the day of the month -/
theorem iso_dS (hY : Y < 10000) (m0 : 1 ≤ M) (m1 : M ≤ 12) (d0 : 1 ≤ D) (d1 : (D : Int) ≤ daysOf Y ((M : Int) - 1)) : sB (isoN Y M D H I S tl) = ⟨10, false⟩ := by
  have := (daysOf_le (y := Y) (m := (M : Int) - 1) (by (first | lia | omega)) (by (first | lia | omega))).2
  unfold sB; rw [iso_s7 hY m0 m1, iso_yV hY, iso_mV hY m0 m1]
  exact numS_y (n := D) rfl (by decide) (by (first | lia | omega)) (by (first | lia | omega)) (by (first | lia | omega))
theorem iso_dV (hY : Y < 10000) (m0 : 1 ≤ M) (m1 : M ≤ 12) (d0 : 1 ≤ D) (d1 : (D : Int) ≤ daysOf Y ((M : Int) - 1)) : daB (isoN Y M D H I S tl) = D := by
  have := (daysOf_le (y := Y) (m := (M : Int) - 1) (by (first | lia | omega)) (by (first | lia | omega))).2
  unfold daB; rw [iso_s7 hY m0 m1, iso_yV hY, iso_mV hY m0 m1]
  exact numV_y (n := D) rfl (by decide) (by (first | lia | omega)) (by (first | lia | omega)) (by (first | lia | omega))
theorem iso_dB (hY : Y < 10000) (m0 : 1 ≤ M) (m1 : M ≤ 12) (hD : D < 100) (hb : D < 1 ∨ daysOf Y ((M : Int) - 1) < D) : sB (isoN Y M D H I S tl) = ⟨8, true⟩ := by
  unfold sB; rw [iso_s7 hY m0 m1, iso_yV hY, iso_mV hY m0 m1]
  exact numS_r (n := D) rfl (by decide) (by (first | lia | omega)) (by (first | lia | omega))
theorem iso_kA (hY : Y < 10000) (m0 : 1 ≤ M) (m1 : M ≤ 12) (d0 : 1 ≤ D) (d1 : (D : Int) ≤ daysOf Y ((M : Int) - 1)) : isoK (isoN Y M D H I S tl) :=
  .inl ⟨iso_h4 hY, iso_h7 hY m0 m1, by rw [iso_dS hY m0 m1 d0 d1]; exact has_y rfl⟩
theorem iso_kB (hY : Y < 10000) (m0 : 1 ≤ M) (m1 : M ≤ 12) (hD : D < 100) (hb : D < 1 ∨ daysOf Y ((M : Int) - 1) < D) : isoK (isoN Y M D H I S tl) :=
  .inr (.inl ⟨iso_h4 hY, iso_h7 hY m0 m1, by rw [iso_dB hY m0 m1 hD hb]; exact has_w⟩)
theorem iso_kC (hY : Y < 10000) (hM : M < 100) (hb : M < 1 ∨ 12 < M) : isoK (isoN Y M D H I S tl) :=
  .inr (.inr (.inl ⟨iso_h4 hY, by rw [iso_mB hY hM hb]; exact has_w, by rw [iso_mB hY hM hb, hasS_w]; exact has_w⟩))
theorem iso_A (hY : Y < 10000) (m0 : 1 ≤ M) (m1 : M ≤ 12) (d0 : 1 ≤ D) (d1 : (D : Int) ≤ daysOf Y ((M : Int) - 1)) : parseIso (isoN Y M D H I S tl) = piEnd (isoN Y M D H I S tl) ⟨10, false⟩ Y M D := by
  rw [pi_A (iso_h4 hY) (iso_h7 hY m0 m1), iso_dS hY m0 m1 d0 d1, iso_yV hY, iso_mV hY m0 m1, iso_dV hY m0 m1 d0 d1]
theorem iso_B (hY : Y < 10000) (m0 : 1 ≤ M) (m1 : M ≤ 12) (hD : D < 100) (hb : D < 1 ∨ daysOf Y ((M : Int) - 1) < D) : parseIso (isoN Y M D H I S tl) = none := by
  rw [pi_A (iso_h4 hY) (iso_h7 hY m0 m1), iso_dB hY m0 m1 hD hb]
  exact pe_8 has_w (by rw [hasS_w]; exact ends_w)
theorem iso_C (hY : Y < 10000) (hM : M < 100) (hb : M < 1 ∨ 12 < M) : parseIso (isoN Y M D H I S tl) = none := by
  rw [pi_C (iso_h4 hY) (by rw [iso_mB hY hM hb]; exact has_w), iso_mB hY hM hb, hasS_w]
  exact pe_8 has_w (by rw [hasS_w]; exact ends_w)
/-- the clock -/
theorem iso_h10 : hasB (isoN Y M D H I S tl) ⟨10, false⟩ [84] = true := has_y rfl
theorem iso_s10 : hasS (isoN Y M D H I S tl) ⟨10, false⟩ [84] = ⟨11, false⟩ := hasS_y rfl
theorem iso_c1 (hH : H ≤ 24) : icS1 (isoN Y M D H I S tl) ⟨11, false⟩ = ⟨14, false⟩ := by
  unfold icS1; rw [numS_y (n := H) rfl (by decide) (by (first | lia | omega)) (by (first | lia | omega)) (by (first | lia | omega))]; exact need_y rfl
theorem iso_c1b (hH : H < 100) (hb : 24 < H) : icS1 (isoN Y M D H I S tl) ⟨11, false⟩ = ⟨11, true⟩ := by
  unfold icS1; rw [numS_r (n := H) rfl (by decide) hH (by (first | lia | omega))]; exact need_w
theorem iso_cH (hH : H ≤ 24) : icH (isoN Y M D H I S tl) ⟨11, false⟩ = H := numV_y rfl (by decide) (by (first | lia | omega)) (by (first | lia | omega)) (by (first | lia | omega))
theorem iso_c2 (hH : H ≤ 24) (hI : I ≤ 59) : icS2 (isoN Y M D H I S tl) ⟨11, false⟩ = ⟨16, false⟩ := by
  unfold icS2; rw [iso_c1 hH]; exact numS_y (n := I) rfl (by decide) (by (first | lia | omega)) (by (first | lia | omega)) (by (first | lia | omega))
theorem iso_c2b (hH : H ≤ 24) (hI : I < 100) (hb : 59 < I) : icS2 (isoN Y M D H I S tl) ⟨11, false⟩ = ⟨14, true⟩ := by
  unfold icS2; rw [iso_c1 hH]; exact numS_r (n := I) rfl (by decide) hI (by (first | lia | omega))
theorem iso_cM (hH : H ≤ 24) (hI : I ≤ 59) : icM (isoN Y M D H I S tl) ⟨11, false⟩ = I := by
  unfold icM; rw [iso_c1 hH]; exact numV_y (n := I) rfl (by decide) (by (first | lia | omega)) (by (first | lia | omega)) (by (first | lia | omega))
theorem iso_h16 (hH : H ≤ 24) (hI : I ≤ 59) : hasB (isoN Y M D H I S tl) (icS2 (isoN Y M D H I S tl) ⟨11, false⟩) [58] = true := by rw [iso_c2 hH hI]; exact has_y rfl
theorem iso_s16 (hH : H ≤ 24) (hI : I ≤ 59) : hasS (isoN Y M D H I S tl) (icS2 (isoN Y M D H I S tl) ⟨11, false⟩) [58] = ⟨17, false⟩ := by rw [iso_c2 hH hI]; exact hasS_y rfl
theorem iso_c3 (hH : H ≤ 24) (hI : I ≤ 59) (hS : S ≤ 59) : icS3 (isoN Y M D H I S tl) ⟨11, false⟩ = ⟨19, false⟩ := by
  unfold icS3; rw [iso_s16 hH hI]; exact numS_y (n := S) rfl (by decide) (by (first | lia | omega)) (by (first | lia | omega)) (by (first | lia | omega))
theorem iso_c3b (hH : H ≤ 24) (hI : I ≤ 59) (hS : S < 100) (hb : 59 < S) : icS3 (isoN Y M D H I S tl) ⟨11, false⟩ = ⟨17, true⟩ := by
  unfold icS3; rw [iso_s16 hH hI]; exact numS_r (n := S) rfl (by decide) hS (by (first | lia | omega))
theorem iso_cC (hH : H ≤ 24) (hI : I ≤ 59) (hS : S ≤ 59) : icC (isoN Y M D H I S tl) ⟨11, false⟩ = S := by
  unfold icC; rw [if_pos (iso_h16 hH hI), iso_s16 hH hI]; exact numV_y (n := S) rfl (by decide) (by (first | lia | omega)) (by (first | lia | omega)) (by (first | lia | omega))
end
section
variable {l : List Nat} {s : RS} {y mo da : Int}
theorem icS_b (h : (icS4 l s).b = true) : (icS l s).b = true := by
  unfold icS; split
  · rfl
  · exact h
theorem icS4_1 (h : (icS1 l s).b = true) : (icS l s).b = true := by
  refine icS_b ?_
  have h2 : (icS2 l s).b = true := numS_b h
  unfold icS4
  rw [hasB_b h2, if_neg (by simp)]; exact hasS_b h2
theorem icS4_2 (h2 : (icS2 l s).b = true) : (icS l s).b = true := by
  refine icS_b ?_
  unfold icS4
  rw [hasB_b h2, if_neg (by simp)]; exact hasS_b h2
theorem icS4_3 (h : hasB l (icS2 l s) [58] = true) (h2 : (icS3 l s).b = true) : (icS l s).b = true := by
  refine icS_b ?_
  unfold icS4
  rw [if_pos h, hasB_b h2, if_neg (by simp)]; exact hasS_b h2
theorem pe_wrong (h3 : hasB l s [84] = true) (hw : (icS l (hasS l s [84])).b = true) : piEnd l s y mo da = none := by
  have hz := hasB_b (l := l) (g := [90]) hw
  have hs := hasS_b (l := l) (g := [90]) hw
  by_cases hl : ((hasS l (icS l (icAt l s)) [90]).p : Int) < (l.length : Int)
  · exact pe_4 h3 hz hl (ends_b (znS_b (znS1_b (znS0_b hs))))
  · exact pe_6 h3 hz hl (ends_b hs)
end
section
variable {Y M D H I S : Nat} {tl : List Nat} {y mo da : Int}
theorem iso_w1 (hH : H < 100) (hb : 24 < H) : piEnd (isoN Y M D H I S tl) ⟨10, false⟩ y mo da = none := pe_wrong iso_h10 (by rw [iso_s10]; exact icS4_1 (by rw [iso_c1b hH hb]))
theorem iso_w2 (hH : H ≤ 24) (hI : I < 100) (hb : 59 < I) : piEnd (isoN Y M D H I S tl) ⟨10, false⟩ y mo da = none := pe_wrong iso_h10 (by rw [iso_s10]; exact icS4_2 (by rw [iso_c2b hH hI hb]))
theorem iso_w3 (hH : H ≤ 24) (hI : I ≤ 59) (hS : S < 100) (hb : 59 < S) : piEnd (isoN Y M D H I S tl) ⟨10, false⟩ y mo da = none := pe_wrong iso_h10 (by rw [iso_s10]; exact icS4_3 (iso_h16 hH hI) (by rw [iso_c3b hH hI hS hb]))
end
section
variable {Y M D H I S L : Nat} {r : List Nat} {y mo da : Int}
/-- the clock with thousandths -/
theorem iso_ms4 (hH : H ≤ 24) (hI : I ≤ 59) (hS : S ≤ 59) (hL : L ≤ 999) : icS4 (isoN Y M D H I S (46 :: (figs L 3 ++ r))) ⟨11, false⟩ = ⟨23, false⟩ := by
  unfold icS4; rw [if_pos (iso_h16 hH hI), iso_c3 hH hI hS, has_y rfl, if_pos rfl, hasS_y rfl]
  exact numS_y (n := L) rfl (by decide) (by (first | lia | omega)) (by (first | lia | omega)) (by (first | lia | omega))
theorem iso_msL (hH : H ≤ 24) (hI : I ≤ 59) (hS : S ≤ 59) (hL : L ≤ 999) : icL (isoN Y M D H I S (46 :: (figs L 3 ++ r))) ⟨11, false⟩ = L := by
  unfold icL; rw [if_pos (iso_h16 hH hI), iso_c3 hH hI hS, has_y rfl, if_pos rfl, hasS_y rfl]
  exact numV_y (n := L) rfl (by decide) (by (first | lia | omega)) (by (first | lia | omega)) (by (first | lia | omega))
theorem iso_ms (hH : H ≤ 24) (hI : I ≤ 59) (hS : S ≤ 59) (hL : L ≤ 999) (hb : H ≤ 23 ∨ I + S + L = 0) : icS (isoN Y M D H I S (46 :: (figs L 3 ++ r))) ⟨11, false⟩ = ⟨23, false⟩ := by
  unfold icS icBad
  rw [iso_cH hH, iso_cM hH hI, iso_cC hH hI hS, iso_msL hH hI hS hL, iso_ms4 hH hI hS hL]
  rw [if_neg]
  simp; (first | lia | omega)
theorem iso_msW (hI : I ≤ 59) (hS : S ≤ 59) (hL : L ≤ 999) (hb : 0 < I + S + L) : (icS (isoN Y M D 24 I S (46 :: (figs L 3 ++ r))) ⟨11, false⟩).b = true := by
  unfold icS icBad
  rw [iso_cH (by (first | lia | omega)), iso_cM (by (first | lia | omega)) hI, iso_cC (by (first | lia | omega)) hI hS, iso_msL (by (first | lia | omega)) hI hS hL]
  rw [if_pos]
  simp; (first | lia | omega)
theorem iso_w4 (hI : I ≤ 59) (hS : S ≤ 59) (hL : L ≤ 999) (hb : 0 < I + S + L) : piEnd (isoN Y M D 24 I S (46 :: (figs L 3 ++ r))) ⟨10, false⟩ y mo da = none := pe_wrong iso_h10 (by rw [iso_s10]; exact iso_msW hI hS hL hb)
/-- the clock without thousandths -/
theorem iso_ns {tl : List Nat} (hH : H ≤ 23) (hI : I ≤ 59) (hS : S ≤ 59) (hd : tl.take 1 ≠ [46]) : icS (isoN Y M D H I S tl) ⟨11, false⟩ = ⟨19, false⟩ := by
  have hd' : ((isoN Y M D H I S tl).drop 19).take ([46] : List Nat).length ≠ [46] := hd
  have e4 : icS4 (isoN Y M D H I S tl) ⟨11, false⟩ = ⟨19, false⟩ := by
    unfold icS4; rw [if_pos (iso_h16 (by (first | lia | omega)) hI), iso_c3 (by (first | lia | omega)) hI hS, has_n hd', if_neg (by simp), hasS_n hd']
  unfold icS icBad
  rw [iso_cH (by (first | lia | omega)), e4, if_neg]
  simp; (first | lia | omega)
theorem iso_nsL {tl : List Nat} (hH : H ≤ 23) (hI : I ≤ 59) (hS : S ≤ 59) (hd : tl.take 1 ≠ [46]) : icL (isoN Y M D H I S tl) ⟨11, false⟩ = 0 := by
  have hd' : ((isoN Y M D H I S tl).drop 19).take ([46] : List Nat).length ≠ [46] := hd
  unfold icL; rw [if_pos (iso_h16 (by (first | lia | omega)) hI), iso_c3 (by (first | lia | omega)) hI hS, has_n hd', if_neg (by simp)]
/-- a bad thousandth -/
theorem iso_msB {tl : List Nat} (hH : H ≤ 24) (hI : I ≤ 59) (hS : S ≤ 59) (h1 : tl.take 1 = [46]) (h2 : ((tl.drop 1).take 3).all isDig = false) : (icS (isoN Y M D H I S tl) ⟨11, false⟩).b = true := by
  refine icS_b ?_
  have h1' : ((isoN Y M D H I S tl).drop 19).take ([46] : List Nat).length = [46] := h1
  have h2' : (((isoN Y M D H I S tl).drop 20).take 3).all isDig = false := by
    have : (isoN Y M D H I S tl).drop 20 = tl.drop 1 := rfl
    rw [this]; exact h2
  unfold icS4; rw [if_pos (iso_h16 hH hI), iso_c3 hH hI hS, has_y h1', if_pos rfl, hasS_y h1']
  rw [show (19 + ([46] : List Nat).length) = 20 from rfl, numS_d h2']
end
end

section -- T8
theorem rst_T8 : True := by
  w_top off
  trivial
open PySem PySem.W PySem.Calls PyProof.Rows
open PySem.Builtin PySem.Builtin.Str
theorem join1 (x a : List Nat) : Txt.join (mk x) [mk a] = mk a := rfl
theorem join2 (x a b : List Nat) : Txt.join (mk x) [mk a, mk b] = mk (a ++ x ++ b) := Str.ext' (by simp [Txt.join, glued])
theorem join3 (x a b c : List Nat) : Txt.join (mk x) [mk a, mk b, mk c] = mk (a ++ x ++ b ++ x ++ c) := Str.ext' (by simp [Txt.join, glued])
theorem join4 (x a b c d : List Nat) : Txt.join (mk x) [mk a, mk b, mk c, mk d] = mk (a ++ x ++ b ++ x ++ c ++ x ++ d) := Str.ext' (by simp [Txt.join, glued])
section
variable {prog : Program} {w : World} {A : Around} {E : Value → Shared → Prop} {s : Shared} {D : Addr} {ys : List Value} {xs : List Str} {x : Str} {t : Tok} {Q : Value → Shared → Prop}
theorem join_strs (hl : s.heap.IsList D ys.toArray) (hi : StrsAre ys xs) (hB : ∀ a ∈ xs, a.length ≤ 10) (hn : xs.length ≤ 1000) (hx : x.length ≤ 6)
    (h : ∀ t' k, Q (.str (Txt.join x xs) t') { s with toks := k }) : wpAny (model prog w) A (call (.builtin "str.join") [.str x t, .ref D]) Q E s :=
  KT.join_B 10 (l := xs) (g := fun a => a) hl hi.carried hB (by (first | lia | omega)) (by (first | lia | omega)) (by simpa using h)
end
theorem fig_at (n k : Nat) : Txt.item FIG (((n : Int).fdiv ((10 : Int) ^ k)).fmod 10) = mk [48 + n / 10 ^ k % 10] := by
  have e : ((n : Int).fdiv ((10 : Int) ^ k)).fmod 10 = ((n / 10 ^ k % 10 : Nat) : Int) := by
    have : ((10 : Int) ^ k) = ((10 ^ k : Nat) : Int) := by simp
    rw [this, Int.fdiv_eq_ediv_of_nonneg _ (Int.natCast_nonneg _), Int.fmod_eq_emod_of_nonneg _ (by decide)]
    (first | lia | omega)
  rw [e, fig_item (by (first | lia | omega)) (by (first | lia | omega)), Int.toNat_natCast]
end

section -- T9
theorem rst_T9 : True := by
  w_top off
  trivial
open PySem PySem.W PySem.Calls PyProof.Rows PySem.Spec
noncomputable def TAt (ax : Addr) (its : Array Value) (news : List (Addr × Obj)) : Prop := ∃ o, (ax, o) ∈ news ∧ o.cls = .type "tuple" ∧ ∃ n, o.data = .seq its n
theorem TAt.tup {h₀ h : Heap} {L ax : Addr} {its : Array Value} {news : List (Addr × Obj)} (x : TAt ax its news) (N : News h₀ L h news) : h.IsTuple ax its := by
  obtain ⟨o, hm, r⟩ := x
  exact ⟨o, (N _ hm).1, r⟩
section
variable {prog : Program} {w : World} {A : Around} {E : Value → Shared → Prop} {s : Shared} {h₀ : Heap} {L : Addr} {m : Str → Option Value} {env : Env}
/-- a comprehension over a made tuple: its source -/
noncomputable def TupSrc (prog : Program) (w : World) (A : Around) (h₀ : Heap) (L : Addr) (m : Str → Option Value) (env : Env) (elt : Expr) (x : Str) (scope : Scope) (cl : List (Str × Addr)) (Fin : Shared → List Value → List (Addr × Obj) → Prop) (xv : Value) (s₁ : Shared) : Prop :=
  ∃ ax its news, xv = .ref ax ∧ A.handled = none ∧ Fr h₀ L s₁.heap m ∧ News h₀ L s₁.heap news ∧ TAt ax its news ∧ its.size ≤ sizeLine ∧
    ∀ s₂ : Shared, (∃ h, s₂ = { s₁ with heap := h }) → LCg.CompRest prog w A h₀ L m env elt x scope cl s₂ (TAt ax its) (fun i v => its[i]? = some v) (Fin s₂) its.size 0 [] news
theorem TupSrc.intro {elt : Expr} {x : Str} {scope : Scope} {cl : List (Str × Addr)} {Fin : Shared → List Value → List (Addr × Obj) → Prop} {ax : Addr} {its : Array Value} {k : Nat} {news : List (Addr × Obj)} {s₁ : Shared}
    (hh : A.handled = none) (F : Fr h₀ L s₁.heap m) (N : News h₀ L s₁.heap news) (hm : (ax, ({ cls := .type "tuple", data := .seq its k } : Obj)) ∈ news) (hsz : its.size ≤ sizeLine)
    (h : ∀ g, LCg.CompRest prog w A h₀ L m env elt x scope cl { s₁ with heap := g } (TAt ax its) (fun i v => its[i]? = some v) (Fin { s₁ with heap := g }) its.size 0 [] news) :
    TupSrc prog w A h₀ L m env elt x scope cl Fin (.ref ax) s₁ := ⟨ax, its, news, rfl, hh, F, N, ⟨_, hm, rfl, _, rfl⟩, hsz, fun _ ⟨g, e⟩ => e ▸ h g⟩
theorem tup_st {ax I : Addr} {its : Array Value} : ∀ i (h h' : Heap) (o : Obj) (nw : List (Addr × Obj)), (h.IsTupleIter I ax i ∧ h.IsTuple ax its) → h.get? I = some o → h'.get? I = some o → (∀ b o, h₀.get? b = some o → h'.get? b = some o) → News h₀ L h' nw → TAt ax its nw → (h'.IsTupleIter I ax i ∧ h'.IsTuple ax its) :=
  fun i h h' o nw st e e' k N S => ⟨by obtain ⟨o', q, r⟩ := st.1; rw [e] at q; cases q; exact ⟨o, e', r⟩, S.tup N⟩
theorem ListComp_Tup {elt iter : Expr} {x : Str} {px : Pos} {scope : Scope} {cl : List (Str × Addr)} {pos : Pos} {Q : Value → Shared → Prop} (F₀ : Fr h₀ L s.heap m)
    (hclos : closureFor scope env = pure cl) (hcell : ∀ y ∈ scope.names, y.2 ≠ .cell) (hkind : scope.kind = .function)
    (hnames : ∀ y ∈ scope.names, y.2 = .local → scope.names.lookup y.1 = some .local) (hx : scope.names.lookup x = some .local)
    (h : wpAny (model prog w) A (eval iter env) (TupSrc prog w A h₀ L m env elt x scope cl (fun s₂ => LCg.FinE h₀ L m s₂ Q)) E s)
    (hs : ∀ x, foldedSetIterable iter env x = pure x := by intro _; rfl) :
    wpAny (model prog w) A (eval (.ListComp elt [⟨.Name x px, iter, [], 0⟩] scope pos) env) Q E s := by
  rw [eval_ListComp]
  refine wpAny_comprehension_free (use := none) rfl hs hclos hkind hnames (wpAny_mono h (fun xv s₁ h₁ => ?_) fun _ _ e => e)
  obtain ⟨ax, its, news, rfl, hh, F, N, S, hsz, R⟩ := h₁
  have hl := S.tup N
  have hlt : ax < s₁.heap.objs.size := by obtain ⟨_, e, _⟩ := hl; exact Heap.lt_size e
  refine wpAny_pyIter_tuple hl ?_
  have up : ∀ b o, s₁.heap.get? b = some o → (s₁.heap.push { cls := .type "tuple_iterator", data := .fields #[.ref ax, .int 0 0] }).get? b = some o := fun b o e => Heap.get?_push_of_some _ e
  refine LCg.block_U (Walks.tuple hh s₁.heap.objs.size ax (Nat.ne_of_lt hlt) its) hsz (fun i h st => by obtain ⟨o, e, _⟩ := st.1; exact ⟨o, e⟩) tup_st hcell hkind hx ⟨⟨_, Heap.get?_push_size _ rfl, rfl, rfl⟩, hl.at fun o e => Heap.get?_push_of_some _ e⟩ (fun b hb => ?_)
    (F.keeps up) (N.grown up) (Nat.ne_of_lt F.ns.lt) (next_is_new F) (fun p hp => Nat.ne_of_lt (Heap.lt_size (N p hp).1)) S (R _ ⟨_, rfl⟩) ?_
  · show b < (s₁.heap.push _).objs.size
    rw [Heap.size_push]
    rcases List.mem_cons.mp hb with rfl | hb
    · exact Nat.lt_succ_self _
    · rw [List.mem_singleton.mp hb]; exact Nat.lt_succ_of_lt hlt
  · intro D C h tk m' ys news' F' N' o1 hn hC₀ hD₀ hCL hDL hCD offC fin
    refine ⟨m', hn, fun h'' hs'' => fin D h'' tk (F'.change hs'' hCL hC₀) (fun p hp => ?_) o1⟩
    refine ⟨hs''.extBut _ _ ?_ (N' p hp).1, (N' p hp).2⟩
    rcases List.mem_cons.mp hp with rfl | hp
    · exact Ne.symm hCD
    · exact offC p hp
end
end

section -- L1
theorem rst_L1 : True := by
  w_top off
  trivial
open PySem PySem.W PySem.Calls PyProof.Rows
theorem ru_L1_0 : True := by
  k_with_none
  k_with "steps" => (repeat' (first | k_unfold | (k_end; kc_close) | walk1 | (dsimp only; walk1) | (leave1; (try dsimp only)) | fail "no step"))
  k_with "eval Constant int" => (k_here; (with_reducible refine ct9 ?_); intro _ _)
  k_with "eval Constant str" => (k_here; (with_reducible refine cs9 ?_); intro _ _)
  k_with "binaryOp Add int int" => (k_here; (with_reducible refine ar_add ?_); intro _ _)
  k_with "binaryOp Sub int int" => (k_here; (with_reducible refine ar_sub ?_); intro _ _)
  k_with "binaryOp Mult int int" => (k_here; (with_reducible refine' ar_mul ?_ ?m9_9); k_dflt (case m9_9 => mul_fits); intro _ _)
  k_with "binaryOp FloorDiv int int" => (k_here; (with_reducible refine' ar_div ?b9_9 ?_ ?p9_9); k_dflt (case b9_9 => decide); k_dflt (case p9_9 => first | exact PyProof.noPylong_of_log2 (by decide +kernel) | exact PyProof.noPylong_small (by omega)); intro _ _)
  k_with "binaryOp Mod int int" => (k_here; (with_reducible refine ar_mod ?b9_9 ?_); (case b9_9 => first | decide | omega | assumption); intro _ _)
  k_with "inplaceOp Add int int" => (k_here; (with_reducible refine ar_iadd ?_); intro _ _)
  k_with "storeName" => (k_here; k_dflt (refine' st9 ?F_9 ?N_9 ?_ ?a_9 ?b_9; (case F_9 => with_reducible assumption); (case N_9 => with_reducible assumption); (case a_9 => exact rfl); (case b_9 => exact rfl); k_whole); intro h9 k9 F9 N9; (try k_sweep))
  k_with "newTuple" => (k_here; kup_bare; k_dflt (refine' nt9 ?F_9 ?N_9 ?_ ?z_9; (case F_9 => with_reducible assumption); (case N_9 => with_reducible assumption); (case z_9 => kmk_size)); intro D9 h9 F9 N9; (try k_sweep))
  k_with "eval Tuple" => (k_here; k_whole; (with_reducible refine tk_go ?h9_9 ?_); k_dflt (case h9_9 => exact rfl))
  k_with "eval Tuple" => (k_here; walk_at "fold")
  k_with "TupK" => (k_here; (with_reducible refine tk_e ?_))
  k_with "TupK" => (k_here; (with_reducible refine' tk_n ?k1_9 ?k2_9 ?k3_9 ?k4_9 ?k5_9 ?_); k_dflt ((case k3_9 => exact rfl); (case k4_9 => exact rfl); (case k1_9 => k_asm); (case k2_9 => exact rfl); (case k5_9 => exact rfl); k_whole))
  k_with "TupK" => (k_here; (with_reducible refine tk_i ?_); intro _ _)
  k_with "TupK" => (k_here; (first | with_reducible refine tk_2 ?_ | with_reducible refine tk_3 ?_ | with_reducible refine tk_4 ?_ | with_reducible refine tk_5 ?_ | with_reducible refine tk_6 ?_))
  k_with "uX" => (intro t9 h9 tk9 F9 N9; (try dsimp only); (try k_sweep); (try k_fold))
  k_with "uV" => (intro h9 tk9 F9 N9; (try dsimp only); (try k_sweep); (try k_fold))
  k_with "callWith ref" => (k_here; k_dflt (first | (refine' cw_K0 ?k1_9 ?k2_9 ?_; (case k1_9 => k_is); (case k2_9 => exact rfl); k_whole) | (refine' cw_K1 ?k1_9 ?k2_9 ?_; (case k1_9 => k_is); (case k2_9 => exact rfl); k_whole)))
  k_with "eval Call" => (k_here; (with_reducible refine' cg_K ?k1_9 ?k2_9 ?k3_9 ?k4_9 ?k5_9 ?k6_9 ?k7_9 ?k8_9 ?k9_9 ?_); k_dflt ((case k7_9 => exact rfl); (case k8_9 => exact rfl); (case k9_9 => exact rfl); (case k1_9 => k_asm); (case k2_9 => k_asm); (case k3_9 => k_asm); (case k4_9 => k_is); (case k5_9 => exact rfl); (case k6_9 => k_is); k_whole))
  k_with "eval Name" => (k_here; k_dflt (refine' nm9 ?k1_9 ?k2_9 ?k3_9 ?k4_9 ?k5_9 ?_; (case k4_9 => exact rfl); (case k3_9 => exact rfl); (case k1_9 => k_asm); (case k2_9 => exact rfl); (case k5_9 => exact rfl); k_whole))
  k_with "fold" => (k_whole; (fail_if_success (fail_if_success k_fold)); refine fold9 ?_; intro qk)
  k_with "eval Call" => (k_here; walk_at "fold")
  k_with "eval BinOp" => (k_here; walk_at "fold")
  k_with "ArgK" => (k_here; (with_reducible refine ak_e ?_))
  k_with "ArgK" => (k_here; (with_reducible refine' ak_n ?k1_9 ?k2_9 ?k3_9 ?k4_9 ?k5_9 ?_); k_dflt ((case k3_9 => exact rfl); (case k4_9 => exact rfl); (case k1_9 => k_asm); (case k2_9 => exact rfl); (case k5_9 => exact rfl); k_whole))
  k_with "ArgK" => (k_here; (first | with_reducible refine ak_i ?_ | with_reducible refine ak_s ?_); intro _ _)
  k_with "ArgK" => (k_here; (first | with_reducible refine ak_1 ?_ | with_reducible refine ak_2 ?_ | with_reducible refine ak_3 ?_ | with_reducible refine ak_4 ?_ | with_reducible refine ak_0 ?_))
  k_with "ne" => first | with_reducible assumption | exact ne_news (by with_reducible assumption) (by k_mem) (by k_mem) rfl | k_ne
  k_with "upd" => first | (refine' Upd.head ?a_9; (case a_9 => walk_at "nall")) | (refine' Upd.tail ?a_9 ?b_9; (case a_9 => walk_at "ne"); (case b_9 => walk_at "upd"))
  k_with "setAttr ref" => (k_here; k_dflt (refine' set_dict ?k1_9 ?k2_9 ?k3_9 ?k4_9 ?k5_9 ?k6_9 ?k7_9 ?k8_9 ?k9_9 ?k10_9 ?k11_9 ?k12_9 ?k13_9 ?_; (case k1_9 => k_asm); (case k2_9 => k_asm); (case k3_9 => k_asm); (case k4_9 => k_inst); (case k5_9 => exact rfl); (case k6_9 => k_is); (case k7_9 => k_is); (case k8_9 => k_is); (case k9_9 => k_is); (case k10_9 => k_get); (case k11_9 => k_put); (case k12_9 => walk_at "upd"); (case k13_9 => exact Nat.le_of_ble_eq_true rfl); k_whole); intro h' F' N'; (try k_sweep))
  k_with "nall" => first | exact List.forall_mem_nil _ | (refine' List.forall_mem_cons.mpr ⟨?a_9, ?b_9⟩; (case a_9 => walk_at "ne"); (case b_9 => walk_at "nall"))
  k_with "execs cons" => (k_here; (with_reducible refine gen_toks ?_); intro _)
  k_with "execs nil" => (k_here; (with_reducible refine gen_toks ?_); intro _)
  k_with "end eq" => (law_clear; (try simp only [decide_eq_true_eq, decide_eq_false_iff_not, ne_eq, Bool.not_eq_true, Bool.not_eq_false, bne_iff_ne, beq_iff_eq] at *); first | rfl | omega | (simp_all; done) | (simp_all; rfl) | ((simp_all); omega))
  k_with "CallK" => (k_here; (guard_target = CallK _ _ (Value.ref 22) _ _ _ _); k_dflt (refine' use_ctrX (c_day_of _ _ _) ?g9_9 ?n9_9 ?F9_9 ?N9_9 ?_; (case g9_9 => with_reducible assumption); (case n9_9 => exact rfl); (case F9_9 => k_asm); (case N9_9 => k_asm); k_whole); walk_at "uX")
  k_with "CallK" => (k_here; (guard_target = CallK _ _ (Value.ref 29) _ _ _ _); k_dflt (refine' use_ctrX (c_time_in_day _ _ _) ?g9_9 ?n9_9 ?F9_9 ?N9_9 ?_; (case g9_9 => with_reducible assumption); (case n9_9 => exact rfl); (case F9_9 => k_asm); (case N9_9 => k_asm); k_whole); walk_at "uX")
  k_with "CallK" => (k_here; (guard_target = CallK _ _ (Value.ref 36) _ _ _ _); k_dflt (refine' use_ctrV (c_leap _ _ _) ?g9_9 ?n9_9 ?F9_9 ?N9_9 ?_; (case g9_9 => with_reducible assumption); (case n9_9 => exact rfl); (case F9_9 => k_asm); (case N9_9 => k_asm); k_whole); walk_at "uV")
  k_with "CallK" => (k_here; (guard_target = CallK _ _ (Value.ref 43) _ _ _ _); k_dflt (refine' use_ctrX (c_dfy _ _ _) ?g9_9 ?n9_9 ?F9_9 ?N9_9 ?_; (case g9_9 => with_reducible assumption); (case n9_9 => exact rfl); (case F9_9 => k_asm); (case N9_9 => k_asm); k_whole); walk_at "uX")
  k_with "CallK" => (k_here; (guard_target = CallK _ _ (Value.ref 71) _ _ _ _); k_dflt (refine' use_ctrX (c_days_ahead _ _ _ _ ?p0_9 ?p1_9) ?g9_9 ?n9_9 ?F9_9 ?N9_9 ?_; (case g9_9 => with_reducible assumption); (case n9_9 => exact rfl); (case F9_9 => k_asm); (case N9_9 => k_asm); (case p0_9 => first | with_reducible assumption | decide | l_fact); (case p1_9 => first | with_reducible assumption | decide | l_fact); k_whole); walk_at "uX")
  k_with "CallK" => (k_here; (guard_target = CallK _ _ (Value.ref 50) _ _ _ _); k_dflt (refine' use_ctrX (c_year_of_day _ _ _ _ ?p0_9 ?p1_9) ?g9_9 ?n9_9 ?F9_9 ?N9_9 ?_; (case g9_9 => with_reducible assumption); (case n9_9 => exact rfl); (case F9_9 => k_asm); (case N9_9 => k_asm); (case p0_9 => assumption); (case p1_9 => assumption); k_whole); walk_at "uX")
  k_with "CallK" => (k_here; (guard_target = CallK _ _ (Value.ref 78) _ _ _ _); k_dflt (refine' use_ctrX (c_days_of_month _ _ _ _ _ ?p0_9 ?p1_9) ?g9_9 ?n9_9 ?F9_9 ?N9_9 ?_; (case g9_9 => with_reducible assumption); (case n9_9 => exact rfl); (case F9_9 => k_asm); (case N9_9 => k_asm); (case p0_9 => first | with_reducible assumption | decide | l_fact); (case p1_9 => first | with_reducible assumption | decide | l_fact); k_whole); walk_at "uX")
  k_with "CallK" => (k_here; (guard_target = CallK _ _ (Value.ref 57) _ _ _ _); k_dflt (refine' use_ctrX (c_year_of _ _ _ _ ?p0_9) ?g9_9 ?n9_9 ?F9_9 ?N9_9 ?_; (case g9_9 => with_reducible assumption); (case n9_9 => exact rfl); (case F9_9 => k_asm); (case N9_9 => k_asm); (case p0_9 => assumption); k_whole); walk_at "uX")
  k_with "CallK" => (k_here; (guard_target = CallK _ _ (Value.ref 64) _ _ _ _); k_dflt (refine' use_ctrX (c_day_in_year _ _ _ _ ?p0_9) ?g9_9 ?n9_9 ?F9_9 ?N9_9 ?_; (case g9_9 => with_reducible assumption); (case n9_9 => exact rfl); (case F9_9 => k_asm); (case N9_9 => k_asm); (case p0_9 => assumption); k_whole); walk_at "uX")
  k_with "CallK" => (k_here; (guard_target = CallK _ _ (Value.ref 85) _ _ _ _); k_dflt (refine' use_ctrX (c_month_of _ _ _ _ _ ?p0_9 ?p1_9) ?g9_9 ?n9_9 ?F9_9 ?N9_9 ?_; (case g9_9 => with_reducible assumption); (case n9_9 => exact rfl); (case F9_9 => k_asm); (case N9_9 => k_asm); (case p0_9 => assumption); (case p1_9 => assumption); k_whole); walk_at "uX")
  k_with "CallK" => (k_here; (guard_target = CallK _ _ (Value.ref 92) _ _ _ _); k_dflt (refine' use_ctrX (c_date_of _ _ _ _ _ ?p0_9 ?p1_9) ?g9_9 ?n9_9 ?F9_9 ?N9_9 ?_; (case g9_9 => with_reducible assumption); (case n9_9 => exact rfl); (case F9_9 => k_asm); (case N9_9 => k_asm); (case p0_9 => assumption); (case p1_9 => assumption); k_whole); walk_at "uX")
  k_with "CallK" => (k_here; (guard_target = CallK _ _ (Value.ref 99) _ _ _ _); k_dflt (refine' use_ctrX (c_week_day_of _ _ _) ?g9_9 ?n9_9 ?F9_9 ?N9_9 ?_; (case g9_9 => with_reducible assumption); (case n9_9 => exact rfl); (case F9_9 => k_asm); (case N9_9 => k_asm); k_whole); walk_at "uX")
  k_with "CallK" => (k_here; (guard_target = CallK _ _ (Value.ref 106) _ _ _ _); k_dflt (refine' use_ctrX (c_hour_of _ _ _) ?g9_9 ?n9_9 ?F9_9 ?N9_9 ?_; (case g9_9 => with_reducible assumption); (case n9_9 => exact rfl); (case F9_9 => k_asm); (case N9_9 => k_asm); k_whole); walk_at "uX")
  k_with "CallK" => (k_here; (guard_target = CallK _ _ (Value.ref 113) _ _ _ _); k_dflt (refine' use_ctrX (c_minute_of _ _ _) ?g9_9 ?n9_9 ?F9_9 ?N9_9 ?_; (case g9_9 => with_reducible assumption); (case n9_9 => exact rfl); (case F9_9 => k_asm); (case N9_9 => k_asm); k_whole); walk_at "uX")
  k_with "CallK" => (k_here; (guard_target = CallK _ _ (Value.ref 120) _ _ _ _); k_dflt (refine' use_ctrX (c_second_of _ _ _) ?g9_9 ?n9_9 ?F9_9 ?N9_9 ?_; (case g9_9 => with_reducible assumption); (case n9_9 => exact rfl); (case F9_9 => k_asm); (case N9_9 => k_asm); k_whole); walk_at "uX")
  k_with "CallK" => (k_here; (guard_target = CallK _ _ (Value.ref 127) _ _ _ _); k_dflt (refine' use_ctrX (c_ms_of _ _ _) ?g9_9 ?n9_9 ?F9_9 ?N9_9 ?_; (case g9_9 => with_reducible assumption); (case n9_9 => exact rfl); (case F9_9 => k_asm); (case N9_9 => k_asm); k_whole); walk_at "uX")
  k_with "compareOp In" => (k_here; (guard_target = wpAny _ _ (compareOp CmpOp.In Value.none (Value.ref _)) _ _ _); k_dflt (first | (refine' none_in4 ?N_9 ?a_9 ?n_9 ?_; (case N_9 => k_asm); (case a_9 => k_mem); (case n_9 => first | with_reducible assumption | ktr_units); k_whole) | (refine' none_in3 ?N_9 ?a_9 ?n_9 ?_; (case N_9 => k_asm); (case a_9 => k_mem); (case n_9 => first | with_reducible assumption | ktr_units); k_whole)); (try dsimp only))
  k_with "CallK" => (k_here; (guard_target = CallK _ _ (Value.ref 141) _ _ _ _); k_dflt (refine' use_ctrX (c_make_time _ _ _ _ _ _ _ _ _) ?g9_9 ?n9_9 ?F9_9 ?N9_9 ?_; (case g9_9 => with_reducible assumption); (case n9_9 => exact rfl); (case F9_9 => k_asm); (case N9_9 => k_asm); k_whole); walk_at "uX")
  k_with "CallK" => (k_here; (guard_target = CallK _ _ (Value.ref 148) _ _ _ _); k_dflt (refine' use_ctrX (c_make_day _ _ _ _ _ _ _) ?g9_9 ?n9_9 ?F9_9 ?N9_9 ?_; (case g9_9 => with_reducible assumption); (case n9_9 => exact rfl); (case F9_9 => k_asm); (case N9_9 => k_asm); k_whole); walk_at "uX")
  k_with "CallK" => (k_here; (guard_target = CallK _ _ (Value.ref 155) _ _ _ _); k_dflt (refine' use_ctrX (c_make_date _ _ _ _ _) ?g9_9 ?n9_9 ?F9_9 ?N9_9 ?_; (case g9_9 => with_reducible assumption); (case n9_9 => exact rfl); (case F9_9 => k_asm); (case N9_9 => k_asm); k_whole); walk_at "uX")
  k_with "CallK" => (k_here; (guard_target = CallK _ _ (Value.ref 176) _ _ _ _); k_dflt (refine' use_ctrX (c_local_of _ _ _ _ _) ?g9_9 ?n9_9 ?F9_9 ?N9_9 ?_; (case g9_9 => with_reducible assumption); (case n9_9 => exact rfl); (case F9_9 => k_asm); (case N9_9 => k_asm); k_whole); walk_at "uX")
  k_with "CallK" => (k_here; (guard_target = CallK _ _ (Value.ref 183) _ _ _ _); k_dflt (refine' use_ctrX (c_utc_of _ _ _ _ _) ?g9_9 ?n9_9 ?F9_9 ?N9_9 ?_; (case g9_9 => with_reducible assumption); (case n9_9 => exact rfl); (case F9_9 => k_asm); (case N9_9 => k_asm); k_whole); walk_at "uX")
  k_with "CallK" => (k_here; (guard_target = CallK _ _ (Value.ref 162) _ _ _ _); k_dflt (refine' use_ctr (c_time_clip _ _ _) ?g9_9 ?n9_9 ?F9_9 ?N9_9 ?_; (case g9_9 => with_reducible assumption); (case n9_9 => exact rfl); (case F9_9 => k_asm); (case N9_9 => k_asm); k_whole); intro r9 h9 tk9 hP9 F9 N9; (try dsimp only); (try k_sweep); (try k_fold))
  trivial
set_option maxRecDepth 100000
set_option maxHeartbeats 8000000
noncomputable def lenF (y m : Int) : Int := if m = 1 then (if leap y = true then 29 else 28) else if ([3, 5, 8, 10].any fun x => x == m) = true then 30 else 31
theorem len_a {y m : Int} (h : m = 1) (a : y.fmod 4 = 0) (b : y.fmod 100 ≠ 0) : (29 : Int) = lenF y m := by simp [lenF, leap, h, a, b]
theorem len_b {y m : Int} (h : m = 1) (a : y.fmod 4 = 0) (b : y.fmod 100 = 0) (c : y.fmod 400 = 0) : (29 : Int) = lenF y m := by simp [lenF, leap, h, a, b, c]
theorem len_c {y m : Int} (h : m = 1) (a : y.fmod 4 = 0) (b : y.fmod 100 = 0) (c : y.fmod 400 ≠ 0) : (28 : Int) = lenF y m := by simp [lenF, leap, h, a, b, c]
theorem len_d {y m : Int} (h : m = 1) (a : y.fmod 4 ≠ 0) : (28 : Int) = lenF y m := by simp [lenF, leap, h, a]
theorem len_e {y m : Int} (h : m ≠ 1) (a : ([3, 5, 8, 10].any fun x => x == m) = true) : (30 : Int) = lenF y m := by unfold lenF; rw [if_neg h, if_pos a]
theorem len_f {y m : Int} (h : m ≠ 1) (a : ([3, 5, 8, 10].any fun x => x == m) = false) : (31 : Int) = lenF y m := by unfold lenF; rw [if_neg h, if_neg (by simp only [a]; decide)]
theorem c_length (w : World) (y m : Int) (t t' : Tok) : Ctr w 393 1 [.int y t, .int m t'] (intv (lenF y m)) := by
  k_dflt (refine' ctrI_enter (bs := [(Str.ofString "month", _), (Str.ofString "year", _)]) ?k6 ?k7 ?kb ?kB ?kr ?c2 ?c3 ?c4 ?c5 ?_; (case k6 => k_is); (case k7 => k_is); (case kb => exact rfl); (case kB => exact rfl); (case kr => exact rfl); (case c2 => exact rfl); (case c3 => exact rfl); (case c4 => exact rfl); (case c5 => decide))
  intro mean mg mb dp un gd outer A₀ base g' L' h9 gs9 d9 tk9 o9 Q
  intro A9 P9 u9 B' F9 X' N' T' hdp hun hret
  walk_at "steps"
  all_goals first | (refine hret _ _ _ ?_ (by k_asm); (first | exact len_a (by assumption) (by assumption) (by assumption) | exact len_b (by assumption) (by assumption) (by assumption) (by assumption) | exact len_c (by assumption) (by assumption) (by assumption) (by assumption) | exact len_d (by assumption) (by assumption) | exact len_e (by assumption) (by assumption) | exact len_f (by assumption) (by assumption))) | (refine hret _ _ _ ?_ (by k_asm) (by first | with_reducible assumption | exact drop_news (by with_reducible assumption) (by first | with_reducible exact ktn_subA | repeat (first | with_reducible exact sub_refl | with_reducible refine sub_cons ?_ | with_reducible refine sub_skip ?_))); (first | exact len_a (by assumption) (by assumption) (by assumption) | exact len_b (by assumption) (by assumption) (by assumption) (by assumption) | exact len_c (by assumption) (by assumption) (by assumption) (by assumption) | exact len_d (by assumption) (by assumption) | exact len_e (by assumption) (by assumption) | exact len_f (by assumption) (by assumption))) | (refine hret _ _ _ ⟨_, congrArg (fun z => Value.int z _) ?_⟩ (by k_asm); (first | exact len_a (by assumption) (by assumption) (by assumption) | exact len_b (by assumption) (by assumption) (by assumption) (by assumption) | exact len_c (by assumption) (by assumption) (by assumption) (by assumption) | exact len_d (by assumption) (by assumption) | exact len_e (by assumption) (by assumption) | exact len_f (by assumption) (by assumption))) | (refine hret _ _ _ ⟨_, congrArg (fun z => Value.int z _) ?_⟩ (by k_asm) (by first | with_reducible assumption | exact drop_news (by with_reducible assumption) (by first | with_reducible exact ktn_subA | repeat (first | with_reducible exact sub_refl | with_reducible refine sub_cons ?_ | with_reducible refine sub_skip ?_))); (first | exact len_a (by assumption) (by assumption) (by assumption) | exact len_b (by assumption) (by assumption) (by assumption) (by assumption) | exact len_c (by assumption) (by assumption) (by assumption) (by assumption) | exact len_d (by assumption) (by assumption) | exact len_e (by assumption) (by assumption) | exact len_f (by assumption) (by assumption)))
theorem ru_L1_1 : True := by
  k_with "CallK" => (k_here; (guard_target = CallK _ _ (Value.ref 393) _ _ _ _); k_dflt (refine' use_ctrX (c_length _ _ _ _ _) ?g9_9 ?n9_9 ?F9_9 ?N9_9 ?_; (case g9_9 => with_reducible assumption); (case n9_9 => exact rfl); (case F9_9 => k_asm); (case N9_9 => k_asm); k_whole); walk_at "uX")
  trivial
noncomputable abbrev poolO (p k : Int) (t1 t2 : Tok) (sc : Addr) (c : Nat) : Obj := listOf #[.int p t1, .ref sc, .int k t2] c
/-- a draw: the pool turns -/
noncomputable def CtrP (w : World) (many : Int) (t : Tok) (pl sc : Addr) (p k : Int) (t1 t2 : Tok) (c : Nat) (ys : List Value) : Prop :=
  ∀ (news : Led) (g : Obj → Led), UpdF pl (poolO p k t1 t2 sc c) news g → (sc, LCg.lst ys) ∈ news → (sc : Nat) ≠ pl →
    CtG w 381 1 [.ref pl, .int many t] news (fun v n' => ∃ (r p' : Int) (t1' t2' tr : Tok), v = .int r tr ∧ (0 ≤ r ∧ r < many ∧ 0 ≤ p' ∧ p' < 1009) ∧ n' = g (poolO p' (k + 1) t1' t2' sc c))
theorem use_ctrP {w : World} {many : Int} {t : Tok} {pl sc : Addr} {p j : Int} {t1 t2 : Tok} {c : Nat} {ys : List Value} {k : Nat} {news : Led} {gg : Obj → Led} {A : Around} {h₀ h : Heap} {L : Addr} {m : Str → Option Value} {g : Array GenState} {d : Drawn} {tk : Nat} {o : OsState} {Q E : Value → Shared → Prop}
    (C : CtrP w many t pl sc p j t1 t2 c ys) (G : Pl w k A h₀ L) (hn : Nat.ble 1 k = true) (F : Fr h₀ L h m) (N : News h₀ L h news) (U : UpdF pl (poolO p j t1 t2 sc c) news gg) (hq : (sc, LCg.lst ys) ∈ news) (hne : (sc : Nat) ≠ pl)
    (hret : ∀ (r p' : Int) (t1' t2' tr : Tok) (h' : Heap) (tk' : Nat), 0 ≤ r → r < many → 0 ≤ p' → p' < 1009 → Fr h₀ L h' m → News h₀ L h' (gg (poolO p' (j + 1) t1' t2' sc c)) → Q (.int r tr) ⟨h', g, d, tk', o⟩) :
    CallK w A (.ref 381) [.ref pl, .int many t] Q E ⟨h, g, d, tk, o⟩ :=
  use_g (C news gg U hq hne) G hn F N (fun v h' k' n' hp F' N' => by obtain ⟨r, p', t1', t2', tr, rfl, ⟨a, b, c', d'⟩, rfl⟩ := hp; exact hret r p' t1' t2' tr h' k' a b c' d' F' N')
theorem pool_in {h₀ h : Heap} {L : Addr} {pre post : List (Addr × Obj)} {p x : Addr × Obj} (N : News h₀ L h (pre ++ p :: post)) (hx : x ∈ pre ++ p :: post) : News h₀ L h (p :: x :: (pre ++ post)) := fun q hq => N q (by
  simp only [List.mem_cons, List.mem_append] at hq hx ⊢
  rcases hq with rfl | rfl | hq | hq
  · exact .inr (.inl rfl)
  · exact hx
  · exact .inl hq
  · exact .inr (.inr hq))
theorem pool_out {h₀ h : Heap} {L : Addr} {pre post : List (Addr × Obj)} {p x : Addr × Obj} (N : News h₀ L h (p :: x :: (pre ++ post))) : News h₀ L h (pre ++ p :: post) := fun q hq => N q (by
  simp only [List.mem_cons, List.mem_append] at hq ⊢
  rcases hq with hq | rfl | hq
  · exact .inr (.inr (.inl hq))
  · exact .inl rfl
  · exact .inr (.inr (.inr hq)))
theorem pool_ne {pre post : List (Addr × Obj)} {d : Addr} (a : ∀ p ∈ pre, p.1 ≠ d) (b : ∀ p ∈ post, p.1 ≠ d) : ∀ p ∈ pre ++ post, p.1 ≠ d := fun p hp => (List.mem_append.mp hp).elim (a p) (b p)
theorem fm_b0 (x : Int) {k : Int} (h : 0 < k) : 0 ≤ x.fmod k ∧ x.fmod k < k := by
  rw [Int.fmod_eq_emod_of_nonneg _ (by (first | lia | omega))]
  exact ⟨Int.emod_nonneg _ (by (first | lia | omega)), Int.emod_lt_of_pos _ h⟩
section
local macro_rules | `(tactic| k_all) => `(tactic| with_reducible assumption)
theorem c_draw (w : World) (many : Int) (t : Tok) (pl sc : Addr) (p k : Int) (t1 t2 : Tok) (c : Nat) (ys : List Value) (ns : List Int) (hi : IntsAre ys ns) (hl : ns.length ≤ 24) (hm : 0 < many) (hm1 : many ≤ 1000) (hk0 : 0 ≤ k) (hk1 : k ≤ 100) (hp0 : 0 ≤ p) (hp1 : p < 1009) : CtrP w many t pl sc p k t1 t2 c ys := by
  intro news g U hq hne A h₀ L mF hh gs9 d9 tk9 o9 Q E hP F N hret
  obtain ⟨mean, mg, mb, dp, un, gd, cn, cs, a, ccd, cl, outer, A₀, base, rfl, B, X, T, hk, hdp, hun⟩ := hP
  obtain ⟨pre, post, e1, e2, n1, n2⟩ := U.split
  subst e1
  replace N := pool_in N hq
  have hrest := pool_ne n1 n2
  have hne' : (pl : Nat) ≠ sc := fun e => hne e.symm
  replace hret := fun r p' t1' t2' tr h' tk' hp F (N : News h₀ L h' ((pl, poolO p' (k + 1) t1' t2' sc c) :: (sc, LCg.lst ys) :: (pre ++ post))) => hret (.int r tr) h' tk' _ ⟨r, p', t1', t2', tr, rfl, hp, rfl⟩ F (by rw [e2]; exact pool_out N)
  clear e2 U hq
  generalize pre ++ post = rest at N hret hrest
  refine wpAny_call ?_
  k_dflt cell_enter
  walk_at "steps"
  all_goals first
    | (refine hret _ _ _ _ _ _ _ ?_ (by k_asm) (drop_news (by with_reducible assumption) (sub_skip sub_refl)); exact ⟨(fm_b0 _ hm).1, (fm_b0 _ hm).2, (fm_b0 _ (by decide)).1, (fm_b0 _ (by decide)).2⟩)
    | (exfalso; have e9 : ns = [] := List.eq_nil_of_length_eq_zero (by omega); simp_all; done)
end
noncomputable def countF (y m d : Int) : Int := 365 * y + (y - 1).fdiv 4 - (y - 1).fdiv 100 + (y - 1).fdiv 400 + 1 - 719528 + ((rangeKs 0 (m - 0).toNat).map (lenF y)).sum + d - 1
theorem c_count (w : World) (y m d : Int) (t1 t2 t3 : Tok) (m0 : 0 ≤ m) (m1 : m ≤ 11) : Ctr w 398 2 [.int y t1, .int m t2, .int d t3] (intv (countF y m d)) := by
  intro news A h₀ L mF hh gs9 d9 tk9 o9 Q E hP F N hret
  obtain ⟨mean, mg, mb, dp, un, gd, cn, cs, a, ccd, cl, outer, A₀, base, rfl, B, X, T, hk, hdp, hun⟩ := hP
  replace hret := fun r h' k' hp F N => hret r h' k' news ⟨hp, rfl⟩ F N
  refine wpAny_call ?_
  k_dflt (refine' code_defC ?k1 ?k2 ?k3 ?k4 ?k5 ?kA ?kF ?kK ?k6 ?k7 ?k8 ?k9 ?kB ?kD ?_ ?c2 ?c3 ?c4; (case kA => exact rfl); (case kF => exact rfl); (case kK => assumption); (case k1 => k_asm); (case k2 => k_asm); (case k3 => k_asm); (case k4 => k_asm); (case k5 => k_asm); (case k6 => k_is); (case k7 => k_is); (case k8 => ktr_room); (case k9 => exact BindsTo.of_eq rfl); (case kB => exact rfl); (case kD => decide +kernel); (case c2 => exact rfl); (case c3 => exact rfl); (case c4 => exact rfl); k_whole; intro g' L' h' tk' cells' FG' F' N' Y' B' X' T' l1; (try k_lt l1); k_cells Y'; (try simp only [List.cons_append, List.nil_append] at N'); (try dsimp only); (try k_lift B'); (try k_fold))
  refine foldA ?_
  intro A9
  have P9 : Pl w 1 A9 g' L' := by refine pl_step B' X' T' ?hks hdp hun; rfl
  walk_at "steps"
  all_goals first | (refine hret _ _ _ ?_ (by k_asm); rfl) | (refine hret _ _ _ ?_ (by k_asm) (by first | with_reducible assumption | exact drop_news (by with_reducible assumption) (by first | with_reducible exact ktn_subA | repeat (first | with_reducible exact sub_refl | with_reducible refine sub_cons ?_ | with_reducible refine sub_skip ?_))); rfl) | (refine hret _ _ _ ⟨_, congrArg (fun z => Value.int z _) ?_⟩ (by k_asm); rfl) | (refine hret _ _ _ ⟨_, congrArg (fun z => Value.int z _) ?_⟩ (by k_asm) (by first | with_reducible assumption | exact drop_news (by with_reducible assumption) (by first | with_reducible exact ktn_subA | repeat (first | with_reducible exact sub_refl | with_reducible refine sub_cons ?_ | with_reducible refine sub_skip ?_))); rfl)
theorem ru_L1_2 : True := by
  k_with "CallK" => (k_here; (guard_target = CallK _ _ (Value.ref 398) _ _ _ _); k_dflt (refine' use_ctrX (c_count _ _ _ _ _ _ _ ?p0_9 ?p1_9) ?g9_9 ?n9_9 ?F9_9 ?N9_9 ?_; (case g9_9 => with_reducible assumption); (case n9_9 => exact rfl); (case F9_9 => k_asm); (case N9_9 => k_asm); (case p0_9 => first | with_reducible assumption | decide | l_fact); (case p1_9 => first | with_reducible assumption | decide | l_fact); k_whole); walk_at "uX")
  trivial
end

section -- L2
theorem rst_L2 : True := by
  w_top off
  trivial
open PySem PySem.W PySem.Calls PyProof.Rows
theorem ru_L2_0 : True := by
  k_with_none
  k_with "steps" => (repeat' (first | k_unfold | (k_end; kc_close) | walk1 | (dsimp only; walk1) | (leave1; (try dsimp only)) | fail "no step"))
  k_with "eval Constant int" => (k_here; (with_reducible refine ct9 ?_); intro _ _)
  k_with "eval Constant str" => (k_here; (with_reducible refine cs9 ?_); intro _ _)
  k_with "binaryOp Add int int" => (k_here; (with_reducible refine ar_add ?_); intro _ _)
  k_with "binaryOp Sub int int" => (k_here; (with_reducible refine ar_sub ?_); intro _ _)
  k_with "binaryOp Mult int int" => (k_here; (with_reducible refine' ar_mul ?_ ?m9_9); k_dflt (case m9_9 => mul_fits); intro _ _)
  k_with "binaryOp FloorDiv int int" => (k_here; (with_reducible refine' ar_div ?b9_9 ?_ ?p9_9); k_dflt (case b9_9 => decide); k_dflt (case p9_9 => first | exact PyProof.noPylong_of_log2 (by decide +kernel) | exact PyProof.noPylong_small (by omega)); intro _ _)
  k_with "binaryOp Mod int int" => (k_here; (with_reducible refine ar_mod ?b9_9 ?_); (case b9_9 => first | decide | omega | assumption); intro _ _)
  k_with "inplaceOp Add int int" => (k_here; (with_reducible refine ar_iadd ?_); intro _ _)
  k_with "storeName" => (k_here; k_dflt (refine' st9 ?F_9 ?N_9 ?_ ?a_9 ?b_9; (case F_9 => with_reducible assumption); (case N_9 => with_reducible assumption); (case a_9 => exact rfl); (case b_9 => exact rfl); k_whole); intro h9 k9 F9 N9; (try k_sweep))
  k_with "newTuple" => (k_here; kup_bare; k_dflt (refine' nt9 ?F_9 ?N_9 ?_ ?z_9; (case F_9 => with_reducible assumption); (case N_9 => with_reducible assumption); (case z_9 => kmk_size)); intro D9 h9 F9 N9; (try k_sweep))
  k_with "eval Tuple" => (k_here; k_whole; (with_reducible refine tk_go ?h9_9 ?_); k_dflt (case h9_9 => exact rfl))
  k_with "eval Tuple" => (k_here; walk_at "fold")
  k_with "TupK" => (k_here; (with_reducible refine tk_e ?_))
  k_with "TupK" => (k_here; (with_reducible refine' tk_n ?k1_9 ?k2_9 ?k3_9 ?k4_9 ?k5_9 ?_); k_dflt ((case k3_9 => exact rfl); (case k4_9 => exact rfl); (case k1_9 => k_asm); (case k2_9 => exact rfl); (case k5_9 => exact rfl); k_whole))
  k_with "TupK" => (k_here; (with_reducible refine tk_i ?_); intro _ _)
  k_with "TupK" => (k_here; (first | with_reducible refine tk_2 ?_ | with_reducible refine tk_3 ?_ | with_reducible refine tk_4 ?_ | with_reducible refine tk_5 ?_ | with_reducible refine tk_6 ?_))
  k_with "uX" => (intro t9 h9 tk9 F9 N9; (try dsimp only); (try k_sweep); (try k_fold))
  k_with "uV" => (intro h9 tk9 F9 N9; (try dsimp only); (try k_sweep); (try k_fold))
  k_with "callWith ref" => (k_here; k_dflt (first | (refine' cw_K0 ?k1_9 ?k2_9 ?_; (case k1_9 => k_is); (case k2_9 => exact rfl); k_whole) | (refine' cw_K1 ?k1_9 ?k2_9 ?_; (case k1_9 => k_is); (case k2_9 => exact rfl); k_whole)))
  k_with "eval Call" => (k_here; (with_reducible refine' cg_K ?k1_9 ?k2_9 ?k3_9 ?k4_9 ?k5_9 ?k6_9 ?k7_9 ?k8_9 ?k9_9 ?_); k_dflt ((case k7_9 => exact rfl); (case k8_9 => exact rfl); (case k9_9 => exact rfl); (case k1_9 => k_asm); (case k2_9 => k_asm); (case k3_9 => k_asm); (case k4_9 => k_is); (case k5_9 => exact rfl); (case k6_9 => k_is); k_whole))
  k_with "eval Name" => (k_here; k_dflt (refine' nm9 ?k1_9 ?k2_9 ?k3_9 ?k4_9 ?k5_9 ?_; (case k4_9 => exact rfl); (case k3_9 => exact rfl); (case k1_9 => k_asm); (case k2_9 => exact rfl); (case k5_9 => exact rfl); k_whole))
  k_with "fold" => (k_whole; (fail_if_success (fail_if_success k_fold)); refine fold9 ?_; intro qk)
  k_with "eval Call" => (k_here; walk_at "fold")
  k_with "eval BinOp" => (k_here; walk_at "fold")
  k_with "ArgK" => (k_here; (with_reducible refine ak_e ?_))
  k_with "ArgK" => (k_here; (with_reducible refine' ak_n ?k1_9 ?k2_9 ?k3_9 ?k4_9 ?k5_9 ?_); k_dflt ((case k3_9 => exact rfl); (case k4_9 => exact rfl); (case k1_9 => k_asm); (case k2_9 => exact rfl); (case k5_9 => exact rfl); k_whole))
  k_with "ArgK" => (k_here; (first | with_reducible refine ak_i ?_ | with_reducible refine ak_s ?_); intro _ _)
  k_with "ArgK" => (k_here; (first | with_reducible refine ak_1 ?_ | with_reducible refine ak_2 ?_ | with_reducible refine ak_3 ?_ | with_reducible refine ak_4 ?_ | with_reducible refine ak_0 ?_))
  k_with "ne" => first | with_reducible assumption | exact ne_news (by with_reducible assumption) (by k_mem) (by k_mem) rfl | k_ne
  k_with "upd" => first | (refine' Upd.head ?a_9; (case a_9 => walk_at "nall")) | (refine' Upd.tail ?a_9 ?b_9; (case a_9 => walk_at "ne"); (case b_9 => walk_at "upd"))
  k_with "setAttr ref" => (k_here; k_dflt (refine' set_dict ?k1_9 ?k2_9 ?k3_9 ?k4_9 ?k5_9 ?k6_9 ?k7_9 ?k8_9 ?k9_9 ?k10_9 ?k11_9 ?k12_9 ?k13_9 ?_; (case k1_9 => k_asm); (case k2_9 => k_asm); (case k3_9 => k_asm); (case k4_9 => k_inst); (case k5_9 => exact rfl); (case k6_9 => k_is); (case k7_9 => k_is); (case k8_9 => k_is); (case k9_9 => k_is); (case k10_9 => k_get); (case k11_9 => k_put); (case k12_9 => walk_at "upd"); (case k13_9 => exact Nat.le_of_ble_eq_true rfl); k_whole); intro h' F' N'; (try k_sweep))
  k_with "nall" => first | exact List.forall_mem_nil _ | (refine' List.forall_mem_cons.mpr ⟨?a_9, ?b_9⟩; (case a_9 => walk_at "ne"); (case b_9 => walk_at "nall"))
  k_with "execs cons" => (k_here; (with_reducible refine gen_toks ?_); intro _)
  k_with "execs nil" => (k_here; (with_reducible refine gen_toks ?_); intro _)
  k_with "end eq" => (law_clear; (try simp only [decide_eq_true_eq, decide_eq_false_iff_not, ne_eq, Bool.not_eq_true, Bool.not_eq_false, bne_iff_ne, beq_iff_eq] at *); first | rfl | omega | (simp_all; done) | (simp_all; rfl) | ((simp_all); omega))
  k_with "CallK" => (k_here; (guard_target = CallK _ _ (Value.ref 22) _ _ _ _); k_dflt (refine' use_ctrX (c_day_of _ _ _) ?g9_9 ?n9_9 ?F9_9 ?N9_9 ?_; (case g9_9 => with_reducible assumption); (case n9_9 => exact rfl); (case F9_9 => k_asm); (case N9_9 => k_asm); k_whole); walk_at "uX")
  k_with "CallK" => (k_here; (guard_target = CallK _ _ (Value.ref 29) _ _ _ _); k_dflt (refine' use_ctrX (c_time_in_day _ _ _) ?g9_9 ?n9_9 ?F9_9 ?N9_9 ?_; (case g9_9 => with_reducible assumption); (case n9_9 => exact rfl); (case F9_9 => k_asm); (case N9_9 => k_asm); k_whole); walk_at "uX")
  k_with "CallK" => (k_here; (guard_target = CallK _ _ (Value.ref 36) _ _ _ _); k_dflt (refine' use_ctrV (c_leap _ _ _) ?g9_9 ?n9_9 ?F9_9 ?N9_9 ?_; (case g9_9 => with_reducible assumption); (case n9_9 => exact rfl); (case F9_9 => k_asm); (case N9_9 => k_asm); k_whole); walk_at "uV")
  k_with "CallK" => (k_here; (guard_target = CallK _ _ (Value.ref 43) _ _ _ _); k_dflt (refine' use_ctrX (c_dfy _ _ _) ?g9_9 ?n9_9 ?F9_9 ?N9_9 ?_; (case g9_9 => with_reducible assumption); (case n9_9 => exact rfl); (case F9_9 => k_asm); (case N9_9 => k_asm); k_whole); walk_at "uX")
  k_with "CallK" => (k_here; (guard_target = CallK _ _ (Value.ref 71) _ _ _ _); k_dflt (refine' use_ctrX (c_days_ahead _ _ _ _ ?p0_9 ?p1_9) ?g9_9 ?n9_9 ?F9_9 ?N9_9 ?_; (case g9_9 => with_reducible assumption); (case n9_9 => exact rfl); (case F9_9 => k_asm); (case N9_9 => k_asm); (case p0_9 => first | with_reducible assumption | decide | l_fact); (case p1_9 => first | with_reducible assumption | decide | l_fact); k_whole); walk_at "uX")
  k_with "CallK" => (k_here; (guard_target = CallK _ _ (Value.ref 50) _ _ _ _); k_dflt (refine' use_ctrX (c_year_of_day _ _ _ _ ?p0_9 ?p1_9) ?g9_9 ?n9_9 ?F9_9 ?N9_9 ?_; (case g9_9 => with_reducible assumption); (case n9_9 => exact rfl); (case F9_9 => k_asm); (case N9_9 => k_asm); (case p0_9 => assumption); (case p1_9 => assumption); k_whole); walk_at "uX")
  k_with "CallK" => (k_here; (guard_target = CallK _ _ (Value.ref 78) _ _ _ _); k_dflt (refine' use_ctrX (c_days_of_month _ _ _ _ _ ?p0_9 ?p1_9) ?g9_9 ?n9_9 ?F9_9 ?N9_9 ?_; (case g9_9 => with_reducible assumption); (case n9_9 => exact rfl); (case F9_9 => k_asm); (case N9_9 => k_asm); (case p0_9 => first | with_reducible assumption | decide | l_fact); (case p1_9 => first | with_reducible assumption | decide | l_fact); k_whole); walk_at "uX")
  k_with "CallK" => (k_here; (guard_target = CallK _ _ (Value.ref 57) _ _ _ _); k_dflt (refine' use_ctrX (c_year_of _ _ _ _ ?p0_9) ?g9_9 ?n9_9 ?F9_9 ?N9_9 ?_; (case g9_9 => with_reducible assumption); (case n9_9 => exact rfl); (case F9_9 => k_asm); (case N9_9 => k_asm); (case p0_9 => assumption); k_whole); walk_at "uX")
  k_with "CallK" => (k_here; (guard_target = CallK _ _ (Value.ref 64) _ _ _ _); k_dflt (refine' use_ctrX (c_day_in_year _ _ _ _ ?p0_9) ?g9_9 ?n9_9 ?F9_9 ?N9_9 ?_; (case g9_9 => with_reducible assumption); (case n9_9 => exact rfl); (case F9_9 => k_asm); (case N9_9 => k_asm); (case p0_9 => assumption); k_whole); walk_at "uX")
  k_with "CallK" => (k_here; (guard_target = CallK _ _ (Value.ref 85) _ _ _ _); k_dflt (refine' use_ctrX (c_month_of _ _ _ _ _ ?p0_9 ?p1_9) ?g9_9 ?n9_9 ?F9_9 ?N9_9 ?_; (case g9_9 => with_reducible assumption); (case n9_9 => exact rfl); (case F9_9 => k_asm); (case N9_9 => k_asm); (case p0_9 => assumption); (case p1_9 => assumption); k_whole); walk_at "uX")
  k_with "CallK" => (k_here; (guard_target = CallK _ _ (Value.ref 92) _ _ _ _); k_dflt (refine' use_ctrX (c_date_of _ _ _ _ _ ?p0_9 ?p1_9) ?g9_9 ?n9_9 ?F9_9 ?N9_9 ?_; (case g9_9 => with_reducible assumption); (case n9_9 => exact rfl); (case F9_9 => k_asm); (case N9_9 => k_asm); (case p0_9 => assumption); (case p1_9 => assumption); k_whole); walk_at "uX")
  k_with "CallK" => (k_here; (guard_target = CallK _ _ (Value.ref 99) _ _ _ _); k_dflt (refine' use_ctrX (c_week_day_of _ _ _) ?g9_9 ?n9_9 ?F9_9 ?N9_9 ?_; (case g9_9 => with_reducible assumption); (case n9_9 => exact rfl); (case F9_9 => k_asm); (case N9_9 => k_asm); k_whole); walk_at "uX")
  k_with "CallK" => (k_here; (guard_target = CallK _ _ (Value.ref 106) _ _ _ _); k_dflt (refine' use_ctrX (c_hour_of _ _ _) ?g9_9 ?n9_9 ?F9_9 ?N9_9 ?_; (case g9_9 => with_reducible assumption); (case n9_9 => exact rfl); (case F9_9 => k_asm); (case N9_9 => k_asm); k_whole); walk_at "uX")
  k_with "CallK" => (k_here; (guard_target = CallK _ _ (Value.ref 113) _ _ _ _); k_dflt (refine' use_ctrX (c_minute_of _ _ _) ?g9_9 ?n9_9 ?F9_9 ?N9_9 ?_; (case g9_9 => with_reducible assumption); (case n9_9 => exact rfl); (case F9_9 => k_asm); (case N9_9 => k_asm); k_whole); walk_at "uX")
  k_with "CallK" => (k_here; (guard_target = CallK _ _ (Value.ref 120) _ _ _ _); k_dflt (refine' use_ctrX (c_second_of _ _ _) ?g9_9 ?n9_9 ?F9_9 ?N9_9 ?_; (case g9_9 => with_reducible assumption); (case n9_9 => exact rfl); (case F9_9 => k_asm); (case N9_9 => k_asm); k_whole); walk_at "uX")
  k_with "CallK" => (k_here; (guard_target = CallK _ _ (Value.ref 127) _ _ _ _); k_dflt (refine' use_ctrX (c_ms_of _ _ _) ?g9_9 ?n9_9 ?F9_9 ?N9_9 ?_; (case g9_9 => with_reducible assumption); (case n9_9 => exact rfl); (case F9_9 => k_asm); (case N9_9 => k_asm); k_whole); walk_at "uX")
  k_with "compareOp In" => (k_here; (guard_target = wpAny _ _ (compareOp CmpOp.In Value.none (Value.ref _)) _ _ _); k_dflt (first | (refine' none_in4 ?N_9 ?a_9 ?n_9 ?_; (case N_9 => k_asm); (case a_9 => k_mem); (case n_9 => first | with_reducible assumption | ktr_units); k_whole) | (refine' none_in3 ?N_9 ?a_9 ?n_9 ?_; (case N_9 => k_asm); (case a_9 => k_mem); (case n_9 => first | with_reducible assumption | ktr_units); k_whole)); (try dsimp only))
  k_with "CallK" => (k_here; (guard_target = CallK _ _ (Value.ref 141) _ _ _ _); k_dflt (refine' use_ctrX (c_make_time _ _ _ _ _ _ _ _ _) ?g9_9 ?n9_9 ?F9_9 ?N9_9 ?_; (case g9_9 => with_reducible assumption); (case n9_9 => exact rfl); (case F9_9 => k_asm); (case N9_9 => k_asm); k_whole); walk_at "uX")
  k_with "CallK" => (k_here; (guard_target = CallK _ _ (Value.ref 148) _ _ _ _); k_dflt (refine' use_ctrX (c_make_day _ _ _ _ _ _ _) ?g9_9 ?n9_9 ?F9_9 ?N9_9 ?_; (case g9_9 => with_reducible assumption); (case n9_9 => exact rfl); (case F9_9 => k_asm); (case N9_9 => k_asm); k_whole); walk_at "uX")
  k_with "CallK" => (k_here; (guard_target = CallK _ _ (Value.ref 155) _ _ _ _); k_dflt (refine' use_ctrX (c_make_date _ _ _ _ _) ?g9_9 ?n9_9 ?F9_9 ?N9_9 ?_; (case g9_9 => with_reducible assumption); (case n9_9 => exact rfl); (case F9_9 => k_asm); (case N9_9 => k_asm); k_whole); walk_at "uX")
  k_with "CallK" => (k_here; (guard_target = CallK _ _ (Value.ref 176) _ _ _ _); k_dflt (refine' use_ctrX (c_local_of _ _ _ _ _) ?g9_9 ?n9_9 ?F9_9 ?N9_9 ?_; (case g9_9 => with_reducible assumption); (case n9_9 => exact rfl); (case F9_9 => k_asm); (case N9_9 => k_asm); k_whole); walk_at "uX")
  k_with "CallK" => (k_here; (guard_target = CallK _ _ (Value.ref 183) _ _ _ _); k_dflt (refine' use_ctrX (c_utc_of _ _ _ _ _) ?g9_9 ?n9_9 ?F9_9 ?N9_9 ?_; (case g9_9 => with_reducible assumption); (case n9_9 => exact rfl); (case F9_9 => k_asm); (case N9_9 => k_asm); k_whole); walk_at "uX")
  k_with "CallK" => (k_here; (guard_target = CallK _ _ (Value.ref 162) _ _ _ _); k_dflt (refine' use_ctr (c_time_clip _ _ _) ?g9_9 ?n9_9 ?F9_9 ?N9_9 ?_; (case g9_9 => with_reducible assumption); (case n9_9 => exact rfl); (case F9_9 => k_asm); (case N9_9 => k_asm); k_whole); intro r9 h9 tk9 hP9 F9 N9; (try dsimp only); (try k_sweep); (try k_fold))
  k_with "CallK" => (k_here; (guard_target = CallK _ _ (Value.ref 393) _ _ _ _); k_dflt (refine' use_ctrX (c_length _ _ _ _ _) ?g9_9 ?n9_9 ?F9_9 ?N9_9 ?_; (case g9_9 => with_reducible assumption); (case n9_9 => exact rfl); (case F9_9 => k_asm); (case N9_9 => k_asm); k_whole); walk_at "uX")
  trivial
local macro_rules | `(tactic| k_all) => `(tactic| with_reducible assumption)
theorem ru_L2_1 : True := by
  k_with "CallK" => (k_here; (guard_target = CallK _ _ (Value.ref 398) _ _ _ _); k_dflt (refine' use_ctrX (c_count _ _ _ _ _ _ _ ?p0_9 ?p1_9) ?g9_9 ?n9_9 ?F9_9 ?N9_9 ?_; (case g9_9 => with_reducible assumption); (case n9_9 => exact rfl); (case F9_9 => k_asm); (case N9_9 => k_asm); (case p0_9 => first | with_reducible assumption | decide | l_fact); (case p1_9 => first | with_reducible assumption | decide | l_fact); k_whole); walk_at "uX")
  trivial
set_option maxRecDepth 100000
set_option maxHeartbeats 8000000
theorem ru_L2_2 : True := by
  k_with "CompSrc" => (k_here; k_dflt (refine LCg.CompSrc.range (by rfl) (by k_asm) (by k_asm) (by assumption) (by first | decide | rfl) (by first | rfl | decide) (by first | size_fits | exact Nat.le_of_ble_eq_true rfl) ?_; intro g'; lcg_lit))
  k_with "binaryOp Pow int int" => (k_here; (with_reducible refine pow_int_small ?kb1_9 ?kb2_9 ?kb3_9 ?_); (case kb1_9 => decide); (case kb2_9 => decide); (case kb3_9 => decide))
  k_with "strs are" => exact StrsAre.nil
  k_with "strs are" => (refine StrsAre.cons _ _ ?_; walk_at "strs are")
  k_with "call builtin:str.join" => (k_here; (guard_target = wpAny _ _ (call (Value.builtin "str.join") [Value.str _ _, Value.ref _]) _ _ _); k_dflt (refine join_strs ?j1_9 ?j2_9 ?j3_9 ?j4_9 ?j5_9 ?_; (case j1_9 => first | is_list | exact News.isList (by k_asm) (by k_mem)); (case j2_9 => walk_at "strs are"); (case j3_9 => walk_at "short strs"); (case j4_9 => decide); (case j5_9 => first | decide | walk_at "my size")); intro _ _; (try dsimp only))
  k_with "short strs" => (simp only [List.forall_mem_cons, mk_len, figs_len, item_len, List.length_append, List.length_cons, List.length_nil]; simp)
  k_with "CompEnd" => (k_here; k_dflt (refine' LCg.CompEnd.intro ?cF_9 ?cN_9 _ sub_refl ?cO_9 ?cS_9 ?_; (case cF_9 => k_asm); (case cN_9 => k_asm); (case cO_9 => first | assumption | (with_unfolding_all assumption) | (simp only [LCg.Off3, and_true]; first | done | assumption)); (case cS_9 => first | lcg_src | assumption)))
  trivial
section
variable {n : Nat}
theorem fg2 : Txt.join (Str.ofString "") [Txt.item (Str.ofString "0123456789") (((n : Int).fdiv ((10 : Int) ^ ((2 : Int) - 1 - (0 + ((0 : Nat) : Int))).toNat)).fmod 10), Txt.item (Str.ofString "0123456789") (((n : Int).fdiv ((10 : Int) ^ ((2 : Int) - 1 - (0 + ((0 + 1 : Nat) : Int))).toNat)).fmod 10)] = mk (figs n 2) := by
  show Txt.join _ [Txt.item FIG (((n : Int).fdiv ((10 : Int) ^ 1)).fmod 10), Txt.item FIG (((n : Int).fdiv ((10 : Int) ^ 0)).fmod 10)] = _
  rw [fig_at, fig_at, lit0, join2]; rfl
theorem fg3 : Txt.join (Str.ofString "") [Txt.item (Str.ofString "0123456789") (((n : Int).fdiv ((10 : Int) ^ ((3 : Int) - 1 - (0 + ((0 : Nat) : Int))).toNat)).fmod 10), Txt.item (Str.ofString "0123456789") (((n : Int).fdiv ((10 : Int) ^ ((3 : Int) - 1 - (0 + ((0 + 1 : Nat) : Int))).toNat)).fmod 10),
    Txt.item (Str.ofString "0123456789") (((n : Int).fdiv ((10 : Int) ^ ((3 : Int) - 1 - (0 + ((0 + 1 + 1 : Nat) : Int))).toNat)).fmod 10)] = mk (figs n 3) := by
  show Txt.join _ [Txt.item FIG (((n : Int).fdiv ((10 : Int) ^ 2)).fmod 10), Txt.item FIG (((n : Int).fdiv ((10 : Int) ^ 1)).fmod 10), Txt.item FIG (((n : Int).fdiv ((10 : Int) ^ 0)).fmod 10)] = _
  rw [fig_at, fig_at, fig_at, lit0, join3]; rfl
theorem fg4 : Txt.join (Str.ofString "") [Txt.item (Str.ofString "0123456789") (((n : Int).fdiv ((10 : Int) ^ ((4 : Int) - 1 - (0 + ((0 : Nat) : Int))).toNat)).fmod 10), Txt.item (Str.ofString "0123456789") (((n : Int).fdiv ((10 : Int) ^ ((4 : Int) - 1 - (0 + ((0 + 1 : Nat) : Int))).toNat)).fmod 10),
    Txt.item (Str.ofString "0123456789") (((n : Int).fdiv ((10 : Int) ^ ((4 : Int) - 1 - (0 + ((0 + 1 + 1 : Nat) : Int))).toNat)).fmod 10), Txt.item (Str.ofString "0123456789") (((n : Int).fdiv ((10 : Int) ^ ((4 : Int) - 1 - (0 + ((0 + 1 + 1 + 1 : Nat) : Int))).toNat)).fmod 10)] = mk (figs n 4) := by
  show Txt.join _ [Txt.item FIG (((n : Int).fdiv ((10 : Int) ^ 3)).fmod 10), Txt.item FIG (((n : Int).fdiv ((10 : Int) ^ 2)).fmod 10), Txt.item FIG (((n : Int).fdiv ((10 : Int) ^ 1)).fmod 10), Txt.item FIG (((n : Int).fdiv ((10 : Int) ^ 0)).fmod 10)] = _
  rw [fig_at, fig_at, fig_at, fig_at, lit0, join4]; rfl
end
theorem c_figures2 (w : World) (n : Nat) (t t' : Tok) : Ctr w 386 1 [.int (n : Int) t, .int 2 t'] (strv (mk (figs n 2))) := by
  intro news A h₀ L mF hh gs9 d9 tk9 o9 Q E hP F N hret
  obtain ⟨mean, mg, mb, dp, un, gd, cn, cs, a, ccd, cl, outer, A₀, base, rfl, B, X, T, hk, hdp, hun⟩ := hP
  replace hret := fun r h' k' hp F N => hret r h' k' news ⟨hp, rfl⟩ F N
  refine wpAny_call ?_
  k_dflt (refine' code_defC ?k1 ?k2 ?k3 ?k4 ?k5 ?kA ?kF ?kK ?k6 ?k7 ?k8 ?k9 ?kB ?kD ?_ ?c2 ?c3 ?c4; (case kA => exact rfl); (case kF => exact rfl); (case kK => assumption); (case k1 => k_asm); (case k2 => k_asm); (case k3 => k_asm); (case k4 => k_asm); (case k5 => k_asm); (case k6 => k_is); (case k7 => k_is); (case k8 => ktr_room); (case k9 => exact BindsTo.of_eq rfl); (case kB => exact rfl); (case kD => decide +kernel); (case c2 => exact rfl); (case c3 => exact rfl); (case c4 => exact rfl); k_whole; intro g' L' h' tk' cells' FG' F' N' Y' B' X' T' l1; (try k_lt l1); k_cells Y'; (try simp only [List.cons_append, List.nil_append] at N'); (try dsimp only); (try k_lift B'); (try k_fold))
  refine foldA ?_
  intro A9
  have P9 : Pl w 0 A9 g' L' := by refine pl_step B' X' T' ?hks hdp hun; rfl
  walk_at "steps"
  all_goals first | (refine hret _ _ _ ?_ (by k_asm); exact fg2) | (refine hret _ _ _ ?_ (by k_asm) (by first | with_reducible assumption | exact drop_news (by with_reducible assumption) (by first | with_reducible exact ktn_subA | repeat (first | with_reducible exact sub_refl | with_reducible refine sub_cons ?_ | with_reducible refine sub_skip ?_))); exact fg2) | (refine hret _ _ _ ⟨_, congrArg (fun z => Value.str z _) ?_⟩ (by k_asm); exact fg2) | (refine hret _ _ _ ⟨_, congrArg (fun z => Value.str z _) ?_⟩ (by k_asm) (by first | with_reducible assumption | exact drop_news (by with_reducible assumption) (by first | with_reducible exact ktn_subA | repeat (first | with_reducible exact sub_refl | with_reducible refine sub_cons ?_ | with_reducible refine sub_skip ?_))); exact fg2)
theorem c_figures3 (w : World) (n : Nat) (t t' : Tok) : Ctr w 386 1 [.int (n : Int) t, .int 3 t'] (strv (mk (figs n 3))) := by
  intro news A h₀ L mF hh gs9 d9 tk9 o9 Q E hP F N hret
  obtain ⟨mean, mg, mb, dp, un, gd, cn, cs, a, ccd, cl, outer, A₀, base, rfl, B, X, T, hk, hdp, hun⟩ := hP
  replace hret := fun r h' k' hp F N => hret r h' k' news ⟨hp, rfl⟩ F N
  refine wpAny_call ?_
  k_dflt (refine' code_defC ?k1 ?k2 ?k3 ?k4 ?k5 ?kA ?kF ?kK ?k6 ?k7 ?k8 ?k9 ?kB ?kD ?_ ?c2 ?c3 ?c4; (case kA => exact rfl); (case kF => exact rfl); (case kK => assumption); (case k1 => k_asm); (case k2 => k_asm); (case k3 => k_asm); (case k4 => k_asm); (case k5 => k_asm); (case k6 => k_is); (case k7 => k_is); (case k8 => ktr_room); (case k9 => exact BindsTo.of_eq rfl); (case kB => exact rfl); (case kD => decide +kernel); (case c2 => exact rfl); (case c3 => exact rfl); (case c4 => exact rfl); k_whole; intro g' L' h' tk' cells' FG' F' N' Y' B' X' T' l1; (try k_lt l1); k_cells Y'; (try simp only [List.cons_append, List.nil_append] at N'); (try dsimp only); (try k_lift B'); (try k_fold))
  refine foldA ?_
  intro A9
  have P9 : Pl w 0 A9 g' L' := by refine pl_step B' X' T' ?hks hdp hun; rfl
  walk_at "steps"
  all_goals first | (refine hret _ _ _ ?_ (by k_asm); exact fg3) | (refine hret _ _ _ ?_ (by k_asm) (by first | with_reducible assumption | exact drop_news (by with_reducible assumption) (by first | with_reducible exact ktn_subA | repeat (first | with_reducible exact sub_refl | with_reducible refine sub_cons ?_ | with_reducible refine sub_skip ?_))); exact fg3) | (refine hret _ _ _ ⟨_, congrArg (fun z => Value.str z _) ?_⟩ (by k_asm); exact fg3) | (refine hret _ _ _ ⟨_, congrArg (fun z => Value.str z _) ?_⟩ (by k_asm) (by first | with_reducible assumption | exact drop_news (by with_reducible assumption) (by first | with_reducible exact ktn_subA | repeat (first | with_reducible exact sub_refl | with_reducible refine sub_cons ?_ | with_reducible refine sub_skip ?_))); exact fg3)
theorem c_figures4 (w : World) (n : Nat) (t t' : Tok) : Ctr w 386 1 [.int (n : Int) t, .int 4 t'] (strv (mk (figs n 4))) := by
  intro news A h₀ L mF hh gs9 d9 tk9 o9 Q E hP F N hret
  obtain ⟨mean, mg, mb, dp, un, gd, cn, cs, a, ccd, cl, outer, A₀, base, rfl, B, X, T, hk, hdp, hun⟩ := hP
  replace hret := fun r h' k' hp F N => hret r h' k' news ⟨hp, rfl⟩ F N
  refine wpAny_call ?_
  k_dflt (refine' code_defC ?k1 ?k2 ?k3 ?k4 ?k5 ?kA ?kF ?kK ?k6 ?k7 ?k8 ?k9 ?kB ?kD ?_ ?c2 ?c3 ?c4; (case kA => exact rfl); (case kF => exact rfl); (case kK => assumption); (case k1 => k_asm); (case k2 => k_asm); (case k3 => k_asm); (case k4 => k_asm); (case k5 => k_asm); (case k6 => k_is); (case k7 => k_is); (case k8 => ktr_room); (case k9 => exact BindsTo.of_eq rfl); (case kB => exact rfl); (case kD => decide +kernel); (case c2 => exact rfl); (case c3 => exact rfl); (case c4 => exact rfl); k_whole; intro g' L' h' tk' cells' FG' F' N' Y' B' X' T' l1; (try k_lt l1); k_cells Y'; (try simp only [List.cons_append, List.nil_append] at N'); (try dsimp only); (try k_lift B'); (try k_fold))
  refine foldA ?_
  intro A9
  have P9 : Pl w 0 A9 g' L' := by refine pl_step B' X' T' ?hks hdp hun; rfl
  walk_at "steps"
  all_goals first | (refine hret _ _ _ ?_ (by k_asm); exact fg4) | (refine hret _ _ _ ?_ (by k_asm) (by first | with_reducible assumption | exact drop_news (by with_reducible assumption) (by first | with_reducible exact ktn_subA | repeat (first | with_reducible exact sub_refl | with_reducible refine sub_cons ?_ | with_reducible refine sub_skip ?_))); exact fg4) | (refine hret _ _ _ ⟨_, congrArg (fun z => Value.str z _) ?_⟩ (by k_asm); exact fg4) | (refine hret _ _ _ ⟨_, congrArg (fun z => Value.str z _) ?_⟩ (by k_asm) (by first | with_reducible assumption | exact drop_news (by with_reducible assumption) (by first | with_reducible exact ktn_subA | repeat (first | with_reducible exact sub_refl | with_reducible refine sub_cons ?_ | with_reducible refine sub_skip ?_))); exact fg4)
theorem c_fig2 (w : World) (n : Int) (t t' : Tok) (h : 0 ≤ n) : Ctr w 386 1 [.int n t, .int 2 t'] (strv (mk (figs n.toNat 2))) := by
  obtain ⟨k, rfl⟩ := Int.eq_ofNat_of_zero_le h
  exact c_figures2 w k t t'
theorem c_fig3 (w : World) (n : Int) (t t' : Tok) (h : 0 ≤ n) : Ctr w 386 1 [.int n t, .int 3 t'] (strv (mk (figs n.toNat 3))) := by
  obtain ⟨k, rfl⟩ := Int.eq_ofNat_of_zero_le h
  exact c_figures3 w k t t'
theorem c_fig4 (w : World) (n : Int) (t t' : Tok) (h : 0 ≤ n) : Ctr w 386 1 [.int n t, .int 4 t'] (strv (mk (figs n.toNat 4))) := by
  obtain ⟨k, rfl⟩ := Int.eq_ofNat_of_zero_le h
  exact c_figures4 w k t t'
theorem ru_L2_3 : True := by
  k_with "CallK" => (k_here; (guard_target = CallK _ _ (Value.ref 386) _ _ _ _); k_dflt (refine' use_ctrX (c_fig4 _ _ _ _ ?p0_9) ?g9_9 ?n9_9 ?F9_9 ?N9_9 ?_; (case g9_9 => with_reducible assumption); (case n9_9 => exact rfl); (case F9_9 => k_asm); (case N9_9 => k_asm); (case p0_9 => first | with_reducible assumption | decide | l_fact); k_whole); walk_at "uX")
  k_with "CallK" => (k_here; (guard_target = CallK _ _ (Value.ref 386) _ _ _ _); k_dflt (refine' use_ctrX (c_fig3 _ _ _ _ ?p0_9) ?g9_9 ?n9_9 ?F9_9 ?N9_9 ?_; (case g9_9 => with_reducible assumption); (case n9_9 => exact rfl); (case F9_9 => k_asm); (case N9_9 => k_asm); (case p0_9 => first | with_reducible assumption | decide | l_fact); k_whole); walk_at "uX")
  k_with "CallK" => (k_here; (guard_target = CallK _ _ (Value.ref 386) _ _ _ _); k_dflt (refine' use_ctrX (c_fig2 _ _ _ _ ?p0_9) ?g9_9 ?n9_9 ?F9_9 ?N9_9 ?_; (case g9_9 => with_reducible assumption); (case n9_9 => exact rfl); (case F9_9 => k_asm); (case N9_9 => k_asm); (case p0_9 => first | with_reducible assumption | decide | l_fact); k_whole); walk_at "uX")
  trivial
theorem add_txt2 {prog : Program} {w : World} {A : Around} {E : Value → Shared → Prop} {s : Shared} {x y : Str} {t u : Tok} {Q : Value → Shared → Prop} (hsz : x.length + y.length ≤ 100000) (h : ∀ t' tk, Q (.str (x ++ y) t') { s with toks := tk }) : wpAny (model prog w) A (binaryOp .Add (.str x t) (.str y u)) Q E s :=
  add_str h (by rw [sizeLine_eq]; (first | lia | omega))
theorem ru_L2_4 : True := by
  k_with "my size" => (simp only [Str.length_append, mk_len, figs_len, item_len, lit0, lit1, lit2, lit3, lit4, lit5, lit6, lit7, lit8, lit9, lit10, lit11, lit12, lit13, lit14, lit15, lit16, lit17, lit18, lit19, lit20, lit21, lit22, lit23, lit24, lit25, lit26, lit27, lit28, lit29, lit30, lit31, lit32, lit33, lit34, lit35, lit36, lit37, lit38, lit39, lit40, lit41, lit42, lit43, lit44, lit45, lit46, lit47, lit48, lit49, lit50, lit51, lit52, lit53, List.length_append, List.length_cons, List.length_nil]; omega)
  k_with "binaryOp Add str str" => (k_here; (guard_target = wpAny _ _ (binaryOp Operator.Add (Value.str _ _) (Value.str _ _)) _ _ _); (refine' add_txt2 ?z_9 ?_; (case z_9 => walk_at "my size")); intro _ _)
  trivial
noncomputable def osT (o : Int) (b : List Nat) : List Nat := (if o < 0 then [45] else [43]) ++ figs ((if o < 0 then -o else o).fdiv 60).toNat 2 ++ b ++ figs ((if o < 0 then -o else o).fmod 60).toNat 2
theorem osT_len (o : Int) (b : List Nat) : (osT o b).length = 5 + b.length := by unfold osT; split <;> simp [figs_len] <;> (first | lia | omega)
theorem c_offset (w : World) (o : Int) (b : List Nat) (x : Str) (t t' : Tok) (hx : x = mk b) (hb : b.length ≤ 2) (h0 : -6000 < o) (h1 : o < 6000) : Ctr w 405 2 [.int o t, .str x t'] (strv (mk (osT o b))) := by
  subst hx
  k_dflt (refine' ctrS_enter (bs := [(Str.ofString "between", _), (Str.ofString "minutes", _)]) ?k6 ?k7 ?kb ?kB ?kr ?c2 ?c3 ?c4 ?c5 ?_; (case k6 => k_is); (case k7 => k_is); (case kb => exact rfl); (case kB => exact rfl); (case kr => exact rfl); (case c2 => exact rfl); (case c3 => exact rfl); (case c4 => exact rfl); (case c5 => decide))
  intro mean mg mb dp un gd outer A₀ base g' L' h9 gs9 d9 tk9 o9 Q
  intro A9 P9 u9 B' F9 X' N' T' hdp hun hret
  walk_at "steps"
  all_goals first | (refine hret _ _ _ ?_ (by k_asm); (unfold osT; first | (have hq : o < 0 := (by assumption); simp only [hq, if_true, lit0, lit1, lit2, lit3, lit4, lit5, lit6, lit7, lit8, lit9, lit10, lit11, lit12, lit13, lit14, lit15, lit16, lit17, lit18, lit19, lit20, lit21, lit22, lit23, lit24, lit25, lit26, lit27, lit28, lit29, lit30, lit31, lit32, lit33, lit34, lit35, lit36, lit37, lit38, lit39, lit40, lit41, lit42, lit43, lit44, lit45, lit46, lit47, lit48, lit49, lit50, lit51, lit52, lit53, mk_app]) | (have hq : ¬ o < 0 := (by assumption); simp only [hq, if_false, lit0, lit1, lit2, lit3, lit4, lit5, lit6, lit7, lit8, lit9, lit10, lit11, lit12, lit13, lit14, lit15, lit16, lit17, lit18, lit19, lit20, lit21, lit22, lit23, lit24, lit25, lit26, lit27, lit28, lit29, lit30, lit31, lit32, lit33, lit34, lit35, lit36, lit37, lit38, lit39, lit40, lit41, lit42, lit43, lit44, lit45, lit46, lit47, lit48, lit49, lit50, lit51, lit52, lit53, mk_app]))) | (refine hret _ _ _ ?_ (by k_asm) (by first | with_reducible assumption | exact drop_news (by with_reducible assumption) (by first | with_reducible exact ktn_subA | repeat (first | with_reducible exact sub_refl | with_reducible refine sub_cons ?_ | with_reducible refine sub_skip ?_))); (unfold osT; first | (have hq : o < 0 := (by assumption); simp only [hq, if_true, lit0, lit1, lit2, lit3, lit4, lit5, lit6, lit7, lit8, lit9, lit10, lit11, lit12, lit13, lit14, lit15, lit16, lit17, lit18, lit19, lit20, lit21, lit22, lit23, lit24, lit25, lit26, lit27, lit28, lit29, lit30, lit31, lit32, lit33, lit34, lit35, lit36, lit37, lit38, lit39, lit40, lit41, lit42, lit43, lit44, lit45, lit46, lit47, lit48, lit49, lit50, lit51, lit52, lit53, mk_app]) | (have hq : ¬ o < 0 := (by assumption); simp only [hq, if_false, lit0, lit1, lit2, lit3, lit4, lit5, lit6, lit7, lit8, lit9, lit10, lit11, lit12, lit13, lit14, lit15, lit16, lit17, lit18, lit19, lit20, lit21, lit22, lit23, lit24, lit25, lit26, lit27, lit28, lit29, lit30, lit31, lit32, lit33, lit34, lit35, lit36, lit37, lit38, lit39, lit40, lit41, lit42, lit43, lit44, lit45, lit46, lit47, lit48, lit49, lit50, lit51, lit52, lit53, mk_app]))) | (refine hret _ _ _ ⟨_, congrArg (fun z => Value.str z _) ?_⟩ (by k_asm); (unfold osT; first | (have hq : o < 0 := (by assumption); simp only [hq, if_true, lit0, lit1, lit2, lit3, lit4, lit5, lit6, lit7, lit8, lit9, lit10, lit11, lit12, lit13, lit14, lit15, lit16, lit17, lit18, lit19, lit20, lit21, lit22, lit23, lit24, lit25, lit26, lit27, lit28, lit29, lit30, lit31, lit32, lit33, lit34, lit35, lit36, lit37, lit38, lit39, lit40, lit41, lit42, lit43, lit44, lit45, lit46, lit47, lit48, lit49, lit50, lit51, lit52, lit53, mk_app]) | (have hq : ¬ o < 0 := (by assumption); simp only [hq, if_false, lit0, lit1, lit2, lit3, lit4, lit5, lit6, lit7, lit8, lit9, lit10, lit11, lit12, lit13, lit14, lit15, lit16, lit17, lit18, lit19, lit20, lit21, lit22, lit23, lit24, lit25, lit26, lit27, lit28, lit29, lit30, lit31, lit32, lit33, lit34, lit35, lit36, lit37, lit38, lit39, lit40, lit41, lit42, lit43, lit44, lit45, lit46, lit47, lit48, lit49, lit50, lit51, lit52, lit53, mk_app]))) | (refine hret _ _ _ ⟨_, congrArg (fun z => Value.str z _) ?_⟩ (by k_asm) (by first | with_reducible assumption | exact drop_news (by with_reducible assumption) (by first | with_reducible exact ktn_subA | repeat (first | with_reducible exact sub_refl | with_reducible refine sub_cons ?_ | with_reducible refine sub_skip ?_))); (unfold osT; first | (have hq : o < 0 := (by assumption); simp only [hq, if_true, lit0, lit1, lit2, lit3, lit4, lit5, lit6, lit7, lit8, lit9, lit10, lit11, lit12, lit13, lit14, lit15, lit16, lit17, lit18, lit19, lit20, lit21, lit22, lit23, lit24, lit25, lit26, lit27, lit28, lit29, lit30, lit31, lit32, lit33, lit34, lit35, lit36, lit37, lit38, lit39, lit40, lit41, lit42, lit43, lit44, lit45, lit46, lit47, lit48, lit49, lit50, lit51, lit52, lit53, mk_app]) | (have hq : ¬ o < 0 := (by assumption); simp only [hq, if_false, lit0, lit1, lit2, lit3, lit4, lit5, lit6, lit7, lit8, lit9, lit10, lit11, lit12, lit13, lit14, lit15, lit16, lit17, lit18, lit19, lit20, lit21, lit22, lit23, lit24, lit25, lit26, lit27, lit28, lit29, lit30, lit31, lit32, lit33, lit34, lit35, lit36, lit37, lit38, lit39, lit40, lit41, lit42, lit43, lit44, lit45, lit46, lit47, lit48, lit49, lit50, lit51, lit52, lit53, mk_app])))
theorem ru_L2_5 : True := by
  k_with "CallK" => (k_here; (guard_target = CallK _ _ (Value.ref 405) _ _ _ _); k_dflt (refine' use_ctrX (c_offset _ _ _ _ _ _ ?p0_9 ?p1_9 ?p2_9 ?p3_9) ?g9_9 ?n9_9 ?F9_9 ?N9_9 ?_; (case g9_9 => with_reducible assumption); (case n9_9 => exact rfl); (case F9_9 => k_asm); (case N9_9 => k_asm); (case p0_9 => with_reducible (first | exact lit4 | exact lit0 | exact rfl)); (case p1_9 => (first | decide | omega)); (case p2_9 => first | with_reducible assumption | decide | l_fact); (case p3_9 => first | with_reducible assumption | decide | l_fact); k_whole); walk_at "uX")
  trivial
end

section -- L3
theorem rst_L3 : True := by
  w_top off
  trivial
open PySem PySem.W PySem.Calls PyProof.Rows
theorem ru_L3_0 : True := by
  k_with_none
  k_with "steps" => (repeat' (first | k_unfold | (k_end; kc_close) | walk1 | (dsimp only; walk1) | (leave1; (try dsimp only)) | fail "no step"))
  k_with "eval Constant int" => (k_here; (with_reducible refine ct9 ?_); intro _ _)
  k_with "eval Constant str" => (k_here; (with_reducible refine cs9 ?_); intro _ _)
  k_with "binaryOp Add int int" => (k_here; (with_reducible refine ar_add ?_); intro _ _)
  k_with "binaryOp Sub int int" => (k_here; (with_reducible refine ar_sub ?_); intro _ _)
  k_with "binaryOp Mult int int" => (k_here; (with_reducible refine' ar_mul ?_ ?m9_9); k_dflt (case m9_9 => mul_fits); intro _ _)
  k_with "binaryOp FloorDiv int int" => (k_here; (with_reducible refine' ar_div ?b9_9 ?_ ?p9_9); k_dflt (case b9_9 => decide); k_dflt (case p9_9 => first | exact PyProof.noPylong_of_log2 (by decide +kernel) | exact PyProof.noPylong_small (by omega)); intro _ _)
  k_with "binaryOp Mod int int" => (k_here; (with_reducible refine ar_mod ?b9_9 ?_); (case b9_9 => first | decide | omega | assumption); intro _ _)
  k_with "inplaceOp Add int int" => (k_here; (with_reducible refine ar_iadd ?_); intro _ _)
  k_with "storeName" => (k_here; k_dflt (refine' st9 ?F_9 ?N_9 ?_ ?a_9 ?b_9; (case F_9 => with_reducible assumption); (case N_9 => with_reducible assumption); (case a_9 => exact rfl); (case b_9 => exact rfl); k_whole); intro h9 k9 F9 N9; (try k_sweep))
  k_with "newTuple" => (k_here; kup_bare; k_dflt (refine' nt9 ?F_9 ?N_9 ?_ ?z_9; (case F_9 => with_reducible assumption); (case N_9 => with_reducible assumption); (case z_9 => kmk_size)); intro D9 h9 F9 N9; (try k_sweep))
  k_with "eval Tuple" => (k_here; k_whole; (with_reducible refine tk_go ?h9_9 ?_); k_dflt (case h9_9 => exact rfl))
  k_with "eval Tuple" => (k_here; walk_at "fold")
  k_with "TupK" => (k_here; (with_reducible refine tk_e ?_))
  k_with "TupK" => (k_here; (with_reducible refine' tk_n ?k1_9 ?k2_9 ?k3_9 ?k4_9 ?k5_9 ?_); k_dflt ((case k3_9 => exact rfl); (case k4_9 => exact rfl); (case k1_9 => k_asm); (case k2_9 => exact rfl); (case k5_9 => exact rfl); k_whole))
  k_with "TupK" => (k_here; (with_reducible refine tk_i ?_); intro _ _)
  k_with "TupK" => (k_here; (first | with_reducible refine tk_2 ?_ | with_reducible refine tk_3 ?_ | with_reducible refine tk_4 ?_ | with_reducible refine tk_5 ?_ | with_reducible refine tk_6 ?_))
  k_with "uX" => (intro t9 h9 tk9 F9 N9; (try dsimp only); (try k_sweep); (try k_fold))
  k_with "uV" => (intro h9 tk9 F9 N9; (try dsimp only); (try k_sweep); (try k_fold))
  k_with "callWith ref" => (k_here; k_dflt (first | (refine' cw_K0 ?k1_9 ?k2_9 ?_; (case k1_9 => k_is); (case k2_9 => exact rfl); k_whole) | (refine' cw_K1 ?k1_9 ?k2_9 ?_; (case k1_9 => k_is); (case k2_9 => exact rfl); k_whole)))
  k_with "eval Call" => (k_here; (with_reducible refine' cg_K ?k1_9 ?k2_9 ?k3_9 ?k4_9 ?k5_9 ?k6_9 ?k7_9 ?k8_9 ?k9_9 ?_); k_dflt ((case k7_9 => exact rfl); (case k8_9 => exact rfl); (case k9_9 => exact rfl); (case k1_9 => k_asm); (case k2_9 => k_asm); (case k3_9 => k_asm); (case k4_9 => k_is); (case k5_9 => exact rfl); (case k6_9 => k_is); k_whole))
  k_with "eval Name" => (k_here; k_dflt (refine' nm9 ?k1_9 ?k2_9 ?k3_9 ?k4_9 ?k5_9 ?_; (case k4_9 => exact rfl); (case k3_9 => exact rfl); (case k1_9 => k_asm); (case k2_9 => exact rfl); (case k5_9 => exact rfl); k_whole))
  k_with "fold" => (k_whole; (fail_if_success (fail_if_success k_fold)); refine fold9 ?_; intro qk)
  k_with "eval Call" => (k_here; walk_at "fold")
  k_with "eval BinOp" => (k_here; walk_at "fold")
  k_with "ArgK" => (k_here; (with_reducible refine ak_e ?_))
  k_with "ArgK" => (k_here; (with_reducible refine' ak_n ?k1_9 ?k2_9 ?k3_9 ?k4_9 ?k5_9 ?_); k_dflt ((case k3_9 => exact rfl); (case k4_9 => exact rfl); (case k1_9 => k_asm); (case k2_9 => exact rfl); (case k5_9 => exact rfl); k_whole))
  k_with "ArgK" => (k_here; (first | with_reducible refine ak_i ?_ | with_reducible refine ak_s ?_); intro _ _)
  k_with "ArgK" => (k_here; (first | with_reducible refine ak_1 ?_ | with_reducible refine ak_2 ?_ | with_reducible refine ak_3 ?_ | with_reducible refine ak_4 ?_ | with_reducible refine ak_0 ?_))
  k_with "ne" => first | with_reducible assumption | exact ne_news (by with_reducible assumption) (by k_mem) (by k_mem) rfl | k_ne
  k_with "upd" => first | (refine' Upd.head ?a_9; (case a_9 => walk_at "nall")) | (refine' Upd.tail ?a_9 ?b_9; (case a_9 => walk_at "ne"); (case b_9 => walk_at "upd"))
  k_with "setAttr ref" => (k_here; k_dflt (refine' set_dict ?k1_9 ?k2_9 ?k3_9 ?k4_9 ?k5_9 ?k6_9 ?k7_9 ?k8_9 ?k9_9 ?k10_9 ?k11_9 ?k12_9 ?k13_9 ?_; (case k1_9 => k_asm); (case k2_9 => k_asm); (case k3_9 => k_asm); (case k4_9 => k_inst); (case k5_9 => exact rfl); (case k6_9 => k_is); (case k7_9 => k_is); (case k8_9 => k_is); (case k9_9 => k_is); (case k10_9 => k_get); (case k11_9 => k_put); (case k12_9 => walk_at "upd"); (case k13_9 => exact Nat.le_of_ble_eq_true rfl); k_whole); intro h' F' N'; (try k_sweep))
  k_with "nall" => first | exact List.forall_mem_nil _ | (refine' List.forall_mem_cons.mpr ⟨?a_9, ?b_9⟩; (case a_9 => walk_at "ne"); (case b_9 => walk_at "nall"))
  k_with "execs cons" => (k_here; (with_reducible refine gen_toks ?_); intro _)
  k_with "execs nil" => (k_here; (with_reducible refine gen_toks ?_); intro _)
  k_with "end eq" => (law_clear; (try simp only [decide_eq_true_eq, decide_eq_false_iff_not, ne_eq, Bool.not_eq_true, Bool.not_eq_false, bne_iff_ne, beq_iff_eq] at *); first | rfl | omega | (simp_all; done) | (simp_all; rfl) | ((simp_all); omega))
  k_with "CallK" => (k_here; (guard_target = CallK _ _ (Value.ref 22) _ _ _ _); k_dflt (refine' use_ctrX (c_day_of _ _ _) ?g9_9 ?n9_9 ?F9_9 ?N9_9 ?_; (case g9_9 => with_reducible assumption); (case n9_9 => exact rfl); (case F9_9 => k_asm); (case N9_9 => k_asm); k_whole); walk_at "uX")
  k_with "CallK" => (k_here; (guard_target = CallK _ _ (Value.ref 29) _ _ _ _); k_dflt (refine' use_ctrX (c_time_in_day _ _ _) ?g9_9 ?n9_9 ?F9_9 ?N9_9 ?_; (case g9_9 => with_reducible assumption); (case n9_9 => exact rfl); (case F9_9 => k_asm); (case N9_9 => k_asm); k_whole); walk_at "uX")
  k_with "CallK" => (k_here; (guard_target = CallK _ _ (Value.ref 36) _ _ _ _); k_dflt (refine' use_ctrV (c_leap _ _ _) ?g9_9 ?n9_9 ?F9_9 ?N9_9 ?_; (case g9_9 => with_reducible assumption); (case n9_9 => exact rfl); (case F9_9 => k_asm); (case N9_9 => k_asm); k_whole); walk_at "uV")
  k_with "CallK" => (k_here; (guard_target = CallK _ _ (Value.ref 43) _ _ _ _); k_dflt (refine' use_ctrX (c_dfy _ _ _) ?g9_9 ?n9_9 ?F9_9 ?N9_9 ?_; (case g9_9 => with_reducible assumption); (case n9_9 => exact rfl); (case F9_9 => k_asm); (case N9_9 => k_asm); k_whole); walk_at "uX")
  k_with "CallK" => (k_here; (guard_target = CallK _ _ (Value.ref 71) _ _ _ _); k_dflt (refine' use_ctrX (c_days_ahead _ _ _ _ ?p0_9 ?p1_9) ?g9_9 ?n9_9 ?F9_9 ?N9_9 ?_; (case g9_9 => with_reducible assumption); (case n9_9 => exact rfl); (case F9_9 => k_asm); (case N9_9 => k_asm); (case p0_9 => first | with_reducible assumption | decide | l_fact); (case p1_9 => first | with_reducible assumption | decide | l_fact); k_whole); walk_at "uX")
  k_with "CallK" => (k_here; (guard_target = CallK _ _ (Value.ref 50) _ _ _ _); k_dflt (refine' use_ctrX (c_year_of_day _ _ _ _ ?p0_9 ?p1_9) ?g9_9 ?n9_9 ?F9_9 ?N9_9 ?_; (case g9_9 => with_reducible assumption); (case n9_9 => exact rfl); (case F9_9 => k_asm); (case N9_9 => k_asm); (case p0_9 => assumption); (case p1_9 => assumption); k_whole); walk_at "uX")
  k_with "CallK" => (k_here; (guard_target = CallK _ _ (Value.ref 78) _ _ _ _); k_dflt (refine' use_ctrX (c_days_of_month _ _ _ _ _ ?p0_9 ?p1_9) ?g9_9 ?n9_9 ?F9_9 ?N9_9 ?_; (case g9_9 => with_reducible assumption); (case n9_9 => exact rfl); (case F9_9 => k_asm); (case N9_9 => k_asm); (case p0_9 => first | with_reducible assumption | decide | l_fact); (case p1_9 => first | with_reducible assumption | decide | l_fact); k_whole); walk_at "uX")
  k_with "CallK" => (k_here; (guard_target = CallK _ _ (Value.ref 57) _ _ _ _); k_dflt (refine' use_ctrX (c_year_of _ _ _ _ ?p0_9) ?g9_9 ?n9_9 ?F9_9 ?N9_9 ?_; (case g9_9 => with_reducible assumption); (case n9_9 => exact rfl); (case F9_9 => k_asm); (case N9_9 => k_asm); (case p0_9 => assumption); k_whole); walk_at "uX")
  k_with "CallK" => (k_here; (guard_target = CallK _ _ (Value.ref 64) _ _ _ _); k_dflt (refine' use_ctrX (c_day_in_year _ _ _ _ ?p0_9) ?g9_9 ?n9_9 ?F9_9 ?N9_9 ?_; (case g9_9 => with_reducible assumption); (case n9_9 => exact rfl); (case F9_9 => k_asm); (case N9_9 => k_asm); (case p0_9 => assumption); k_whole); walk_at "uX")
  k_with "CallK" => (k_here; (guard_target = CallK _ _ (Value.ref 85) _ _ _ _); k_dflt (refine' use_ctrX (c_month_of _ _ _ _ _ ?p0_9 ?p1_9) ?g9_9 ?n9_9 ?F9_9 ?N9_9 ?_; (case g9_9 => with_reducible assumption); (case n9_9 => exact rfl); (case F9_9 => k_asm); (case N9_9 => k_asm); (case p0_9 => assumption); (case p1_9 => assumption); k_whole); walk_at "uX")
  k_with "CallK" => (k_here; (guard_target = CallK _ _ (Value.ref 92) _ _ _ _); k_dflt (refine' use_ctrX (c_date_of _ _ _ _ _ ?p0_9 ?p1_9) ?g9_9 ?n9_9 ?F9_9 ?N9_9 ?_; (case g9_9 => with_reducible assumption); (case n9_9 => exact rfl); (case F9_9 => k_asm); (case N9_9 => k_asm); (case p0_9 => assumption); (case p1_9 => assumption); k_whole); walk_at "uX")
  k_with "CallK" => (k_here; (guard_target = CallK _ _ (Value.ref 99) _ _ _ _); k_dflt (refine' use_ctrX (c_week_day_of _ _ _) ?g9_9 ?n9_9 ?F9_9 ?N9_9 ?_; (case g9_9 => with_reducible assumption); (case n9_9 => exact rfl); (case F9_9 => k_asm); (case N9_9 => k_asm); k_whole); walk_at "uX")
  k_with "CallK" => (k_here; (guard_target = CallK _ _ (Value.ref 106) _ _ _ _); k_dflt (refine' use_ctrX (c_hour_of _ _ _) ?g9_9 ?n9_9 ?F9_9 ?N9_9 ?_; (case g9_9 => with_reducible assumption); (case n9_9 => exact rfl); (case F9_9 => k_asm); (case N9_9 => k_asm); k_whole); walk_at "uX")
  k_with "CallK" => (k_here; (guard_target = CallK _ _ (Value.ref 113) _ _ _ _); k_dflt (refine' use_ctrX (c_minute_of _ _ _) ?g9_9 ?n9_9 ?F9_9 ?N9_9 ?_; (case g9_9 => with_reducible assumption); (case n9_9 => exact rfl); (case F9_9 => k_asm); (case N9_9 => k_asm); k_whole); walk_at "uX")
  k_with "CallK" => (k_here; (guard_target = CallK _ _ (Value.ref 120) _ _ _ _); k_dflt (refine' use_ctrX (c_second_of _ _ _) ?g9_9 ?n9_9 ?F9_9 ?N9_9 ?_; (case g9_9 => with_reducible assumption); (case n9_9 => exact rfl); (case F9_9 => k_asm); (case N9_9 => k_asm); k_whole); walk_at "uX")
  k_with "CallK" => (k_here; (guard_target = CallK _ _ (Value.ref 127) _ _ _ _); k_dflt (refine' use_ctrX (c_ms_of _ _ _) ?g9_9 ?n9_9 ?F9_9 ?N9_9 ?_; (case g9_9 => with_reducible assumption); (case n9_9 => exact rfl); (case F9_9 => k_asm); (case N9_9 => k_asm); k_whole); walk_at "uX")
  k_with "compareOp In" => (k_here; (guard_target = wpAny _ _ (compareOp CmpOp.In Value.none (Value.ref _)) _ _ _); k_dflt (first | (refine' none_in4 ?N_9 ?a_9 ?n_9 ?_; (case N_9 => k_asm); (case a_9 => k_mem); (case n_9 => first | with_reducible assumption | ktr_units); k_whole) | (refine' none_in3 ?N_9 ?a_9 ?n_9 ?_; (case N_9 => k_asm); (case a_9 => k_mem); (case n_9 => first | with_reducible assumption | ktr_units); k_whole)); (try dsimp only))
  k_with "CallK" => (k_here; (guard_target = CallK _ _ (Value.ref 141) _ _ _ _); k_dflt (refine' use_ctrX (c_make_time _ _ _ _ _ _ _ _ _) ?g9_9 ?n9_9 ?F9_9 ?N9_9 ?_; (case g9_9 => with_reducible assumption); (case n9_9 => exact rfl); (case F9_9 => k_asm); (case N9_9 => k_asm); k_whole); walk_at "uX")
  k_with "CallK" => (k_here; (guard_target = CallK _ _ (Value.ref 148) _ _ _ _); k_dflt (refine' use_ctrX (c_make_day _ _ _ _ _ _ _) ?g9_9 ?n9_9 ?F9_9 ?N9_9 ?_; (case g9_9 => with_reducible assumption); (case n9_9 => exact rfl); (case F9_9 => k_asm); (case N9_9 => k_asm); k_whole); walk_at "uX")
  k_with "CallK" => (k_here; (guard_target = CallK _ _ (Value.ref 155) _ _ _ _); k_dflt (refine' use_ctrX (c_make_date _ _ _ _ _) ?g9_9 ?n9_9 ?F9_9 ?N9_9 ?_; (case g9_9 => with_reducible assumption); (case n9_9 => exact rfl); (case F9_9 => k_asm); (case N9_9 => k_asm); k_whole); walk_at "uX")
  k_with "CallK" => (k_here; (guard_target = CallK _ _ (Value.ref 176) _ _ _ _); k_dflt (refine' use_ctrX (c_local_of _ _ _ _ _) ?g9_9 ?n9_9 ?F9_9 ?N9_9 ?_; (case g9_9 => with_reducible assumption); (case n9_9 => exact rfl); (case F9_9 => k_asm); (case N9_9 => k_asm); k_whole); walk_at "uX")
  k_with "CallK" => (k_here; (guard_target = CallK _ _ (Value.ref 183) _ _ _ _); k_dflt (refine' use_ctrX (c_utc_of _ _ _ _ _) ?g9_9 ?n9_9 ?F9_9 ?N9_9 ?_; (case g9_9 => with_reducible assumption); (case n9_9 => exact rfl); (case F9_9 => k_asm); (case N9_9 => k_asm); k_whole); walk_at "uX")
  k_with "CallK" => (k_here; (guard_target = CallK _ _ (Value.ref 162) _ _ _ _); k_dflt (refine' use_ctr (c_time_clip _ _ _) ?g9_9 ?n9_9 ?F9_9 ?N9_9 ?_; (case g9_9 => with_reducible assumption); (case n9_9 => exact rfl); (case F9_9 => k_asm); (case N9_9 => k_asm); k_whole); intro r9 h9 tk9 hP9 F9 N9; (try dsimp only); (try k_sweep); (try k_fold))
  k_with "CallK" => (k_here; (guard_target = CallK _ _ (Value.ref 393) _ _ _ _); k_dflt (refine' use_ctrX (c_length _ _ _ _ _) ?g9_9 ?n9_9 ?F9_9 ?N9_9 ?_; (case g9_9 => with_reducible assumption); (case n9_9 => exact rfl); (case F9_9 => k_asm); (case N9_9 => k_asm); k_whole); walk_at "uX")
  trivial
local macro_rules | `(tactic| k_all) => `(tactic| with_reducible assumption)
theorem ru_L3_1 : True := by
  k_with "CallK" => (k_here; (guard_target = CallK _ _ (Value.ref 398) _ _ _ _); k_dflt (refine' use_ctrX (c_count _ _ _ _ _ _ _ ?p0_9 ?p1_9) ?g9_9 ?n9_9 ?F9_9 ?N9_9 ?_; (case g9_9 => with_reducible assumption); (case n9_9 => exact rfl); (case F9_9 => k_asm); (case N9_9 => k_asm); (case p0_9 => first | with_reducible assumption | decide | l_fact); (case p1_9 => first | with_reducible assumption | decide | l_fact); k_whole); walk_at "uX")
  k_with "CompSrc" => (k_here; k_dflt (refine LCg.CompSrc.range (by rfl) (by k_asm) (by k_asm) (by assumption) (by first | decide | rfl) (by first | rfl | decide) (by first | size_fits | exact Nat.le_of_ble_eq_true rfl) ?_; intro g'; lcg_lit))
  k_with "binaryOp Pow int int" => (k_here; (with_reducible refine pow_int_small ?kb1_9 ?kb2_9 ?kb3_9 ?_); (case kb1_9 => decide); (case kb2_9 => decide); (case kb3_9 => decide))
  k_with "strs are" => exact StrsAre.nil
  k_with "strs are" => (refine StrsAre.cons _ _ ?_; walk_at "strs are")
  k_with "call builtin:str.join" => (k_here; (guard_target = wpAny _ _ (call (Value.builtin "str.join") [Value.str _ _, Value.ref _]) _ _ _); k_dflt (refine join_strs ?j1_9 ?j2_9 ?j3_9 ?j4_9 ?j5_9 ?_; (case j1_9 => first | is_list | exact News.isList (by k_asm) (by k_mem)); (case j2_9 => walk_at "strs are"); (case j3_9 => walk_at "short strs"); (case j4_9 => decide); (case j5_9 => first | decide | walk_at "my size")); intro _ _; (try dsimp only))
  k_with "short strs" => (simp only [List.forall_mem_cons, mk_len, figs_len, item_len, List.length_append, List.length_cons, List.length_nil]; simp)
  k_with "CompEnd" => (k_here; k_dflt (refine' LCg.CompEnd.intro ?cF_9 ?cN_9 _ sub_refl ?cO_9 ?cS_9 ?_; (case cF_9 => k_asm); (case cN_9 => k_asm); (case cO_9 => first | assumption | (with_unfolding_all assumption) | (simp only [LCg.Off3, and_true]; first | done | assumption)); (case cS_9 => first | lcg_src | assumption)))
  k_with "CallK" => (k_here; (guard_target = CallK _ _ (Value.ref 386) _ _ _ _); k_dflt (refine' use_ctrX (c_fig4 _ _ _ _ ?p0_9) ?g9_9 ?n9_9 ?F9_9 ?N9_9 ?_; (case g9_9 => with_reducible assumption); (case n9_9 => exact rfl); (case F9_9 => k_asm); (case N9_9 => k_asm); (case p0_9 => first | with_reducible assumption | decide | l_fact); k_whole); walk_at "uX")
  k_with "CallK" => (k_here; (guard_target = CallK _ _ (Value.ref 386) _ _ _ _); k_dflt (refine' use_ctrX (c_fig3 _ _ _ _ ?p0_9) ?g9_9 ?n9_9 ?F9_9 ?N9_9 ?_; (case g9_9 => with_reducible assumption); (case n9_9 => exact rfl); (case F9_9 => k_asm); (case N9_9 => k_asm); (case p0_9 => first | with_reducible assumption | decide | l_fact); k_whole); walk_at "uX")
  k_with "CallK" => (k_here; (guard_target = CallK _ _ (Value.ref 386) _ _ _ _); k_dflt (refine' use_ctrX (c_fig2 _ _ _ _ ?p0_9) ?g9_9 ?n9_9 ?F9_9 ?N9_9 ?_; (case g9_9 => with_reducible assumption); (case n9_9 => exact rfl); (case F9_9 => k_asm); (case N9_9 => k_asm); (case p0_9 => first | with_reducible assumption | decide | l_fact); k_whole); walk_at "uX")
  k_with "my size" => (simp only [Str.length_append, mk_len, figs_len, item_len, lit0, lit1, lit2, lit3, lit4, lit5, lit6, lit7, lit8, lit9, lit10, lit11, lit12, lit13, lit14, lit15, lit16, lit17, lit18, lit19, lit20, lit21, lit22, lit23, lit24, lit25, lit26, lit27, lit28, lit29, lit30, lit31, lit32, lit33, lit34, lit35, lit36, lit37, lit38, lit39, lit40, lit41, lit42, lit43, lit44, lit45, lit46, lit47, lit48, lit49, lit50, lit51, lit52, lit53, List.length_append, List.length_cons, List.length_nil]; omega)
  k_with "binaryOp Add str str" => (k_here; (guard_target = wpAny _ _ (binaryOp Operator.Add (Value.str _ _) (Value.str _ _)) _ _ _); (refine' add_txt2 ?z_9 ?_; (case z_9 => walk_at "my size")); intro _ _)
  k_with "CallK" => (k_here; (guard_target = CallK _ _ (Value.ref 405) _ _ _ _); k_dflt (refine' use_ctrX (c_offset _ _ _ _ _ _ ?p0_9 ?p1_9 ?p2_9 ?p3_9) ?g9_9 ?n9_9 ?F9_9 ?N9_9 ?_; (case g9_9 => with_reducible assumption); (case n9_9 => exact rfl); (case F9_9 => k_asm); (case N9_9 => k_asm); (case p0_9 => with_reducible (first | exact lit4 | exact lit0 | exact rfl)); (case p1_9 => (first | decide | omega)); (case p2_9 => first | with_reducible assumption | decide | l_fact); (case p3_9 => first | with_reducible assumption | decide | l_fact); k_whole); walk_at "uX")
  trivial
set_option maxRecDepth 100000
set_option maxHeartbeats 8000000
noncomputable abbrev daysO (t1 t2 t3 t4 t5 t6 t7 : Tok) (n : Nat) : Obj := listOf #[.str (Str.ofString "Sun") t1, .str (Str.ofString "Mon") t2, .str (Str.ofString "Tue") t3, .str (Str.ofString "Wed") t4, .str (Str.ofString "Thu") t5, .str (Str.ofString "Fri") t6, .str (Str.ofString "Sat") t7] n
noncomputable abbrev monthsO (t1 t2 t3 t4 t5 t6 t7 t8 t9 t10 t11 t12 : Tok) (n : Nat) : Obj := listOf #[.str (Str.ofString "Jan") t1, .str (Str.ofString "Feb") t2, .str (Str.ofString "Mar") t3, .str (Str.ofString "Apr") t4, .str (Str.ofString "May") t5, .str (Str.ofString "Jun") t6, .str (Str.ofString "Jul") t7, .str (Str.ofString "Aug") t8, .str (Str.ofString "Sep") t9, .str (Str.ofString "Oct") t10, .str (Str.ofString "Nov") t11, .str (Str.ofString "Dec") t12] n
/-- a call that comes back with one new object -/
noncomputable def CtrO (w : World) (f : Addr) (n : Nat) (vs : List Value) (P : Obj → Prop) : Prop := CtrN w f n vs (fun r add => ∃ q ob, r = .ref q ∧ add = [(q, ob)] ∧ P ob)
noncomputable def daysP (ob : Obj) : Prop := ∃ t1 t2 t3 t4 t5 t6 t7 n, ob = daysO t1 t2 t3 t4 t5 t6 t7 n
noncomputable def monthsP (ob : Obj) : Prop := ∃ t1 t2 t3 t4 t5 t6 t7 t8 t9 t10 t11 t12 n, ob = monthsO t1 t2 t3 t4 t5 t6 t7 t8 t9 t10 t11 t12 n
theorem c_days (w : World) : CtrO w 367 1 [] daysP := by
  unfold CtrO
  k_dflt (refine' ctrN_enter (bs := []) ?k6 ?k7 ?kb ?kB ?kr ?c2 ?c3 ?c4 ?c5 ?_; (case k6 => k_is); (case k7 => k_is); (case kb => exact rfl); (case kB => exact rfl); (case kr => exact rfl); (case c2 => exact rfl); (case c3 => exact rfl); (case c4 => exact rfl); (case c5 => decide))
  intro mean mg mb dp un gd outer A₀ base g' L' h9 gs9 d9 tk9 o9 Q
  intro A9 P9 u9 B' F9 X' N' T' hdp hun hret
  walk_at "steps"
  all_goals exact hret _ _ _ _ ⟨_, _, rfl, rfl, _, _, _, _, _, _, _, _, rfl⟩ (by k_asm) (by assumption)
theorem c_months (w : World) : CtrO w 374 1 [] monthsP := by
  unfold CtrO
  k_dflt (refine' ctrN_enter (bs := []) ?k6 ?k7 ?kb ?kB ?kr ?c2 ?c3 ?c4 ?c5 ?_; (case k6 => k_is); (case k7 => k_is); (case kb => exact rfl); (case kB => exact rfl); (case kr => exact rfl); (case c2 => exact rfl); (case c3 => exact rfl); (case c4 => exact rfl); (case c5 => decide))
  intro mean mg mb dp un gd outer A₀ base g' L' h9 gs9 d9 tk9 o9 Q
  intro A9 P9 u9 B' F9 X' N' T' hdp hun hret
  walk_at "steps"
  all_goals exact hret _ _ _ _ ⟨_, _, rfl, rfl, _, _, _, _, _, _, _, _, _, _, _, _, _, rfl⟩ (by k_asm) (by assumption)
theorem use_days {w : World} {f : Addr} {n k : Nat} {vs : List Value} {news : Led} {A : Around} {h₀ h : Heap} {L : Addr} {m : Str → Option Value} {g : Array GenState} {d : Drawn} {tk : Nat} {o : OsState} {Q E : Value → Shared → Prop} (C : CtrO w f n vs daysP) (G : Pl w k A h₀ L) (hn : Nat.ble n k = true) (F : Fr h₀ L h m) (N : News h₀ L h news)
    (hret : ∀ (q : Addr) (t1 t2 t3 t4 t5 t6 t7 : Tok) (c : Nat) (h' : Heap) (tk' : Nat), Fr h₀ L h' m → News h₀ L h' ((q, daysO t1 t2 t3 t4 t5 t6 t7 c) :: news) → Q (.ref q) ⟨h', g, d, tk', o⟩) : CallK w A (.ref f) vs Q E ⟨h, g, d, tk, o⟩ :=
  use_ctrN C G hn F N (fun r add h' tk' hp F' N' => by obtain ⟨q, ob, rfl, rfl, t1, t2, t3, t4, t5, t6, t7, c, rfl⟩ := hp; exact hret q t1 t2 t3 t4 t5 t6 t7 c h' tk' F' N')
theorem ru_L3_2 : True := by
  k_with "CallK" => (k_here; (guard_target = CallK _ _ (Value.ref 367) _ _ _ _); k_dflt (refine' use_days (c_days _) ?g9_9 ?n9_9 ?F9_9 ?N9_9 ?_; (case g9_9 => with_reducible assumption); (case n9_9 => exact rfl); (case F9_9 => k_asm); (case N9_9 => k_asm); k_whole); intro q9 u9t1 u9t2 u9t3 u9t4 u9t5 u9t6 u9t7 c9 h9 tk9 F9 N9; (try dsimp only); (try k_sweep); (try k_fold))
  trivial
theorem use_months {w : World} {f : Addr} {n k : Nat} {vs : List Value} {news : Led} {A : Around} {h₀ h : Heap} {L : Addr} {m : Str → Option Value} {g : Array GenState} {d : Drawn} {tk : Nat} {o : OsState} {Q E : Value → Shared → Prop} (C : CtrO w f n vs monthsP) (G : Pl w k A h₀ L) (hn : Nat.ble n k = true) (F : Fr h₀ L h m) (N : News h₀ L h news)
    (hret : ∀ (q : Addr) (t1 t2 t3 t4 t5 t6 t7 t8 t9 t10 t11 t12 : Tok) (c : Nat) (h' : Heap) (tk' : Nat), Fr h₀ L h' m → News h₀ L h' ((q, monthsO t1 t2 t3 t4 t5 t6 t7 t8 t9 t10 t11 t12 c) :: news) → Q (.ref q) ⟨h', g, d, tk', o⟩) : CallK w A (.ref f) vs Q E ⟨h, g, d, tk, o⟩ :=
  use_ctrN C G hn F N (fun r add h' tk' hp F' N' => by obtain ⟨q, ob, rfl, rfl, t1, t2, t3, t4, t5, t6, t7, t8, t9, t10, t11, t12, c, rfl⟩ := hp; exact hret q t1 t2 t3 t4 t5 t6 t7 t8 t9 t10 t11 t12 c h' tk' F' N')
theorem ru_L3_3 : True := by
  k_with "CallK" => (k_here; (guard_target = CallK _ _ (Value.ref 374) _ _ _ _); k_dflt (refine' use_months (c_months _) ?g9_9 ?n9_9 ?F9_9 ?N9_9 ?_; (case g9_9 => with_reducible assumption); (case n9_9 => exact rfl); (case F9_9 => k_asm); (case N9_9 => k_asm); k_whole); intro q9 u9t1 u9t2 u9t3 u9t4 u9t5 u9t6 u9t7 u9t8 u9t9 u9t10 u9t11 u9t12 c9 h9 tk9 F9 N9; (try dsimp only); (try k_sweep); (try k_fold))
  trivial
section
variable {prog : Program} {w : World} {A : Around} {E : Value → Shared → Prop} {s : Shared} {h₀ : Heap} {L q : Addr} {news : List (Addr × Obj)}
theorem days_item {value slice : PySem.Expr} {k : Int} {u t1 t2 t3 t4 t5 t6 t7 : Tok} {n : Nat} {Q : Value → Shared → Prop} (N : News h₀ L s.heap news) (hq : (q, daysO t1 t2 t3 t4 t5 t6 t7 n) ∈ news) (h0 : 0 ≤ k) (h1 : k < 7) (h : ∀ t, Q (.str (mk (wdN k)) t) s)
    (hs : subscripted slice false (.ref q) (.int k u) = operate [.ref q, .int k u] (getItem (.ref q) (.int k u)) := by with_unfolding_all rfl) :
    wpAny (model prog w) A (subscriptTail value slice (.ref q) (.int k u)) Q E s := by
  have hL : s.heap.IsList q _ := ⟨_, (N _ hq).1, rfl, n, rfl⟩
  have hx : ∃ t, [Value.str (Str.ofString "Sun") t1, Value.str (Str.ofString "Mon") t2, Value.str (Str.ofString "Tue") t3, Value.str (Str.ofString "Wed") t4, Value.str (Str.ofString "Thu") t5, Value.str (Str.ofString "Fri") t6, Value.str (Str.ofString "Sat") t7][k.toNat]? = some (Value.str (mk (wdN k)) t) := by
    obtain ⟨j, rfl⟩ := Int.eq_ofNat_of_zero_le h0
    have h : j < 7 := by (first | lia | omega)
    rw [lit46, lit47, lit48, lit49, lit50, lit51, lit52]
    match j, h with
    | 0, _ | 1, _ | 2, _ | 3, _ | 4, _ | 5, _ | 6, _ => exact ⟨_, rfl⟩
  obtain ⟨t, hx⟩ := hx
  exact tail_any hL.typeIs slot_list_getitem.lookup (wpAny_getItem_list hL h0 (by (first | lia | omega)) (by simpa using hx) (h t)) hs
theorem months_item {value slice : PySem.Expr} {k : Int} {u t1 t2 t3 t4 t5 t6 t7 t8 t9 t10 t11 t12 : Tok} {n : Nat} {Q : Value → Shared → Prop} (N : News h₀ L s.heap news) (hq : (q, monthsO t1 t2 t3 t4 t5 t6 t7 t8 t9 t10 t11 t12 n) ∈ news) (h0 : 0 ≤ k) (h1 : k < 12) (h : ∀ t, Q (.str (mk (moN k)) t) s)
    (hs : subscripted slice false (.ref q) (.int k u) = operate [.ref q, .int k u] (getItem (.ref q) (.int k u)) := by with_unfolding_all rfl) :
    wpAny (model prog w) A (subscriptTail value slice (.ref q) (.int k u)) Q E s := by
  have hL : s.heap.IsList q _ := ⟨_, (N _ hq).1, rfl, n, rfl⟩
  have hx : ∃ t, [Value.str (Str.ofString "Jan") t1, Value.str (Str.ofString "Feb") t2, Value.str (Str.ofString "Mar") t3, Value.str (Str.ofString "Apr") t4, Value.str (Str.ofString "May") t5, Value.str (Str.ofString "Jun") t6, Value.str (Str.ofString "Jul") t7, Value.str (Str.ofString "Aug") t8, Value.str (Str.ofString "Sep") t9, Value.str (Str.ofString "Oct") t10, Value.str (Str.ofString "Nov") t11, Value.str (Str.ofString "Dec") t12][k.toNat]? = some (Value.str (mk (moN k)) t) := by
    obtain ⟨j, rfl⟩ := Int.eq_ofNat_of_zero_le h0
    have h : j < 12 := by (first | lia | omega)
    rw [lit34, lit35, lit36, lit37, lit38, lit39, lit40, lit41, lit42, lit43, lit44, lit45]
    match j, h with
    | 0, _ | 1, _ | 2, _ | 3, _ | 4, _ | 5, _ | 6, _ | 7, _ | 8, _ | 9, _ | 10, _ | 11, _ => exact ⟨_, rfl⟩
  obtain ⟨t, hx⟩ := hx
  exact tail_any hL.typeIs slot_list_getitem.lookup (wpAny_getItem_list hL h0 (by (first | lia | omega)) (by simpa using hx) (h t)) hs
end
noncomputable abbrev tup6 (a b c d e f : Int) (t1 t2 t3 t4 t5 t6 : Tok) (n : Nat) : Obj := { cls := .type "tuple", data := .seq #[.int a t1, .int b t2, .int c t3, .int d t4, .int e t5, .int f t6] n }
theorem ru_L3_4 : True := by
  k_with "subscriptTail" => (k_here; (guard_target = wpAny _ _ (subscriptTail _ _ (Value.ref _) (Value.int _ _)) _ _ _); k_dflt (refine' days_item ?k1_9 ?k2_9 ?k3_9 ?k4_9 ?_ ?k5_9; (case k1_9 => k_asm); (case k2_9 => k_mem); (case k3_9 => exact (fm_b0 _ (by decide)).1); (case k4_9 => exact (fm_b0 _ (by decide)).2); (case k5_9 => with_unfolding_all rfl)); intro _)
  k_with "subscriptTail" => (k_here; (guard_target = wpAny _ _ (subscriptTail _ _ (Value.ref _) (Value.int _ _)) _ _ _); k_dflt (refine' months_item ?k1_9 ?k2_9 ?k3_9 ?k4_9 ?_ ?k5_9; (case k1_9 => k_asm); (case k2_9 => k_mem); (case k3_9 => assumption); (case k4_9 => assumption); (case k5_9 => with_unfolding_all rfl)); intro _)
  trivial
theorem wdN_le' (i : Int) : (wdN i).length ≤ 3 := by
  unfold wdN
  rw [List.getD_eq_getElem?_getD]
  cases h : wdL[i.toNat]? with
  | none => simp
  | some l => exact (by decide : ∀ l ∈ wdL, l.length ≤ 3) l (List.mem_of_getElem? h)
theorem moN_le' (i : Int) : (moN i).length ≤ 3 := by
  unfold moN
  rw [List.getD_eq_getElem?_getD]
  cases h : moL[i.toNat]? with
  | none => simp
  | some l => exact (by decide : ∀ l ∈ moL, l.length ≤ 3) l (List.mem_of_getElem? h)
theorem join_mk3 {prog : Program} {w : World} {A : Around} {E : Value → Shared → Prop} {s : Shared} {D : Addr} {x : Str} {y a b c : List Nat} {t t1 t2 t3 : Tok} {Q : Value → Shared → Prop} (hl : s.heap.IsList D [Value.str (mk a) t1, .str (mk b) t2, .str (mk c) t3].toArray)
    (hx : x = mk y) (hy : y.length ≤ 6) (ha : a.length ≤ 10) (hb : b.length ≤ 10) (hc : c.length ≤ 10) (h : ∀ t' k, Q (.str (mk (a ++ y ++ b ++ y ++ c)) t') { s with toks := k }) : wpAny (model prog w) A (call (.builtin "str.join") [.str x t, .ref D]) Q E s := by
  subst hx
  refine join_strs hl (.cons _ _ (.cons _ _ (.cons _ _ .nil))) ?_ (by simp) (by rw [mk_len]; exact hy) (by rw [join3]; exact h)
  intro z hz
  simp only [List.mem_cons, List.not_mem_nil, or_false] at hz
  rcases hz with rfl | rfl | rfl <;> rw [mk_len] <;> assumption
theorem ru_L3_5 : True := by
  k_with "call builtin:str.join" => (k_here; (guard_target = wpAny _ _ (call (Value.builtin "str.join") [Value.str _ _, Value.ref _]) _ _ _); k_dflt (refine' join_mk3 ?j1_9 ?j2_9 ?j3_9 ?j4_9 ?j5_9 ?j6_9 ?_; (case j1_9 => exact News.isList (by k_asm) (by k_mem)); (case j2_9 => first | exact lit4 | exact lit1); (case j3_9 => decide); (case j4_9 => rw [figs_len]; decide); (case j5_9 => rw [figs_len]; decide); (case j6_9 => rw [figs_len]; decide)); intro _ _; (try dsimp only))
  k_with "my size" => (simp only [Str.length_append, mk_len, figs_len, item_len, osT_len, lit0, lit1, lit2, lit3, lit4, lit5, lit6, lit7, lit8, lit9, lit10, lit11, lit12, lit13, lit14, lit15, lit16, lit17, lit18, lit19, lit20, lit21, lit22, lit23, lit24, lit25, lit26, lit27, lit28, lit29, lit30, lit31, lit32, lit33, lit34, lit35, lit36, lit37, lit38, lit39, lit40, lit41, lit42, lit43, lit44, lit45, lit46, lit47, lit48, lit49, lit50, lit51, lit52, lit53, List.length_append, List.length_cons, List.length_nil]; omega)
  k_with "eval ListComp" => (k_here; (guard_target = wpAny _ _ (eval (Expr.ListComp _ [⟨_, Expr.Tuple _ _ _, _, _⟩] _ _) _) _ _ _); k_dflt (refine ListComp_Tup (F₀ := by k_asm) (by with_unfolding_all rfl) (by decide) (by rfl) (by decide) (by rfl) ?_))
  k_with "TupSrc" => (k_here; k_dflt (refine TupSrc.intro (by rfl) (by k_asm) (by k_asm) (by k_mem) (by exact Nat.le_of_ble_eq_true rfl) ?_; intro g'; lcg_lit))
  k_with "CompEnd" => (k_here; k_dflt (refine' LCg.CompEnd.intro ?cF_9 ?cN_9 _ sub_refl ?cO_9 ?cS_9 ?_; (case cF_9 => k_asm); (case cN_9 => k_asm); (case cO_9 => first | assumption | (with_unfolding_all assumption) | (simp only [LCg.Off3, and_true]; first | done | assumption)); (case cS_9 => exact ⟨_, by k_mem, rfl, _, rfl⟩)))
  trivial
noncomputable def shT (y m d h i s o : Int) : List Nat := wdN ((countF y m d + 4).fmod 7) ++ [32] ++ moN m ++ [32] ++ figs d.toNat 2 ++ [32] ++ figs y.toNat 4 ++ [32] ++ (figs h.toNat 2 ++ [58] ++ figs i.toNat 2 ++ [58] ++ figs s.toNat 2) ++ [32, 71, 77, 84] ++ osT o []
theorem c_shown (w : World) (q : Addr) (y m d h i s o : Int) (t t1 t2 t3 t4 t5 t6 : Tok) (n : Nat) (y0 : 0 ≤ y) (m0 : 0 ≤ m) (m1 : m ≤ 11) (d0 : 0 ≤ d) (h0 : 0 ≤ h) (i0 : 0 ≤ i) (s0 : 0 ≤ s) (o0 : -6000 < o) (o1 : o < 6000) :
    CtrM w 410 4 [.ref q, .int o t] q (tup6 y m d h i s t1 t2 t3 t4 t5 t6 n) (strv (mk (shT y m d h i s o))) := by
  k_dflt (refine' ctrMS_enter (bs := [(Str.ofString "minutes", _), (Str.ofString "fields", _)]) ?k6 ?k7 ?kb ?kB ?kr ?c2 ?c3 ?c4 ?c5 ?_; (case k6 => k_is); (case k7 => k_is); (case kb => exact rfl); (case kB => exact rfl); (case kr => exact rfl); (case c2 => exact rfl); (case c3 => exact rfl); (case c4 => exact rfl); (case c5 => decide))
  intro mean mg mb dp un gd outer A₀ base g' L' h9 gs9 d9 tk9 o9 Q
  intro A9 P9 u9 B' F9 X' N' T' hdp hun hret
  have m2 : m < 12 := by omega
  have wl := wdN_le' ((countF y m d + 4).fmod 7)
  have ml := moN_le' m
  walk_at "steps"
  all_goals first | (refine hret _ _ _ ?_ (by k_asm); (simp only [lit0, lit1, lit2, lit3, lit4, lit5, lit6, lit7, lit8, lit9, lit10, lit11, lit12, lit13, lit14, lit15, lit16, lit17, lit18, lit19, lit20, lit21, lit22, lit23, lit24, lit25, lit26, lit27, lit28, lit29, lit30, lit31, lit32, lit33, lit34, lit35, lit36, lit37, lit38, lit39, lit40, lit41, lit42, lit43, lit44, lit45, lit46, lit47, lit48, lit49, lit50, lit51, lit52, lit53, mk_app, shT])) | (refine hret _ _ _ ?_ (by k_asm) (by first | with_reducible assumption | exact drop_news (by with_reducible assumption) (by first | with_reducible exact ktn_subA | repeat (first | with_reducible exact sub_refl | with_reducible refine sub_cons ?_ | with_reducible refine sub_skip ?_))); (simp only [lit0, lit1, lit2, lit3, lit4, lit5, lit6, lit7, lit8, lit9, lit10, lit11, lit12, lit13, lit14, lit15, lit16, lit17, lit18, lit19, lit20, lit21, lit22, lit23, lit24, lit25, lit26, lit27, lit28, lit29, lit30, lit31, lit32, lit33, lit34, lit35, lit36, lit37, lit38, lit39, lit40, lit41, lit42, lit43, lit44, lit45, lit46, lit47, lit48, lit49, lit50, lit51, lit52, lit53, mk_app, shT])) | (refine hret _ _ _ ⟨_, congrArg (fun z => Value.str z _) ?_⟩ (by k_asm); (simp only [lit0, lit1, lit2, lit3, lit4, lit5, lit6, lit7, lit8, lit9, lit10, lit11, lit12, lit13, lit14, lit15, lit16, lit17, lit18, lit19, lit20, lit21, lit22, lit23, lit24, lit25, lit26, lit27, lit28, lit29, lit30, lit31, lit32, lit33, lit34, lit35, lit36, lit37, lit38, lit39, lit40, lit41, lit42, lit43, lit44, lit45, lit46, lit47, lit48, lit49, lit50, lit51, lit52, lit53, mk_app, shT])) | (refine hret _ _ _ ⟨_, congrArg (fun z => Value.str z _) ?_⟩ (by k_asm) (by first | with_reducible assumption | exact drop_news (by with_reducible assumption) (by first | with_reducible exact ktn_subA | repeat (first | with_reducible exact sub_refl | with_reducible refine sub_cons ?_ | with_reducible refine sub_skip ?_))); (simp only [lit0, lit1, lit2, lit3, lit4, lit5, lit6, lit7, lit8, lit9, lit10, lit11, lit12, lit13, lit14, lit15, lit16, lit17, lit18, lit19, lit20, lit21, lit22, lit23, lit24, lit25, lit26, lit27, lit28, lit29, lit30, lit31, lit32, lit33, lit34, lit35, lit36, lit37, lit38, lit39, lit40, lit41, lit42, lit43, lit44, lit45, lit46, lit47, lit48, lit49, lit50, lit51, lit52, lit53, mk_app, shT]))
theorem ru_L3_6 : True := by
  k_with "CallK" => (k_here; (guard_target = CallK _ _ (Value.ref 410) _ _ _ _); k_dflt (refine' use_ctrMX (c_shown _ _ _ _ _ _ _ _ _ _ _ _ _ _ _ _ _ ?p0_9 ?p1_9 ?p2_9 ?p3_9 ?p4_9 ?p5_9 ?p6_9 ?p7_9 ?p8_9) ?g9_9 ?n9_9 ?F9_9 ?N9_9 ?q9_9 ?_; (case g9_9 => with_reducible assumption); (case n9_9 => exact rfl); (case F9_9 => k_asm); (case N9_9 => k_asm); (case q9_9 => k_mem); (case p0_9 => first | assumption | l_fact); (case p1_9 => first | assumption | l_fact); (case p2_9 => first | assumption | l_fact); (case p3_9 => first | assumption | l_fact); (case p4_9 => first | assumption | l_fact); (case p5_9 => first | assumption | l_fact); (case p6_9 => first | assumption | l_fact); (case p7_9 => first | assumption | l_fact); (case p8_9 => first | assumption | l_fact); k_whole); walk_at "uX")
  trivial
noncomputable def isI (y m d h i s : Int) (b : List Nat) : List Nat := figs y.toNat 4 ++ [45] ++ figs (m + 1).toNat 2 ++ [45] ++ figs d.toNat 2 ++ [84] ++ (figs h.toNat 2 ++ [58] ++ figs i.toNat 2 ++ [58] ++ figs s.toNat 2) ++ b
theorem c_iso (w : World) (q : Addr) (y m d h i s : Int) (b : List Nat) (x : Str) (t t1 t2 t3 t4 t5 t6 : Tok) (n : Nat) (y0 : 0 ≤ y) (m0 : -1 ≤ m) (d0 : 0 ≤ d) (h0 : 0 ≤ h) (i0 : 0 ≤ i) (s0 : 0 ≤ s) (hx : x = mk b) (hb : b.length ≤ 20) :
    CtrM w 415 4 [.ref q, .str x t] q (tup6 y m d h i s t1 t2 t3 t4 t5 t6 n) (strv (mk (isI y m d h i s b))) := by
  subst hx
  k_dflt (refine' ctrMS_enter (bs := [(Str.ofString "tail", _), (Str.ofString "fields", _)]) ?k6 ?k7 ?kb ?kB ?kr ?c2 ?c3 ?c4 ?c5 ?_; (case k6 => k_is); (case k7 => k_is); (case kb => exact rfl); (case kB => exact rfl); (case kr => exact rfl); (case c2 => exact rfl); (case c3 => exact rfl); (case c4 => exact rfl); (case c5 => decide))
  intro mean mg mb dp un gd outer A₀ base g' L' h9 gs9 d9 tk9 o9 Q
  intro A9 P9 u9 B' F9 X' N' T' hdp hun hret
  walk_at "steps"
  all_goals first | (refine hret _ _ _ ?_ (by k_asm); (simp only [lit0, lit1, lit2, lit3, lit4, lit5, lit6, lit7, lit8, lit9, lit10, lit11, lit12, lit13, lit14, lit15, lit16, lit17, lit18, lit19, lit20, lit21, lit22, lit23, lit24, lit25, lit26, lit27, lit28, lit29, lit30, lit31, lit32, lit33, lit34, lit35, lit36, lit37, lit38, lit39, lit40, lit41, lit42, lit43, lit44, lit45, lit46, lit47, lit48, lit49, lit50, lit51, lit52, lit53, mk_app, isI])) | (refine hret _ _ _ ?_ (by k_asm) (by first | with_reducible assumption | exact drop_news (by with_reducible assumption) (by first | with_reducible exact ktn_subA | repeat (first | with_reducible exact sub_refl | with_reducible refine sub_cons ?_ | with_reducible refine sub_skip ?_))); (simp only [lit0, lit1, lit2, lit3, lit4, lit5, lit6, lit7, lit8, lit9, lit10, lit11, lit12, lit13, lit14, lit15, lit16, lit17, lit18, lit19, lit20, lit21, lit22, lit23, lit24, lit25, lit26, lit27, lit28, lit29, lit30, lit31, lit32, lit33, lit34, lit35, lit36, lit37, lit38, lit39, lit40, lit41, lit42, lit43, lit44, lit45, lit46, lit47, lit48, lit49, lit50, lit51, lit52, lit53, mk_app, isI])) | (refine hret _ _ _ ⟨_, congrArg (fun z => Value.str z _) ?_⟩ (by k_asm); (simp only [lit0, lit1, lit2, lit3, lit4, lit5, lit6, lit7, lit8, lit9, lit10, lit11, lit12, lit13, lit14, lit15, lit16, lit17, lit18, lit19, lit20, lit21, lit22, lit23, lit24, lit25, lit26, lit27, lit28, lit29, lit30, lit31, lit32, lit33, lit34, lit35, lit36, lit37, lit38, lit39, lit40, lit41, lit42, lit43, lit44, lit45, lit46, lit47, lit48, lit49, lit50, lit51, lit52, lit53, mk_app, isI])) | (refine hret _ _ _ ⟨_, congrArg (fun z => Value.str z _) ?_⟩ (by k_asm) (by first | with_reducible assumption | exact drop_news (by with_reducible assumption) (by first | with_reducible exact ktn_subA | repeat (first | with_reducible exact sub_refl | with_reducible refine sub_cons ?_ | with_reducible refine sub_skip ?_))); (simp only [lit0, lit1, lit2, lit3, lit4, lit5, lit6, lit7, lit8, lit9, lit10, lit11, lit12, lit13, lit14, lit15, lit16, lit17, lit18, lit19, lit20, lit21, lit22, lit23, lit24, lit25, lit26, lit27, lit28, lit29, lit30, lit31, lit32, lit33, lit34, lit35, lit36, lit37, lit38, lit39, lit40, lit41, lit42, lit43, lit44, lit45, lit46, lit47, lit48, lit49, lit50, lit51, lit52, lit53, mk_app, isI]))
end

section -- T10
theorem rst_T10 : True := by
  w_top off
  trivial
open PySem PySem.W PySem.Calls PyProof.Rows
noncomputable def OkN (l : List Nat) : Prop := l.length ≤ 50 ∧ isoK l ∧ parseIso l = none
noncomputable def OkS (l : List Nat) : Prop := l.length ≤ 50 ∧ isoK l ∧ ∃ v, parseIso l = some v
noncomputable def Par (k : Int) (l : List Nat) : Prop := (k.fmod 2 = 0 ∧ OkS l) ∨ (k.fmod 2 ≠ 0 ∧ OkN l)
/-- what the texts at the bounds tell -/
noncomputable def BR (y m h i s : Int) : Prop :=
  OkS (isI y m (lenF y m) h i s [46, 48, 48, 48, 90]) ∧
  OkN (isI y m (lenF y m + 1) h i s [46, 48, 48, 48, 90]) ∧
  OkS (isI y m 1 h i s [46, 48, 48, 48, 90]) ∧
  OkN (isI y m 0 h i s [46, 48, 48, 48, 90]) ∧
  OkS (isI y 11 1 h i s [46, 48, 48, 48, 90]) ∧
  OkN (isI y 12 1 h i s [46, 48, 48, 48, 90]) ∧
  OkS (isI y 0 1 h i s [46, 48, 48, 48, 90]) ∧
  OkN (isI y (-1) 1 h i s [46, 48, 48, 48, 90]) ∧
  OkS (isI y m 1 23 59 59 [46, 48, 48, 48, 90]) ∧
  OkN (isI y m 1 25 0 0 [46, 48, 48, 48, 90]) ∧
  OkS (isI y m 1 24 0 0 [46, 48, 48, 48, 90]) ∧
  OkN (isI y m 1 24 0 1 [46, 48, 48, 48, 90]) ∧
  OkS (isI y m 1 5 59 0 [46, 48, 48, 48, 90]) ∧
  OkN (isI y m 1 5 60 0 [46, 48, 48, 48, 90]) ∧
  OkS (isI y m 1 5 0 59 [46, 48, 48, 48, 90]) ∧
  OkN (isI y m 1 5 0 60 [46, 48, 48, 48, 90]) ∧
  OkS (isI y m 1 3 4 5 [43, 50, 51, 58, 53, 57]) ∧
  OkN (isI y m 1 3 4 5 [43, 50, 52, 58, 48, 48]) ∧
  OkS (isI y m 1 3 4 5 [45, 48, 48, 58, 53, 57]) ∧
  OkN (isI y m 1 3 4 5 [45, 48, 48, 58, 54, 48]) ∧
  OkS (isI y m 1 3 4 5 [46, 57, 57, 57, 90]) ∧
  OkN (isI y m 1 3 4 5 [46, 57, 57, 90]) ∧
  OkS (isI y m 1 3 4 5 [90]) ∧
  OkN (isI y m 1 3 4 5 [90, 32]) ∧
  OkS (isI y m 1 3 4 5 []) ∧
  OkN (isI y m 1 3 4 5 [58, 48, 48]) ∧
  OkS (isI y m 1 3 4 5 [46, 48, 48, 48]) ∧
  OkN (isI y m 1 3 4 5 [43, 48, 49, 48, 48])
end

section -- T11
theorem rst_T11 : True := by
  w_top off
  trivial
open PySem PySem.W PySem.Calls PyProof.Rows PySem.Spec
theorem allObj_mono {k k' : List (Addr × Obj) → Prop} (h : ∀ its, k its → k' its) : ∀ {ws : List (Addr × String)}, ∀ {f : List (Addr × Obj) → List (Addr × Obj)}, AllObj ws (fun its => k (f its)) → AllObj ws (fun its => k' (f its))
  | [], _, x => h _ x
  | w :: ws, f, x => fun o hc => allObj_mono h (ws := ws) (f := fun its => f ((w.1, o) :: its)) (x o hc)
noncomputable abbrev two (n1 n2 : Str) (m₀ : Str → Option Value) (va vb : Option Value) : Str → Option Value := fun y => if y = n2 then vb else if y = n1 then va else m₀ y
theorem two_self (n1 n2 : Str) (m₀ : Str → Option Value) : two n1 n2 m₀ (m₀ n1) (m₀ n2) = m₀ := funext fun y => by
  unfold two
  by_cases e : y = n2
  · rw [if_pos e, e]
  · rw [if_neg e]
    by_cases e : y = n1
    · rw [if_pos e, e]
    · rw [if_neg e]
theorem two_two (n1 n2 : Str) (m₀ : Str → Option Value) (va vb vc vd : Option Value) : (fun y => if y = n2 then vd else if y = n1 then vc else two n1 n2 m₀ va vb y) = two n1 n2 m₀ vc vd := funext fun y => by
  unfold two
  by_cases e : y = n2
  · rw [if_pos e, if_pos e]
  · rw [if_neg e, if_neg e, if_neg e]
    by_cases e : y = n1
    · rw [if_pos e, if_pos e]
    · rw [if_neg e, if_neg e, if_neg e]
theorem two_one (n1 : Str) (m₀ : Str → Option Value) (va vb vc : Option Value) : (fun y => if y = n1 then vc else two n1 n1 m₀ va vb y) = two n1 n1 m₀ va vc := funext fun y => by
  unfold two
  by_cases e : y = n1 <;> simp only [e, if_true, if_false]
section
variable {prog : Program} {w : World} {A : Around} {E : Value → Shared → Prop} {s : Shared} {env : Env} {h₀ : Heap} {target : Expr} {body : List Stmt} {Q : Flow → Shared → Prop}
/-- a loop over written items whose turns keep the ledger: one turn for all -/
theorem items_by {ws : List (Addr × String)} {keep news : List (Addr × Obj)} {m₀ : Str → Option Value} (n1 n2 : Str) (J : List (Addr × Obj) → Itm → Prop) (hk : SubL keep news) (hoff : ∀ p ∈ news, ∀ b ∈ ws.map (·.1), p.1 ≠ b)
    (turn : ∀ (nw : List (Addr × Obj)) (a : Itm) (v : Value) (h : Heap) (tk : Nat) (va vb : Option Value), J nw a → (∀ p ∈ nw, ∀ b ∈ ws.map (·.1), p.1 ≠ b) → a.Is v h → Fr h₀ env.locals h (two n1 n2 m₀ va vb) →
      AllObj ws (fun its => News h₀ env.locals h (its ++ nw) → wpAny (model prog w) A (assign target env v) (fun _ s₂ => wpAny (model prog w) A (execs body env)
        (UnrPostW h₀ env.locals { s with heap := h, toks := tk } its (fun m' n' => n' = nw ∧ ∃ va vb, m' = two n1 n2 m₀ va vb) Q) E s₂) E { s with heap := h, toks := tk }))
    (fin : ∀ h tk va vb, Fr h₀ env.locals h (two n1 n2 m₀ va vb) → News h₀ env.locals h news → Q .next { s with heap := h, toks := tk }) :
    ∀ (xs : List Itm), (∀ a ∈ xs, J news a) → ∀ va vb, ItemsRest prog w A E h₀ env target body Q s ws keep xs (two n1 n2 m₀ va vb) news
  | [], _, va, vb => fun h tk F N => fin h tk va vb F N
  | a :: r, hJ, va, vb => fun v h tk hv F => by
    have ih := items_by n1 n2 J hk hoff turn fin r (fun b hb => hJ b (.tail _ hb))
    refine allObj_mono (k := fun its => News h₀ env.locals h (its ++ news) → wpAny (model prog w) A (assign target env v) (fun _ s₂ => wpAny (model prog w) A (execs body env)
        (UnrPostW h₀ env.locals { s with heap := h, toks := tk } its (fun m' n' => n' = news ∧ ∃ va vb, m' = two n1 n2 m₀ va vb) Q) E s₂) E { s with heap := h, toks := tk }) (f := fun its => its) (fun its H N => ?_) (turn news a v h tk va vb (hJ a (.head _)) hoff hv F)
    have up : ∀ s₃, UnrEndW h₀ env.locals { s with heap := h, toks := tk } its (fun m' n' => n' = news ∧ ∃ va vb, m' = two n1 n2 m₀ va vb) s₃ →
        UnrEndW h₀ env.locals { s with heap := h, toks := tk } its (fun m' n' => SubL keep n' ∧ ItemsRest prog w A E h₀ env target body Q s ws keep r m' n') s₃ := by
      rintro s₃ ⟨h', tk', m', news', e, F', N', o, rfl, va', vb', rfl⟩
      exact ⟨h', tk', _, _, e, F', N', o, hk, ih va' vb'⟩
    refine wpAny_mono (H N) (fun _ s₂ h₂ => wpAny_mono h₂ (fun f s₃ p => ?_) fun _ _ e => e) fun _ _ e => e
    cases f with
    | ret v => exact p
    | brk => exact p
    | next => exact up _ p
    | cont => exact up _ p
theorem items_of {ws : List (Addr × String)} {keep news : List (Addr × Obj)} {m₀ : Str → Option Value} {xs : List Itm} (n1 n2 : Str) (J : List (Addr × Obj) → Itm → Prop) (hall : ∀ a ∈ xs, J news a) (hk : SubL keep news) (hoff : ∀ p ∈ news, ∀ b ∈ ws.map (·.1), p.1 ≠ b)
    (turn : ∀ (nw : List (Addr × Obj)) (a : Itm) (v : Value) (h : Heap) (tk : Nat) (va vb : Option Value), J nw a → (∀ p ∈ nw, ∀ b ∈ ws.map (·.1), p.1 ≠ b) → a.Is v h → Fr h₀ env.locals h (two n1 n2 m₀ va vb) →
      AllObj ws (fun its => News h₀ env.locals h (its ++ nw) → wpAny (model prog w) A (assign target env v) (fun _ s₂ => wpAny (model prog w) A (execs body env)
        (UnrPostW h₀ env.locals { s with heap := h, toks := tk } its (fun m' n' => n' = nw ∧ ∃ va vb, m' = two n1 n2 m₀ va vb) Q) E s₂) E { s with heap := h, toks := tk }))
    (fin : ∀ h tk va vb, Fr h₀ env.locals h (two n1 n2 m₀ va vb) → News h₀ env.locals h news → Q .next { s with heap := h, toks := tk }) :
    ItemsRest prog w A E h₀ env target body Q s ws keep xs m₀ news := by
  have := items_by n1 n2 J hk hoff turn fin xs hall (m₀ n1) (m₀ n2)
  rwa [two_self] at this
end
end

section -- T12
theorem rst_T12 : True := by
  w_top off
  trivial
open PySem PySem.W PySem.Calls PyProof.Rows
open PySem.Builtin PySem.Builtin.Str
noncomputable def up (c : Nat) : Nat := if 97 ≤ c ∧ c ≤ 122 then c - 32 else c
theorem up_of : ∀ c, c < 128 → Unicode.upperOf c = [up c] := by decide +kernel
theorem upper_mk {l : List Nat} (h : ∀ c ∈ l, c < 128) : Txt.upper (mk l) = mk (l.map up) := by
  refine Str.ext' ?_
  show (placed (mk l) fun _ c => Unicode.upperOf c) = (l.map up).toArray
  unfold placed
  apply Array.toList_inj.mp
  have e : (mk l).cps.mapIdx (fun (_ : Nat) c => (Unicode.upperOf c).toArray) = (l.map fun c => (Unicode.upperOf c).toArray).toArray := by
    apply Array.toList_inj.mp
    simp only [Array.toList_mapIdx, List.mapIdx_eq_zipIdx_map]
    show List.map ((fun c => (Unicode.upperOf c).toArray) ∘ Prod.fst) l.zipIdx = _
    rw [← List.map_map, List.zipIdx_map_fst]
  rw [e]
  simp only [Array.toList_flatten, List.map_map]
  induction l with
  | nil => rfl
  | cons a r ih =>
    have := ih (fun c hc => h c (.tail _ hc)) 
    simp_all [up_of a (h a (.head _))]
end

section -- T24
theorem rst_T24 : True := by
  w_top off
  trivial
open PySem PySem.W PySem.Calls PyProof.Rows
theorem figs_128 (n k : Nat) : ∀ c ∈ figs n k, c < 128 := fun c hc => by
  have := figs_dig n k c hc
  unfold isDig at this; simp at this; (first | lia | omega)
theorem wdN_128 (i : Int) : ∀ c ∈ wdN i, c < 128 := by
  unfold wdN
  rw [List.getD_eq_getElem?_getD]
  cases h : wdL[i.toNat]? with
  | none => simp
  | some l => exact (by decide : ∀ l ∈ wdL, ∀ c ∈ l, c < 128) l (List.mem_of_getElem? h)
theorem moN_128 (i : Int) : ∀ c ∈ moN i, c < 128 := by
  unfold moN
  rw [List.getD_eq_getElem?_getD]
  cases h : moL[i.toNat]? with
  | none => simp
  | some l => exact (by decide : ∀ l ∈ moL, ∀ c ∈ l, c < 128) l (List.mem_of_getElem? h)
theorem app_128 {a b : List Nat} (ha : ∀ c ∈ a, c < 128) (hb : ∀ c ∈ b, c < 128) : ∀ c ∈ a ++ b, c < 128 := fun c hc => (List.mem_append.mp hc).elim (ha c) (hb c)
theorem osT_128 (o : Int) : ∀ c ∈ osT o [], c < 128 := by
  unfold osT
  refine app_128 (app_128 (app_128 ?_ (figs_128 _ _)) (by decide)) (figs_128 _ _)
  split <;> decide
theorem shT_ok (y m d h i s o : Int) (m0 : 0 ≤ m) (m1 : m ≤ 11) : (shT y m d h i s o).length = 33 ∧ (shT y m d h i s o).take 3 = wdN ((countF y m d + 4).fmod 7) ∧ ∀ c ∈ shT y m d h i s o, c < 128 := by
  have k := fm_b0 (countF y m d + 4) (k := 7) (by decide)
  have lw := wdN_len k.1 k.2
  have lm := moN_len m0 (by (first | lia | omega))
  refine ⟨?_, ?_, ?_⟩
  · unfold shT; simp only [List.length_append, lw, lm, figs_len, osT_len, List.length_cons, List.length_nil]
  · unfold shT; simp only [List.append_assoc]; exact List.take_left' lw
  · unfold shT
    exact app_128 (app_128 (app_128 (app_128 (app_128 (app_128 (app_128 (app_128 (app_128 (app_128 (wdN_128 _) (by decide)) (moN_128 _)) (by decide)) (figs_128 _ _)) (by decide)) (figs_128 _ _)) (by decide)) (app_128 (app_128 (app_128 (app_128 (figs_128 _ _) (by decide)) (figs_128 _ _)) (by decide)) (figs_128 _ _))) (by decide)) (osT_128 _)
end

section -- L4
theorem rst_L4 : True := by
  w_top off
  trivial
open PySem PySem.W PySem.Calls PyProof.Rows
theorem ru_L4_0 : True := by
  k_with_none
  k_with "steps" => (repeat' (first | k_unfold | (k_end; kc_close) | walk1 | (dsimp only; walk1) | (leave1; (try dsimp only)) | fail "no step"))
  k_with "eval Constant int" => (k_here; (with_reducible refine ct9 ?_); intro _ _)
  k_with "eval Constant str" => (k_here; (with_reducible refine cs9 ?_); intro _ _)
  k_with "binaryOp Add int int" => (k_here; (with_reducible refine ar_add ?_); intro _ _)
  k_with "binaryOp Sub int int" => (k_here; (with_reducible refine ar_sub ?_); intro _ _)
  k_with "binaryOp Mult int int" => (k_here; (with_reducible refine' ar_mul ?_ ?m9_9); k_dflt (case m9_9 => mul_fits); intro _ _)
  k_with "binaryOp FloorDiv int int" => (k_here; (with_reducible refine' ar_div ?b9_9 ?_ ?p9_9); k_dflt (case b9_9 => decide); k_dflt (case p9_9 => first | exact PyProof.noPylong_of_log2 (by decide +kernel) | exact PyProof.noPylong_small (by omega)); intro _ _)
  k_with "binaryOp Mod int int" => (k_here; (with_reducible refine ar_mod ?b9_9 ?_); (case b9_9 => first | decide | omega | assumption); intro _ _)
  k_with "inplaceOp Add int int" => (k_here; (with_reducible refine ar_iadd ?_); intro _ _)
  k_with "storeName" => (k_here; k_dflt (refine' st9 ?F_9 ?N_9 ?_ ?a_9 ?b_9; (case F_9 => with_reducible assumption); (case N_9 => with_reducible assumption); (case a_9 => exact rfl); (case b_9 => exact rfl); k_whole); intro h9 k9 F9 N9; (try k_sweep))
  k_with "newTuple" => (k_here; kup_bare; k_dflt (refine' nt9 ?F_9 ?N_9 ?_ ?z_9; (case F_9 => with_reducible assumption); (case N_9 => with_reducible assumption); (case z_9 => kmk_size)); intro D9 h9 F9 N9; (try k_sweep))
  k_with "eval Tuple" => (k_here; k_whole; (with_reducible refine tk_go ?h9_9 ?_); k_dflt (case h9_9 => exact rfl))
  k_with "eval Tuple" => (k_here; walk_at "fold")
  k_with "TupK" => (k_here; (with_reducible refine tk_e ?_))
  k_with "TupK" => (k_here; (with_reducible refine' tk_n ?k1_9 ?k2_9 ?k3_9 ?k4_9 ?k5_9 ?_); k_dflt ((case k3_9 => exact rfl); (case k4_9 => exact rfl); (case k1_9 => k_asm); (case k2_9 => exact rfl); (case k5_9 => exact rfl); k_whole))
  k_with "TupK" => (k_here; (with_reducible refine tk_i ?_); intro _ _)
  k_with "TupK" => (k_here; (first | with_reducible refine tk_2 ?_ | with_reducible refine tk_3 ?_ | with_reducible refine tk_4 ?_ | with_reducible refine tk_5 ?_ | with_reducible refine tk_6 ?_))
  k_with "uX" => (intro t9 h9 tk9 F9 N9; (try dsimp only); (try k_sweep); (try k_fold))
  k_with "uV" => (intro h9 tk9 F9 N9; (try dsimp only); (try k_sweep); (try k_fold))
  k_with "callWith ref" => (k_here; k_dflt (first | (refine' cw_K0 ?k1_9 ?k2_9 ?_; (case k1_9 => k_is); (case k2_9 => exact rfl); k_whole) | (refine' cw_K1 ?k1_9 ?k2_9 ?_; (case k1_9 => k_is); (case k2_9 => exact rfl); k_whole)))
  k_with "eval Call" => (k_here; (with_reducible refine' cg_K ?k1_9 ?k2_9 ?k3_9 ?k4_9 ?k5_9 ?k6_9 ?k7_9 ?k8_9 ?k9_9 ?_); k_dflt ((case k7_9 => exact rfl); (case k8_9 => exact rfl); (case k9_9 => exact rfl); (case k1_9 => k_asm); (case k2_9 => k_asm); (case k3_9 => k_asm); (case k4_9 => k_is); (case k5_9 => exact rfl); (case k6_9 => k_is); k_whole))
  k_with "eval Name" => (k_here; k_dflt (refine' nm9 ?k1_9 ?k2_9 ?k3_9 ?k4_9 ?k5_9 ?_; (case k4_9 => exact rfl); (case k3_9 => exact rfl); (case k1_9 => k_asm); (case k2_9 => exact rfl); (case k5_9 => exact rfl); k_whole))
  k_with "fold" => (k_whole; (fail_if_success (fail_if_success k_fold)); refine fold9 ?_; intro qk)
  k_with "eval Call" => (k_here; walk_at "fold")
  k_with "eval BinOp" => (k_here; walk_at "fold")
  k_with "ArgK" => (k_here; (with_reducible refine ak_e ?_))
  k_with "ArgK" => (k_here; (with_reducible refine' ak_n ?k1_9 ?k2_9 ?k3_9 ?k4_9 ?k5_9 ?_); k_dflt ((case k3_9 => exact rfl); (case k4_9 => exact rfl); (case k1_9 => k_asm); (case k2_9 => exact rfl); (case k5_9 => exact rfl); k_whole))
  k_with "ArgK" => (k_here; (first | with_reducible refine ak_i ?_ | with_reducible refine ak_s ?_); intro _ _)
  k_with "ArgK" => (k_here; (first | with_reducible refine ak_1 ?_ | with_reducible refine ak_2 ?_ | with_reducible refine ak_3 ?_ | with_reducible refine ak_4 ?_ | with_reducible refine ak_0 ?_))
  k_with "ne" => first | with_reducible assumption | exact ne_news (by with_reducible assumption) (by k_mem) (by k_mem) rfl | k_ne
  k_with "upd" => first | (refine' Upd.head ?a_9; (case a_9 => walk_at "nall")) | (refine' Upd.tail ?a_9 ?b_9; (case a_9 => walk_at "ne"); (case b_9 => walk_at "upd"))
  k_with "setAttr ref" => (k_here; k_dflt (refine' set_dict ?k1_9 ?k2_9 ?k3_9 ?k4_9 ?k5_9 ?k6_9 ?k7_9 ?k8_9 ?k9_9 ?k10_9 ?k11_9 ?k12_9 ?k13_9 ?_; (case k1_9 => k_asm); (case k2_9 => k_asm); (case k3_9 => k_asm); (case k4_9 => k_inst); (case k5_9 => exact rfl); (case k6_9 => k_is); (case k7_9 => k_is); (case k8_9 => k_is); (case k9_9 => k_is); (case k10_9 => k_get); (case k11_9 => k_put); (case k12_9 => walk_at "upd"); (case k13_9 => exact Nat.le_of_ble_eq_true rfl); k_whole); intro h' F' N'; (try k_sweep))
  k_with "nall" => first | exact List.forall_mem_nil _ | (refine' List.forall_mem_cons.mpr ⟨?a_9, ?b_9⟩; (case a_9 => walk_at "ne"); (case b_9 => walk_at "nall"))
  k_with "execs cons" => (k_here; (with_reducible refine gen_toks ?_); intro _)
  k_with "execs nil" => (k_here; (with_reducible refine gen_toks ?_); intro _)
  k_with "end eq" => (law_clear; (try simp only [decide_eq_true_eq, decide_eq_false_iff_not, ne_eq, Bool.not_eq_true, Bool.not_eq_false, bne_iff_ne, beq_iff_eq] at *); first | rfl | omega | (simp_all; done) | (simp_all; rfl) | ((simp_all); omega))
  k_with "CallK" => (k_here; (guard_target = CallK _ _ (Value.ref 22) _ _ _ _); k_dflt (refine' use_ctrX (c_day_of _ _ _) ?g9_9 ?n9_9 ?F9_9 ?N9_9 ?_; (case g9_9 => with_reducible assumption); (case n9_9 => exact rfl); (case F9_9 => k_asm); (case N9_9 => k_asm); k_whole); walk_at "uX")
  k_with "CallK" => (k_here; (guard_target = CallK _ _ (Value.ref 29) _ _ _ _); k_dflt (refine' use_ctrX (c_time_in_day _ _ _) ?g9_9 ?n9_9 ?F9_9 ?N9_9 ?_; (case g9_9 => with_reducible assumption); (case n9_9 => exact rfl); (case F9_9 => k_asm); (case N9_9 => k_asm); k_whole); walk_at "uX")
  k_with "CallK" => (k_here; (guard_target = CallK _ _ (Value.ref 36) _ _ _ _); k_dflt (refine' use_ctrV (c_leap _ _ _) ?g9_9 ?n9_9 ?F9_9 ?N9_9 ?_; (case g9_9 => with_reducible assumption); (case n9_9 => exact rfl); (case F9_9 => k_asm); (case N9_9 => k_asm); k_whole); walk_at "uV")
  k_with "CallK" => (k_here; (guard_target = CallK _ _ (Value.ref 43) _ _ _ _); k_dflt (refine' use_ctrX (c_dfy _ _ _) ?g9_9 ?n9_9 ?F9_9 ?N9_9 ?_; (case g9_9 => with_reducible assumption); (case n9_9 => exact rfl); (case F9_9 => k_asm); (case N9_9 => k_asm); k_whole); walk_at "uX")
  k_with "CallK" => (k_here; (guard_target = CallK _ _ (Value.ref 71) _ _ _ _); k_dflt (refine' use_ctrX (c_days_ahead _ _ _ _ ?p0_9 ?p1_9) ?g9_9 ?n9_9 ?F9_9 ?N9_9 ?_; (case g9_9 => with_reducible assumption); (case n9_9 => exact rfl); (case F9_9 => k_asm); (case N9_9 => k_asm); (case p0_9 => first | with_reducible assumption | decide | l_fact); (case p1_9 => first | with_reducible assumption | decide | l_fact); k_whole); walk_at "uX")
  k_with "CallK" => (k_here; (guard_target = CallK _ _ (Value.ref 50) _ _ _ _); k_dflt (refine' use_ctrX (c_year_of_day _ _ _ _ ?p0_9 ?p1_9) ?g9_9 ?n9_9 ?F9_9 ?N9_9 ?_; (case g9_9 => with_reducible assumption); (case n9_9 => exact rfl); (case F9_9 => k_asm); (case N9_9 => k_asm); (case p0_9 => assumption); (case p1_9 => assumption); k_whole); walk_at "uX")
  k_with "CallK" => (k_here; (guard_target = CallK _ _ (Value.ref 78) _ _ _ _); k_dflt (refine' use_ctrX (c_days_of_month _ _ _ _ _ ?p0_9 ?p1_9) ?g9_9 ?n9_9 ?F9_9 ?N9_9 ?_; (case g9_9 => with_reducible assumption); (case n9_9 => exact rfl); (case F9_9 => k_asm); (case N9_9 => k_asm); (case p0_9 => first | with_reducible assumption | decide | l_fact); (case p1_9 => first | with_reducible assumption | decide | l_fact); k_whole); walk_at "uX")
  k_with "CallK" => (k_here; (guard_target = CallK _ _ (Value.ref 57) _ _ _ _); k_dflt (refine' use_ctrX (c_year_of _ _ _ _ ?p0_9) ?g9_9 ?n9_9 ?F9_9 ?N9_9 ?_; (case g9_9 => with_reducible assumption); (case n9_9 => exact rfl); (case F9_9 => k_asm); (case N9_9 => k_asm); (case p0_9 => assumption); k_whole); walk_at "uX")
  k_with "CallK" => (k_here; (guard_target = CallK _ _ (Value.ref 64) _ _ _ _); k_dflt (refine' use_ctrX (c_day_in_year _ _ _ _ ?p0_9) ?g9_9 ?n9_9 ?F9_9 ?N9_9 ?_; (case g9_9 => with_reducible assumption); (case n9_9 => exact rfl); (case F9_9 => k_asm); (case N9_9 => k_asm); (case p0_9 => assumption); k_whole); walk_at "uX")
  k_with "CallK" => (k_here; (guard_target = CallK _ _ (Value.ref 85) _ _ _ _); k_dflt (refine' use_ctrX (c_month_of _ _ _ _ _ ?p0_9 ?p1_9) ?g9_9 ?n9_9 ?F9_9 ?N9_9 ?_; (case g9_9 => with_reducible assumption); (case n9_9 => exact rfl); (case F9_9 => k_asm); (case N9_9 => k_asm); (case p0_9 => assumption); (case p1_9 => assumption); k_whole); walk_at "uX")
  k_with "CallK" => (k_here; (guard_target = CallK _ _ (Value.ref 92) _ _ _ _); k_dflt (refine' use_ctrX (c_date_of _ _ _ _ _ ?p0_9 ?p1_9) ?g9_9 ?n9_9 ?F9_9 ?N9_9 ?_; (case g9_9 => with_reducible assumption); (case n9_9 => exact rfl); (case F9_9 => k_asm); (case N9_9 => k_asm); (case p0_9 => assumption); (case p1_9 => assumption); k_whole); walk_at "uX")
  k_with "CallK" => (k_here; (guard_target = CallK _ _ (Value.ref 99) _ _ _ _); k_dflt (refine' use_ctrX (c_week_day_of _ _ _) ?g9_9 ?n9_9 ?F9_9 ?N9_9 ?_; (case g9_9 => with_reducible assumption); (case n9_9 => exact rfl); (case F9_9 => k_asm); (case N9_9 => k_asm); k_whole); walk_at "uX")
  k_with "CallK" => (k_here; (guard_target = CallK _ _ (Value.ref 106) _ _ _ _); k_dflt (refine' use_ctrX (c_hour_of _ _ _) ?g9_9 ?n9_9 ?F9_9 ?N9_9 ?_; (case g9_9 => with_reducible assumption); (case n9_9 => exact rfl); (case F9_9 => k_asm); (case N9_9 => k_asm); k_whole); walk_at "uX")
  k_with "CallK" => (k_here; (guard_target = CallK _ _ (Value.ref 113) _ _ _ _); k_dflt (refine' use_ctrX (c_minute_of _ _ _) ?g9_9 ?n9_9 ?F9_9 ?N9_9 ?_; (case g9_9 => with_reducible assumption); (case n9_9 => exact rfl); (case F9_9 => k_asm); (case N9_9 => k_asm); k_whole); walk_at "uX")
  k_with "CallK" => (k_here; (guard_target = CallK _ _ (Value.ref 120) _ _ _ _); k_dflt (refine' use_ctrX (c_second_of _ _ _) ?g9_9 ?n9_9 ?F9_9 ?N9_9 ?_; (case g9_9 => with_reducible assumption); (case n9_9 => exact rfl); (case F9_9 => k_asm); (case N9_9 => k_asm); k_whole); walk_at "uX")
  k_with "CallK" => (k_here; (guard_target = CallK _ _ (Value.ref 127) _ _ _ _); k_dflt (refine' use_ctrX (c_ms_of _ _ _) ?g9_9 ?n9_9 ?F9_9 ?N9_9 ?_; (case g9_9 => with_reducible assumption); (case n9_9 => exact rfl); (case F9_9 => k_asm); (case N9_9 => k_asm); k_whole); walk_at "uX")
  k_with "compareOp In" => (k_here; (guard_target = wpAny _ _ (compareOp CmpOp.In Value.none (Value.ref _)) _ _ _); k_dflt (first | (refine' none_in4 ?N_9 ?a_9 ?n_9 ?_; (case N_9 => k_asm); (case a_9 => k_mem); (case n_9 => first | with_reducible assumption | ktr_units); k_whole) | (refine' none_in3 ?N_9 ?a_9 ?n_9 ?_; (case N_9 => k_asm); (case a_9 => k_mem); (case n_9 => first | with_reducible assumption | ktr_units); k_whole)); (try dsimp only))
  k_with "CallK" => (k_here; (guard_target = CallK _ _ (Value.ref 141) _ _ _ _); k_dflt (refine' use_ctrX (c_make_time _ _ _ _ _ _ _ _ _) ?g9_9 ?n9_9 ?F9_9 ?N9_9 ?_; (case g9_9 => with_reducible assumption); (case n9_9 => exact rfl); (case F9_9 => k_asm); (case N9_9 => k_asm); k_whole); walk_at "uX")
  k_with "CallK" => (k_here; (guard_target = CallK _ _ (Value.ref 148) _ _ _ _); k_dflt (refine' use_ctrX (c_make_day _ _ _ _ _ _ _) ?g9_9 ?n9_9 ?F9_9 ?N9_9 ?_; (case g9_9 => with_reducible assumption); (case n9_9 => exact rfl); (case F9_9 => k_asm); (case N9_9 => k_asm); k_whole); walk_at "uX")
  k_with "CallK" => (k_here; (guard_target = CallK _ _ (Value.ref 155) _ _ _ _); k_dflt (refine' use_ctrX (c_make_date _ _ _ _ _) ?g9_9 ?n9_9 ?F9_9 ?N9_9 ?_; (case g9_9 => with_reducible assumption); (case n9_9 => exact rfl); (case F9_9 => k_asm); (case N9_9 => k_asm); k_whole); walk_at "uX")
  k_with "CallK" => (k_here; (guard_target = CallK _ _ (Value.ref 176) _ _ _ _); k_dflt (refine' use_ctrX (c_local_of _ _ _ _ _) ?g9_9 ?n9_9 ?F9_9 ?N9_9 ?_; (case g9_9 => with_reducible assumption); (case n9_9 => exact rfl); (case F9_9 => k_asm); (case N9_9 => k_asm); k_whole); walk_at "uX")
  k_with "CallK" => (k_here; (guard_target = CallK _ _ (Value.ref 183) _ _ _ _); k_dflt (refine' use_ctrX (c_utc_of _ _ _ _ _) ?g9_9 ?n9_9 ?F9_9 ?N9_9 ?_; (case g9_9 => with_reducible assumption); (case n9_9 => exact rfl); (case F9_9 => k_asm); (case N9_9 => k_asm); k_whole); walk_at "uX")
  k_with "CallK" => (k_here; (guard_target = CallK _ _ (Value.ref 162) _ _ _ _); k_dflt (refine' use_ctr (c_time_clip _ _ _) ?g9_9 ?n9_9 ?F9_9 ?N9_9 ?_; (case g9_9 => with_reducible assumption); (case n9_9 => exact rfl); (case F9_9 => k_asm); (case N9_9 => k_asm); k_whole); intro r9 h9 tk9 hP9 F9 N9; (try dsimp only); (try k_sweep); (try k_fold))
  k_with "CallK" => (k_here; (guard_target = CallK _ _ (Value.ref 393) _ _ _ _); k_dflt (refine' use_ctrX (c_length _ _ _ _ _) ?g9_9 ?n9_9 ?F9_9 ?N9_9 ?_; (case g9_9 => with_reducible assumption); (case n9_9 => exact rfl); (case F9_9 => k_asm); (case N9_9 => k_asm); k_whole); walk_at "uX")
  trivial
local macro_rules | `(tactic| k_all) => `(tactic| with_reducible assumption)
theorem ru_L4_1 : True := by
  k_with "CallK" => (k_here; (guard_target = CallK _ _ (Value.ref 398) _ _ _ _); k_dflt (refine' use_ctrX (c_count _ _ _ _ _ _ _ ?p0_9 ?p1_9) ?g9_9 ?n9_9 ?F9_9 ?N9_9 ?_; (case g9_9 => with_reducible assumption); (case n9_9 => exact rfl); (case F9_9 => k_asm); (case N9_9 => k_asm); (case p0_9 => first | with_reducible assumption | decide | l_fact); (case p1_9 => first | with_reducible assumption | decide | l_fact); k_whole); walk_at "uX")
  k_with "CallK" => (k_here; (guard_target = CallK _ _ (Value.ref 367) _ _ _ _); k_dflt (refine' use_days (c_days _) ?g9_9 ?n9_9 ?F9_9 ?N9_9 ?_; (case g9_9 => with_reducible assumption); (case n9_9 => exact rfl); (case F9_9 => k_asm); (case N9_9 => k_asm); k_whole); intro q9 u9t1 u9t2 u9t3 u9t4 u9t5 u9t6 u9t7 c9 h9 tk9 F9 N9; (try dsimp only); (try k_sweep); (try k_fold))
  k_with "CallK" => (k_here; (guard_target = CallK _ _ (Value.ref 374) _ _ _ _); k_dflt (refine' use_months (c_months _) ?g9_9 ?n9_9 ?F9_9 ?N9_9 ?_; (case g9_9 => with_reducible assumption); (case n9_9 => exact rfl); (case F9_9 => k_asm); (case N9_9 => k_asm); k_whole); intro q9 u9t1 u9t2 u9t3 u9t4 u9t5 u9t6 u9t7 u9t8 u9t9 u9t10 u9t11 u9t12 c9 h9 tk9 F9 N9; (try dsimp only); (try k_sweep); (try k_fold))
  k_with "subscriptTail" => (k_here; (guard_target = wpAny _ _ (subscriptTail _ _ (Value.ref _) (Value.int _ _)) _ _ _); k_dflt (refine' days_item ?k1_9 ?k2_9 ?k3_9 ?k4_9 ?_ ?k5_9; (case k1_9 => k_asm); (case k2_9 => k_mem); (case k3_9 => exact (fm_b0 _ (by decide)).1); (case k4_9 => exact (fm_b0 _ (by decide)).2); (case k5_9 => with_unfolding_all rfl)); intro _)
  k_with "subscriptTail" => (k_here; (guard_target = wpAny _ _ (subscriptTail _ _ (Value.ref _) (Value.int _ _)) _ _ _); k_dflt (refine' months_item ?k1_9 ?k2_9 ?k3_9 ?k4_9 ?_ ?k5_9; (case k1_9 => k_asm); (case k2_9 => k_mem); (case k3_9 => assumption); (case k4_9 => assumption); (case k5_9 => with_unfolding_all rfl)); intro _)
  k_with "call builtin:str.join" => (k_here; (guard_target = wpAny _ _ (call (Value.builtin "str.join") [Value.str _ _, Value.ref _]) _ _ _); k_dflt (refine' join_mk3 ?j1_9 ?j2_9 ?j3_9 ?j4_9 ?j5_9 ?j6_9 ?_; (case j1_9 => exact News.isList (by k_asm) (by k_mem)); (case j2_9 => first | exact lit4 | exact lit1); (case j3_9 => decide); (case j4_9 => rw [figs_len]; decide); (case j5_9 => rw [figs_len]; decide); (case j6_9 => rw [figs_len]; decide)); intro _ _; (try dsimp only))
  k_with "my size" => (simp only [Str.length_append, mk_len, figs_len, item_len, osT_len, lit0, lit1, lit2, lit3, lit4, lit5, lit6, lit7, lit8, lit9, lit10, lit11, lit12, lit13, lit14, lit15, lit16, lit17, lit18, lit19, lit20, lit21, lit22, lit23, lit24, lit25, lit26, lit27, lit28, lit29, lit30, lit31, lit32, lit33, lit34, lit35, lit36, lit37, lit38, lit39, lit40, lit41, lit42, lit43, lit44, lit45, lit46, lit47, lit48, lit49, lit50, lit51, lit52, lit53, List.length_append, List.length_cons, List.length_nil]; omega)
  k_with "eval ListComp" => (k_here; (guard_target = wpAny _ _ (eval (Expr.ListComp _ [⟨_, Expr.Tuple _ _ _, _, _⟩] _ _) _) _ _ _); k_dflt (refine ListComp_Tup (F₀ := by k_asm) (by with_unfolding_all rfl) (by decide) (by rfl) (by decide) (by rfl) ?_))
  k_with "TupSrc" => (k_here; k_dflt (refine TupSrc.intro (by rfl) (by k_asm) (by k_asm) (by k_mem) (by exact Nat.le_of_ble_eq_true rfl) ?_; intro g'; lcg_lit))
  k_with "CompEnd" => (k_here; k_dflt (refine' LCg.CompEnd.intro ?cF_9 ?cN_9 _ sub_refl ?cO_9 ?cS_9 ?_; (case cF_9 => k_asm); (case cN_9 => k_asm); (case cO_9 => first | assumption | (with_unfolding_all assumption) | (simp only [LCg.Off3, and_true]; first | done | assumption)); (case cS_9 => exact ⟨_, by k_mem, rfl, _, rfl⟩)))
  k_with "CallK" => (k_here; (guard_target = CallK _ _ (Value.ref 410) _ _ _ _); k_dflt (refine' use_ctrMX (c_shown _ _ _ _ _ _ _ _ _ _ _ _ _ _ _ _ _ ?p0_9 ?p1_9 ?p2_9 ?p3_9 ?p4_9 ?p5_9 ?p6_9 ?p7_9 ?p8_9) ?g9_9 ?n9_9 ?F9_9 ?N9_9 ?q9_9 ?_; (case g9_9 => with_reducible assumption); (case n9_9 => exact rfl); (case F9_9 => k_asm); (case N9_9 => k_asm); (case q9_9 => k_mem); (case p0_9 => first | assumption | l_fact); (case p1_9 => first | assumption | l_fact); (case p2_9 => first | assumption | l_fact); (case p3_9 => first | assumption | l_fact); (case p4_9 => first | assumption | l_fact); (case p5_9 => first | assumption | l_fact); (case p6_9 => first | assumption | l_fact); (case p7_9 => first | assumption | l_fact); (case p8_9 => first | assumption | l_fact); k_whole); walk_at "uX")
  trivial
set_option maxRecDepth 100000
set_option maxHeartbeats 8000000
theorem c_iso_N (w : World) (l : List Nat) (t : Tok) (h : OkN l) : Ctr w 346 6 [.str (mk l) t] (fun r => r = .none) := by
  have C := c_parse_iso w l t (by have := h.1; omega) h.2.1
  rw [h.2.2] at C
  exact C
noncomputable def anyInt (r : Value) : Prop := ∃ i t, r = .int i t
theorem c_iso_S (w : World) (l : List Nat) (t : Tok) (h : OkS l) : Ctr w 346 6 [.str (mk l) t] anyInt := by
  obtain ⟨h1, h2, v, h3⟩ := h
  have C := c_parse_iso w l t (by omega) h2
  rw [h3] at C
  intro news A h₀ L m hh g d k o Q E G F N hret
  exact C news A h₀ L m hh g d k o Q E G F N fun r h' k' n' hp => hret r h' k' n' ⟨⟨v, hp.1⟩, hp.2⟩
theorem use_any {w : World} {f : Addr} {n k : Nat} {vs : List Value} {news : Led} {A : Around} {h₀ h : Heap} {L : Addr} {m : Str → Option Value} {g : Array GenState} {d : Drawn} {tk : Nat} {o : OsState} {Q E : Value → Shared → Prop} (C : Ctr w f n vs anyInt) (G : Pl w k A h₀ L) (hn : Nat.ble n k = true) (F : Fr h₀ L h m) (N : News h₀ L h news)
    (hret : ∀ (i : Int) (t : Tok) (h' : Heap) (tk' : Nat), Fr h₀ L h' m → News h₀ L h' news → Q (.int i t) ⟨h', g, d, tk', o⟩) : CallK w A (.ref f) vs Q E ⟨h, g, d, tk, o⟩ :=
  use_ctr C G hn F N (fun r h' tk' hp F' N' => by obtain ⟨i, t, rfl⟩ := hp; exact hret i t h' tk' F' N')
theorem ru_L4_2 : True := by
  k_with "CallK" => (k_here; (guard_target = CallK _ _ (Value.ref 415) _ _ _ _); k_dflt (refine' use_ctrMX (c_iso _ _ _ _ _ _ _ _ _ _ _ _ _ _ _ _ _ _ ?p0_9 ?p1_9 ?p2_9 ?p3_9 ?p4_9 ?p5_9 ?p6_9 ?p7_9) ?g9_9 ?n9_9 ?F9_9 ?N9_9 ?q9_9 ?_; (case g9_9 => with_reducible assumption); (case n9_9 => exact rfl); (case F9_9 => k_asm); (case N9_9 => k_asm); (case q9_9 => k_mem); (case p0_9 => first | with_reducible assumption | decide | l_fact); (case p1_9 => first | decide | with_reducible assumption | l_fact); (case p2_9 => first | decide | with_reducible assumption | l_fact); (case p3_9 => first | decide | with_reducible assumption | l_fact); (case p4_9 => first | decide | with_reducible assumption | l_fact); (case p5_9 => first | decide | with_reducible assumption | l_fact); (case p6_9 => with_reducible (first | exact lit33 | exact lit9 | exact lit10 | exact lit11 | exact lit12 | exact lit13 | exact lit14 | exact lit15 | exact lit16 | exact lit0 | exact lit17 | exact lit18 | exact lit19 | exact rfl)); (case p7_9 => first | decide | assumption); k_whole); walk_at "uX")
  k_with "CallK" => (k_here; (guard_target = CallK _ _ (Value.ref 346) _ _ _ _); k_dflt (refine' use_ctrV (c_iso_N _ _ _ ?p0_9) ?g9_9 ?n9_9 ?F9_9 ?N9_9 ?_; (case g9_9 => with_reducible assumption); (case n9_9 => exact rfl); (case F9_9 => k_asm); (case N9_9 => k_asm); (case p0_9 => with_reducible assumption); k_whole); walk_at "uV")
  k_with "CallK" => (k_here; (guard_target = CallK _ _ (Value.ref 346) _ _ _ _); k_dflt (refine' use_any (c_iso_S _ _ _ ?p0_9) ?g9_9 ?n9_9 ?F9_9 ?N9_9 ?_; (case g9_9 => with_reducible assumption); (case n9_9 => exact rfl); (case F9_9 => k_asm); (case N9_9 => k_asm); (case p0_9 => with_reducible assumption); k_whole); intro i9 t9 h9 tk9 F9 N9; (try dsimp only); (try k_sweep); (try k_fold))
  trivial
noncomputable abbrev tup3 (a b c : Int) (t1 t2 t3 : Tok) (n : Nat) : Obj := { cls := .type "tuple", data := .seq #[.int a t1, .int b t2, .int c t3] n }
theorem ru_L4_3 : True := by
  k_with "exec For Tuple Call" => (k_here; (rename Fr _ _ _ _ => lF'); (with_unfolding_all refine' For_turns lF' ?_; k_whole))
  trivial
noncomputable def J1 (nw : List (Addr × Obj)) (a : Itm) : Prop := ∃ (k : Int) (q : Addr) (y m d h i s : Int) (t1 t2 t3 t4 t5 t6 : Tok) (n : Nat), a = .pair (fun t => .int k t) (.ref q) ∧ (q, tup6 y m d h i s t1 t2 t3 t4 t5 t6 n) ∈ nw ∧ 0 ≤ y ∧ -1 ≤ m ∧ 0 ≤ d ∧ 0 ≤ h ∧ 0 ≤ i ∧ 0 ≤ s ∧ Par k (isI y m d h i s [46, 48, 48, 48, 90])
noncomputable def J2 (y m : Int) (_ : List (Addr × Obj)) (a : Itm) : Prop := ∃ (k : Int) (x : Str) (b : List Nat) (t : Tok), a = .pair (fun t => .int k t) (.str x t) ∧ x = mk b ∧ b.length ≤ 20 ∧ Par k (isI y m 1 3 4 5 b)
theorem off_of {news : List (Addr × Obj)} {I : Addr} {ws : List (Addr × String)} (h : AllLt I news) (hw : ∀ b ∈ ws.map (·.1), I ≤ b) : ∀ p ∈ news, ∀ b ∈ ws.map (·.1), p.1 ≠ b := fun p hp b hb => Nat.ne_of_lt (Nat.lt_of_lt_of_le (ktn_ltOf h p hp) (hw b hb))
theorem off_its {nw : List (Addr × Obj)} {a b : Addr} {na nb : String} {oa ob : Obj} (h : ∀ p ∈ nw, ∀ c ∈ [(a, na), (b, nb)].map (·.1), p.1 ≠ c) : ∀ p ∈ nw, ∀ q ∈ [(a, oa), (b, ob)], p.1 ≠ q.1 := fun p hp q hq => by
  simp only [List.mem_cons, List.not_mem_nil, or_false] at hq
  rcases hq with rfl | rfl
  · exact h p hp _ (by simp)
  · exact h p hp _ (by simp)
theorem ws_ge {I : Addr} {na nb : String} : ∀ b ∈ [(I + 1, na), (I, nb)].map (·.1), I ≤ b := fun b hb => by
  simp only [List.map_cons, List.map_nil, List.mem_cons, List.not_mem_nil, or_false] at hb
  rcases hb with rfl | rfl
  · exact Nat.le_succ _
  · exact Nat.le_refl _
theorem add3 {h₀ h : Heap} {L : Addr} {a b p : Addr × Obj} {nw : List (Addr × Obj)} (N : News h₀ L h ([a, b] ++ nw)) (hp : p ∈ nw) : News h₀ L h (a :: b :: p :: nw) := fun q hq => N q (by
  simp only [List.mem_cons, List.cons_append, List.nil_append] at hq ⊢
  rcases hq with hq | hq | rfl | hq
  · exact .inl hq
  · exact .inr (.inl hq)
  · exact .inr (.inr hp)
  · exact .inr (.inr hq))
theorem j2 {y m k : Int} {x : Str} {b : List Nat} {t : Tok} {nw : List (Addr × Obj)} (hx : x = mk b) (hb : b.length ≤ 20) (hp : Par k (isI y m 1 3 4 5 b)) : J2 y m nw (.pair (fun t => .int k t) (.str x t)) := ⟨k, x, b, t, rfl, hx, hb, hp⟩
theorem all_c {P : Itm → Prop} {a : Itm} {r : List Itm} (h : P a) (hr : ∀ b ∈ r, P b) : ∀ b ∈ a :: r, P b := List.forall_mem_cons.mpr ⟨h, hr⟩
theorem j1 {k : Int} {q : Addr} {y m d h i s : Int} {t1 t2 t3 t4 t5 t6 : Tok} {n : Nat} {nw : List (Addr × Obj)} (hm : (q, tup6 y m d h i s t1 t2 t3 t4 t5 t6 n) ∈ nw) (y0 : 0 ≤ y) (m0 : -1 ≤ m) (d0 : 0 ≤ d) (h0 : 0 ≤ h) (i0 : 0 ≤ i) (s0 : 0 ≤ s) (hp : Par k (isI y m d h i s [46, 48, 48, 48, 90])) : J1 nw (.pair (fun t => .int k t) (.ref q)) := ⟨k, q, y, m, d, h, i, s, t1, t2, t3, t4, t5, t6, n, rfl, hm, y0, m0, d0, h0, i0, s0, hp⟩
theorem ru_L4_4 : True := by
  k_with "all items" => (intro _ hm9; exact absurd hm9 (by simp))
  k_with "all items" => (refine all_c (j2 (by with_reducible (first | exact lit9 | exact lit10 | exact lit11 | exact lit12 | exact lit13 | exact lit14 | exact lit15 | exact lit16 | exact lit0 | exact lit17 | exact lit18 | exact lit19)) (by decide) (by first | exact Or.inl ⟨by decide, by with_reducible assumption⟩ | exact Or.inr ⟨by decide, by with_reducible assumption⟩)) ?_; walk_at "all items")
  k_with "all items" => (refine all_c (j1 (by k_mem) (by l_fact) (by first | decide | l_fact) (by first | decide | l_fact) (by first | decide | l_fact) (by first | decide | l_fact) (by first | decide | l_fact) (by first | exact Or.inl ⟨by decide, by with_reducible assumption⟩ | exact Or.inr ⟨by decide, by with_reducible assumption⟩)) ?_; walk_at "all items")
  trivial
theorem all_n {P : Itm → Prop} : ∀ b ∈ ([] : List Itm), P b := fun _ h => nomatch h
noncomputable def Hold (P : Prop) : Prop := P
theorem hold {P : Prop} (h : Hold P) : P := h
theorem unhold {P : Prop} (h : P) : Hold P := h
theorem ru_L4_5 : True := by
  k_with "ItemsRest" => (k_here; refine hold ?_)
  k_with "UnrEndW" => (k_here; refine hold ?_)
  k_with "UnrEnd" => (k_here; refine hold ?_)
  trivial
local macro_rules | `(tactic| k_mem) => `(tactic| with_reducible assumption)
theorem par_x1 {k : Int} (p : k.fmod 2 = 0) (a : (true != (k.fmod 2 == 0)) = true) : False := by rw [p] at a; simp at a
theorem par_x2 {k : Int} (p : k.fmod 2 ≠ 0) (a : (false != (k.fmod 2 == 0)) = true) : False := by simp [p] at a
theorem turn_end {h₀ h h' : Heap} {L : Addr} {g : Array GenState} {d : Drawn} {os : OsState} {tk tk' : Nat} {n1 n2 : Str} {m₀ : Str → Option Value} {va vb vc vd : Option Value} {a b : Addr × Obj} {nw all : List (Addr × Obj)} (F : Fr h₀ L h' (fun y => if y = n2 then vd else if y = n1 then vc else two n1 n2 m₀ va vb y)) (N : News h₀ L h' all) (hs : ∀ p ∈ [a, b] ++ nw, p ∈ all) (o : ∀ p ∈ nw, ∀ q ∈ [a, b], p.1 ≠ q.1) :
    Hold (UnrEndW h₀ L ⟨h, g, d, tk, os⟩ [a, b] (fun m' n' => n' = nw ∧ ∃ va vb, m' = two n1 n2 m₀ va vb) ⟨h', g, d, tk', os⟩) := by
  rw [two_two] at F
  exact ⟨h', tk', _, nw, rfl, F, fun q hq => N q (hs q hq), o, rfl, _, _, rfl⟩
theorem c_bounds (w : World) (q : Addr) (y m h i s : Int) (t t' t1 t2 t3 : Tok) (n : Nat) (y0 : 0 ≤ y) (m0 : 0 ≤ m) (h0 : 0 ≤ h) (i0 : 0 ≤ i) (s0 : 0 ≤ s) (l0 : 0 ≤ lenF y m) (hb : BR y m h i s) :
    CtrM w 422 7 [.int y t, .int m t', .ref q] q (tup3 h i s t1 t2 t3 n) (bolv true) := by
  obtain ⟨f0, f1, f2, f3, f4, f5, f6, f7, f8, f9, f10, f11, f12, f13, f14, f15, f16, f17, f18, f19, f20, f21, f22, f23, f24, f25, f26, f27⟩ := hb
  k_dflt (refine' ctrM_enter (bs := [(Str.ofString "clock", _), (Str.ofString "month", _), (Str.ofString "year", _)]) ?k6 ?k7 ?kb ?kB ?kr ?c2 ?c3 ?c4 ?c5 ?_; (case k6 => k_is); (case k7 => k_is); (case kb => exact rfl); (case kB => exact rfl); (case kr => exact rfl); (case c2 => exact rfl); (case c3 => exact rfl); (case c4 => exact rfl); (case c5 => decide))
  intro mean mg mb dp un gd outer A₀ base g' L' h9 gs9 d9 tk9 o9 Q
  intro A9 P9 u9 B' F9 X' N' T' hdp hun hret
  walk_at "steps"
  refine unhold ?_
  refine items_of (Str.ofString "at") (Str.ofString "fields") J1 ?hall ?hk ?hoff ?turn ?fin
  case hk => k_subL
  case hoff => exact off_of (by simp only [AllLt, and_true]; assumption) ws_ge
  case hall => walk_at "all items"
  case turn =>
    clear hret
    intro nw a v h9 tk9 va vb hJ ho hv F9
    obtain ⟨k, q9, y9, m9, d9, h9', i9, s9, u1, u2, u3, u4, u5, u6, n9, rfl, hq9, b1, b2, b3, b4, b5, b6, hp⟩ := hJ
    obtain ⟨T, t9, rfl, hT⟩ := hv
    dsimp only at hT
    refine AllObj.cons fun oe ce => AllObj.cons fun oi ci => AllObj.nil fun N9 => ?_
    replace N9 := add3 N9 hq9
    dsimp only at N9
    rcases hp with ⟨p1, p2⟩ | ⟨p1, p2⟩ <;> walk_at "steps"
    all_goals first
      | (guard_target =~ Q _ _; exact (par_x1 p1 (by with_reducible assumption)).elim)
      | (guard_target =~ Q _ _; exact (par_x2 p1 (by with_reducible assumption)).elim)
      | (refine' turn_end ?eF ?eN ?eS ?eO; (case eO => exact off_its ho); (case eF => k_asm); (case eN => k_asm); (case eS => intro p hp; simp only [List.mem_cons, List.cons_append, List.nil_append] at hp ⊢; rcases hp with hp | hp | hp <;> simp [hp]))
      | skip
  case fin =>
    intro h9 tk9 va vb F9 N9
    walk_at "steps"
    refine unhold ?_
    refine items_of (Str.ofString "at") (Str.ofString "tail") (J2 y m) ?hall ?hk ?hoff ?turn ?fin
    case hk => k_subL
    case hoff => exact off_of (by simp only [AllLt, and_true]; assumption) ws_ge
    case hall => exact all_c (j2 lit9 (by decide) (Or.inl ⟨rfl, f16⟩)) (all_c (j2 lit10 (by decide) (Or.inr ⟨by decide, f17⟩)) (all_c (j2 lit11 (by decide) (Or.inl ⟨rfl, f18⟩)) (all_c (j2 lit12 (by decide) (Or.inr ⟨by decide, f19⟩)) (all_c (j2 lit13 (by decide) (Or.inl ⟨rfl, f20⟩)) (all_c (j2 lit14 (by decide) (Or.inr ⟨by decide, f21⟩)) (all_c (j2 lit15 (by decide) (Or.inl ⟨rfl, f22⟩)) (all_c (j2 lit16 (by decide) (Or.inr ⟨by decide, f23⟩)) (all_c (j2 lit0 (by decide) (Or.inl ⟨rfl, f24⟩)) (all_c (j2 lit17 (by decide) (Or.inr ⟨by decide, f25⟩)) (all_c (j2 lit18 (by decide) (Or.inl ⟨rfl, f26⟩)) (all_c (j2 lit19 (by decide) (Or.inr ⟨by decide, f27⟩)) (all_n))))))))))))
    case turn =>
      clear hret
      intro nw a v h9 tk9 va vb hJ ho hv F9
      obtain ⟨k, x9, b, u1, rfl, rfl, b1, hp⟩ := hJ
      obtain ⟨T, t9, rfl, hT⟩ := hv
      dsimp only at hT
      refine AllObj.cons fun oe ce => AllObj.cons fun oi ci => AllObj.nil fun N9 => ?_
      (simp only [List.cons_append, List.nil_append] at N9)
      rcases hp with ⟨p1, p2⟩ | ⟨p1, p2⟩ <;> walk_at "steps"
      all_goals first
        | (guard_target =~ Q _ _; exact (par_x1 p1 (by with_reducible assumption)).elim)
        | (guard_target =~ Q _ _; exact (par_x2 p1 (by with_reducible assumption)).elim)
        | (refine' turn_end ?eF ?eN ?eS ?eO; (case eO => exact off_its ho); (case eF => k_asm); (case eN => k_asm); (case eS => intro p hp; simp only [List.mem_cons, List.cons_append, List.nil_append] at hp ⊢; rcases hp with hp | hp | hp <;> simp [hp]))
        | skip
    case fin =>
      intro h9 tk9 va vb F9 N9
      walk_at "steps"
      refine hret _ _ _ rfl (by k_asm) (drop_news (by assumption) ?_)
      repeat (first | exact sub_refl | refine sub_skip ?_)
end

section -- L5
theorem rst_L5 : True := by
  w_top off
  trivial
open PySem PySem.W PySem.Calls PyProof.Rows
theorem ru_L5_0 : True := by
  k_with_none
  k_with "steps" => (repeat' (first | k_unfold | (k_end; kc_close) | walk1 | (dsimp only; walk1) | (leave1; (try dsimp only)) | fail "no step"))
  k_with "eval Constant int" => (k_here; (with_reducible refine ct9 ?_); intro _ _)
  k_with "eval Constant str" => (k_here; (with_reducible refine cs9 ?_); intro _ _)
  k_with "binaryOp Add int int" => (k_here; (with_reducible refine ar_add ?_); intro _ _)
  k_with "binaryOp Sub int int" => (k_here; (with_reducible refine ar_sub ?_); intro _ _)
  k_with "binaryOp Mult int int" => (k_here; (with_reducible refine' ar_mul ?_ ?m9_9); k_dflt (case m9_9 => mul_fits); intro _ _)
  k_with "binaryOp FloorDiv int int" => (k_here; (with_reducible refine' ar_div ?b9_9 ?_ ?p9_9); k_dflt (case b9_9 => decide); k_dflt (case p9_9 => first | exact PyProof.noPylong_of_log2 (by decide +kernel) | exact PyProof.noPylong_small (by omega)); intro _ _)
  k_with "binaryOp Mod int int" => (k_here; (with_reducible refine ar_mod ?b9_9 ?_); (case b9_9 => first | decide | omega | assumption); intro _ _)
  k_with "inplaceOp Add int int" => (k_here; (with_reducible refine ar_iadd ?_); intro _ _)
  k_with "storeName" => (k_here; k_dflt (refine' st9 ?F_9 ?N_9 ?_ ?a_9 ?b_9; (case F_9 => with_reducible assumption); (case N_9 => with_reducible assumption); (case a_9 => exact rfl); (case b_9 => exact rfl); k_whole); intro h9 k9 F9 N9; (try k_sweep))
  k_with "newTuple" => (k_here; kup_bare; k_dflt (refine' nt9 ?F_9 ?N_9 ?_ ?z_9; (case F_9 => with_reducible assumption); (case N_9 => with_reducible assumption); (case z_9 => kmk_size)); intro D9 h9 F9 N9; (try k_sweep))
  k_with "eval Tuple" => (k_here; k_whole; (with_reducible refine tk_go ?h9_9 ?_); k_dflt (case h9_9 => exact rfl))
  k_with "eval Tuple" => (k_here; walk_at "fold")
  k_with "TupK" => (k_here; (with_reducible refine tk_e ?_))
  k_with "TupK" => (k_here; (with_reducible refine' tk_n ?k1_9 ?k2_9 ?k3_9 ?k4_9 ?k5_9 ?_); k_dflt ((case k3_9 => exact rfl); (case k4_9 => exact rfl); (case k1_9 => k_asm); (case k2_9 => exact rfl); (case k5_9 => exact rfl); k_whole))
  k_with "TupK" => (k_here; (with_reducible refine tk_i ?_); intro _ _)
  k_with "TupK" => (k_here; (first | with_reducible refine tk_2 ?_ | with_reducible refine tk_3 ?_ | with_reducible refine tk_4 ?_ | with_reducible refine tk_5 ?_ | with_reducible refine tk_6 ?_))
  k_with "uX" => (intro t9 h9 tk9 F9 N9; (try dsimp only); (try k_sweep); (try k_fold))
  k_with "uV" => (intro h9 tk9 F9 N9; (try dsimp only); (try k_sweep); (try k_fold))
  k_with "callWith ref" => (k_here; k_dflt (first | (refine' cw_K0 ?k1_9 ?k2_9 ?_; (case k1_9 => k_is); (case k2_9 => exact rfl); k_whole) | (refine' cw_K1 ?k1_9 ?k2_9 ?_; (case k1_9 => k_is); (case k2_9 => exact rfl); k_whole)))
  k_with "eval Call" => (k_here; (with_reducible refine' cg_K ?k1_9 ?k2_9 ?k3_9 ?k4_9 ?k5_9 ?k6_9 ?k7_9 ?k8_9 ?k9_9 ?_); k_dflt ((case k7_9 => exact rfl); (case k8_9 => exact rfl); (case k9_9 => exact rfl); (case k1_9 => k_asm); (case k2_9 => k_asm); (case k3_9 => k_asm); (case k4_9 => k_is); (case k5_9 => exact rfl); (case k6_9 => k_is); k_whole))
  k_with "eval Name" => (k_here; k_dflt (refine' nm9 ?k1_9 ?k2_9 ?k3_9 ?k4_9 ?k5_9 ?_; (case k4_9 => exact rfl); (case k3_9 => exact rfl); (case k1_9 => k_asm); (case k2_9 => exact rfl); (case k5_9 => exact rfl); k_whole))
  k_with "fold" => (k_whole; (fail_if_success (fail_if_success k_fold)); refine fold9 ?_; intro qk)
  k_with "eval Call" => (k_here; walk_at "fold")
  k_with "eval BinOp" => (k_here; walk_at "fold")
  k_with "ArgK" => (k_here; (with_reducible refine ak_e ?_))
  k_with "ArgK" => (k_here; (with_reducible refine' ak_n ?k1_9 ?k2_9 ?k3_9 ?k4_9 ?k5_9 ?_); k_dflt ((case k3_9 => exact rfl); (case k4_9 => exact rfl); (case k1_9 => k_asm); (case k2_9 => exact rfl); (case k5_9 => exact rfl); k_whole))
  k_with "ArgK" => (k_here; (first | with_reducible refine ak_i ?_ | with_reducible refine ak_s ?_); intro _ _)
  k_with "ArgK" => (k_here; (first | with_reducible refine ak_1 ?_ | with_reducible refine ak_2 ?_ | with_reducible refine ak_3 ?_ | with_reducible refine ak_4 ?_ | with_reducible refine ak_0 ?_))
  k_with "ne" => first | with_reducible assumption | exact ne_news (by with_reducible assumption) (by k_mem) (by k_mem) rfl | k_ne
  k_with "upd" => first | (refine' Upd.head ?a_9; (case a_9 => walk_at "nall")) | (refine' Upd.tail ?a_9 ?b_9; (case a_9 => walk_at "ne"); (case b_9 => walk_at "upd"))
  k_with "setAttr ref" => (k_here; k_dflt (refine' set_dict ?k1_9 ?k2_9 ?k3_9 ?k4_9 ?k5_9 ?k6_9 ?k7_9 ?k8_9 ?k9_9 ?k10_9 ?k11_9 ?k12_9 ?k13_9 ?_; (case k1_9 => k_asm); (case k2_9 => k_asm); (case k3_9 => k_asm); (case k4_9 => k_inst); (case k5_9 => exact rfl); (case k6_9 => k_is); (case k7_9 => k_is); (case k8_9 => k_is); (case k9_9 => k_is); (case k10_9 => k_get); (case k11_9 => k_put); (case k12_9 => walk_at "upd"); (case k13_9 => exact Nat.le_of_ble_eq_true rfl); k_whole); intro h' F' N'; (try k_sweep))
  k_with "nall" => first | exact List.forall_mem_nil _ | (refine' List.forall_mem_cons.mpr ⟨?a_9, ?b_9⟩; (case a_9 => walk_at "ne"); (case b_9 => walk_at "nall"))
  k_with "execs cons" => (k_here; (with_reducible refine gen_toks ?_); intro _)
  k_with "execs nil" => (k_here; (with_reducible refine gen_toks ?_); intro _)
  k_with "end eq" => (law_clear; (try simp only [decide_eq_true_eq, decide_eq_false_iff_not, ne_eq, Bool.not_eq_true, Bool.not_eq_false, bne_iff_ne, beq_iff_eq] at *); first | rfl | omega | (simp_all; done) | (simp_all; rfl) | ((simp_all); omega))
  k_with "CallK" => (k_here; (guard_target = CallK _ _ (Value.ref 22) _ _ _ _); k_dflt (refine' use_ctrX (c_day_of _ _ _) ?g9_9 ?n9_9 ?F9_9 ?N9_9 ?_; (case g9_9 => with_reducible assumption); (case n9_9 => exact rfl); (case F9_9 => k_asm); (case N9_9 => k_asm); k_whole); walk_at "uX")
  k_with "CallK" => (k_here; (guard_target = CallK _ _ (Value.ref 29) _ _ _ _); k_dflt (refine' use_ctrX (c_time_in_day _ _ _) ?g9_9 ?n9_9 ?F9_9 ?N9_9 ?_; (case g9_9 => with_reducible assumption); (case n9_9 => exact rfl); (case F9_9 => k_asm); (case N9_9 => k_asm); k_whole); walk_at "uX")
  k_with "CallK" => (k_here; (guard_target = CallK _ _ (Value.ref 36) _ _ _ _); k_dflt (refine' use_ctrV (c_leap _ _ _) ?g9_9 ?n9_9 ?F9_9 ?N9_9 ?_; (case g9_9 => with_reducible assumption); (case n9_9 => exact rfl); (case F9_9 => k_asm); (case N9_9 => k_asm); k_whole); walk_at "uV")
  k_with "CallK" => (k_here; (guard_target = CallK _ _ (Value.ref 43) _ _ _ _); k_dflt (refine' use_ctrX (c_dfy _ _ _) ?g9_9 ?n9_9 ?F9_9 ?N9_9 ?_; (case g9_9 => with_reducible assumption); (case n9_9 => exact rfl); (case F9_9 => k_asm); (case N9_9 => k_asm); k_whole); walk_at "uX")
  k_with "CallK" => (k_here; (guard_target = CallK _ _ (Value.ref 71) _ _ _ _); k_dflt (refine' use_ctrX (c_days_ahead _ _ _ _ ?p0_9 ?p1_9) ?g9_9 ?n9_9 ?F9_9 ?N9_9 ?_; (case g9_9 => with_reducible assumption); (case n9_9 => exact rfl); (case F9_9 => k_asm); (case N9_9 => k_asm); (case p0_9 => first | with_reducible assumption | decide | l_fact); (case p1_9 => first | with_reducible assumption | decide | l_fact); k_whole); walk_at "uX")
  k_with "CallK" => (k_here; (guard_target = CallK _ _ (Value.ref 50) _ _ _ _); k_dflt (refine' use_ctrX (c_year_of_day _ _ _ _ ?p0_9 ?p1_9) ?g9_9 ?n9_9 ?F9_9 ?N9_9 ?_; (case g9_9 => with_reducible assumption); (case n9_9 => exact rfl); (case F9_9 => k_asm); (case N9_9 => k_asm); (case p0_9 => assumption); (case p1_9 => assumption); k_whole); walk_at "uX")
  k_with "CallK" => (k_here; (guard_target = CallK _ _ (Value.ref 78) _ _ _ _); k_dflt (refine' use_ctrX (c_days_of_month _ _ _ _ _ ?p0_9 ?p1_9) ?g9_9 ?n9_9 ?F9_9 ?N9_9 ?_; (case g9_9 => with_reducible assumption); (case n9_9 => exact rfl); (case F9_9 => k_asm); (case N9_9 => k_asm); (case p0_9 => first | with_reducible assumption | decide | l_fact); (case p1_9 => first | with_reducible assumption | decide | l_fact); k_whole); walk_at "uX")
  k_with "CallK" => (k_here; (guard_target = CallK _ _ (Value.ref 57) _ _ _ _); k_dflt (refine' use_ctrX (c_year_of _ _ _ _ ?p0_9) ?g9_9 ?n9_9 ?F9_9 ?N9_9 ?_; (case g9_9 => with_reducible assumption); (case n9_9 => exact rfl); (case F9_9 => k_asm); (case N9_9 => k_asm); (case p0_9 => assumption); k_whole); walk_at "uX")
  k_with "CallK" => (k_here; (guard_target = CallK _ _ (Value.ref 64) _ _ _ _); k_dflt (refine' use_ctrX (c_day_in_year _ _ _ _ ?p0_9) ?g9_9 ?n9_9 ?F9_9 ?N9_9 ?_; (case g9_9 => with_reducible assumption); (case n9_9 => exact rfl); (case F9_9 => k_asm); (case N9_9 => k_asm); (case p0_9 => assumption); k_whole); walk_at "uX")
  k_with "CallK" => (k_here; (guard_target = CallK _ _ (Value.ref 85) _ _ _ _); k_dflt (refine' use_ctrX (c_month_of _ _ _ _ _ ?p0_9 ?p1_9) ?g9_9 ?n9_9 ?F9_9 ?N9_9 ?_; (case g9_9 => with_reducible assumption); (case n9_9 => exact rfl); (case F9_9 => k_asm); (case N9_9 => k_asm); (case p0_9 => assumption); (case p1_9 => assumption); k_whole); walk_at "uX")
  k_with "CallK" => (k_here; (guard_target = CallK _ _ (Value.ref 92) _ _ _ _); k_dflt (refine' use_ctrX (c_date_of _ _ _ _ _ ?p0_9 ?p1_9) ?g9_9 ?n9_9 ?F9_9 ?N9_9 ?_; (case g9_9 => with_reducible assumption); (case n9_9 => exact rfl); (case F9_9 => k_asm); (case N9_9 => k_asm); (case p0_9 => assumption); (case p1_9 => assumption); k_whole); walk_at "uX")
  k_with "CallK" => (k_here; (guard_target = CallK _ _ (Value.ref 99) _ _ _ _); k_dflt (refine' use_ctrX (c_week_day_of _ _ _) ?g9_9 ?n9_9 ?F9_9 ?N9_9 ?_; (case g9_9 => with_reducible assumption); (case n9_9 => exact rfl); (case F9_9 => k_asm); (case N9_9 => k_asm); k_whole); walk_at "uX")
  k_with "CallK" => (k_here; (guard_target = CallK _ _ (Value.ref 106) _ _ _ _); k_dflt (refine' use_ctrX (c_hour_of _ _ _) ?g9_9 ?n9_9 ?F9_9 ?N9_9 ?_; (case g9_9 => with_reducible assumption); (case n9_9 => exact rfl); (case F9_9 => k_asm); (case N9_9 => k_asm); k_whole); walk_at "uX")
  k_with "CallK" => (k_here; (guard_target = CallK _ _ (Value.ref 113) _ _ _ _); k_dflt (refine' use_ctrX (c_minute_of _ _ _) ?g9_9 ?n9_9 ?F9_9 ?N9_9 ?_; (case g9_9 => with_reducible assumption); (case n9_9 => exact rfl); (case F9_9 => k_asm); (case N9_9 => k_asm); k_whole); walk_at "uX")
  k_with "CallK" => (k_here; (guard_target = CallK _ _ (Value.ref 120) _ _ _ _); k_dflt (refine' use_ctrX (c_second_of _ _ _) ?g9_9 ?n9_9 ?F9_9 ?N9_9 ?_; (case g9_9 => with_reducible assumption); (case n9_9 => exact rfl); (case F9_9 => k_asm); (case N9_9 => k_asm); k_whole); walk_at "uX")
  k_with "CallK" => (k_here; (guard_target = CallK _ _ (Value.ref 127) _ _ _ _); k_dflt (refine' use_ctrX (c_ms_of _ _ _) ?g9_9 ?n9_9 ?F9_9 ?N9_9 ?_; (case g9_9 => with_reducible assumption); (case n9_9 => exact rfl); (case F9_9 => k_asm); (case N9_9 => k_asm); k_whole); walk_at "uX")
  k_with "compareOp In" => (k_here; (guard_target = wpAny _ _ (compareOp CmpOp.In Value.none (Value.ref _)) _ _ _); k_dflt (first | (refine' none_in4 ?N_9 ?a_9 ?n_9 ?_; (case N_9 => k_asm); (case a_9 => k_mem); (case n_9 => first | with_reducible assumption | ktr_units); k_whole) | (refine' none_in3 ?N_9 ?a_9 ?n_9 ?_; (case N_9 => k_asm); (case a_9 => k_mem); (case n_9 => first | with_reducible assumption | ktr_units); k_whole)); (try dsimp only))
  k_with "CallK" => (k_here; (guard_target = CallK _ _ (Value.ref 141) _ _ _ _); k_dflt (refine' use_ctrX (c_make_time _ _ _ _ _ _ _ _ _) ?g9_9 ?n9_9 ?F9_9 ?N9_9 ?_; (case g9_9 => with_reducible assumption); (case n9_9 => exact rfl); (case F9_9 => k_asm); (case N9_9 => k_asm); k_whole); walk_at "uX")
  k_with "CallK" => (k_here; (guard_target = CallK _ _ (Value.ref 148) _ _ _ _); k_dflt (refine' use_ctrX (c_make_day _ _ _ _ _ _ _) ?g9_9 ?n9_9 ?F9_9 ?N9_9 ?_; (case g9_9 => with_reducible assumption); (case n9_9 => exact rfl); (case F9_9 => k_asm); (case N9_9 => k_asm); k_whole); walk_at "uX")
  k_with "CallK" => (k_here; (guard_target = CallK _ _ (Value.ref 155) _ _ _ _); k_dflt (refine' use_ctrX (c_make_date _ _ _ _ _) ?g9_9 ?n9_9 ?F9_9 ?N9_9 ?_; (case g9_9 => with_reducible assumption); (case n9_9 => exact rfl); (case F9_9 => k_asm); (case N9_9 => k_asm); k_whole); walk_at "uX")
  k_with "CallK" => (k_here; (guard_target = CallK _ _ (Value.ref 176) _ _ _ _); k_dflt (refine' use_ctrX (c_local_of _ _ _ _ _) ?g9_9 ?n9_9 ?F9_9 ?N9_9 ?_; (case g9_9 => with_reducible assumption); (case n9_9 => exact rfl); (case F9_9 => k_asm); (case N9_9 => k_asm); k_whole); walk_at "uX")
  k_with "CallK" => (k_here; (guard_target = CallK _ _ (Value.ref 183) _ _ _ _); k_dflt (refine' use_ctrX (c_utc_of _ _ _ _ _) ?g9_9 ?n9_9 ?F9_9 ?N9_9 ?_; (case g9_9 => with_reducible assumption); (case n9_9 => exact rfl); (case F9_9 => k_asm); (case N9_9 => k_asm); k_whole); walk_at "uX")
  k_with "CallK" => (k_here; (guard_target = CallK _ _ (Value.ref 162) _ _ _ _); k_dflt (refine' use_ctr (c_time_clip _ _ _) ?g9_9 ?n9_9 ?F9_9 ?N9_9 ?_; (case g9_9 => with_reducible assumption); (case n9_9 => exact rfl); (case F9_9 => k_asm); (case N9_9 => k_asm); k_whole); intro r9 h9 tk9 hP9 F9 N9; (try dsimp only); (try k_sweep); (try k_fold))
  k_with "CallK" => (k_here; (guard_target = CallK _ _ (Value.ref 393) _ _ _ _); k_dflt (refine' use_ctrX (c_length _ _ _ _ _) ?g9_9 ?n9_9 ?F9_9 ?N9_9 ?_; (case g9_9 => with_reducible assumption); (case n9_9 => exact rfl); (case F9_9 => k_asm); (case N9_9 => k_asm); k_whole); walk_at "uX")
  trivial
local macro_rules | `(tactic| k_all) => `(tactic| with_reducible assumption)
theorem ru_L5_1 : True := by
  k_with "CallK" => (k_here; (guard_target = CallK _ _ (Value.ref 398) _ _ _ _); k_dflt (refine' use_ctrX (c_count _ _ _ _ _ _ _ ?p0_9 ?p1_9) ?g9_9 ?n9_9 ?F9_9 ?N9_9 ?_; (case g9_9 => with_reducible assumption); (case n9_9 => exact rfl); (case F9_9 => k_asm); (case N9_9 => k_asm); (case p0_9 => first | with_reducible assumption | decide | l_fact); (case p1_9 => first | with_reducible assumption | decide | l_fact); k_whole); walk_at "uX")
  k_with "CompSrc" => (k_here; k_dflt (refine LCg.CompSrc.range (by rfl) (by k_asm) (by k_asm) (by assumption) (by first | decide | rfl) (by first | rfl | decide) (by first | size_fits | exact Nat.le_of_ble_eq_true rfl) ?_; intro g'; lcg_lit))
  k_with "binaryOp Pow int int" => (k_here; (with_reducible refine pow_int_small ?kb1_9 ?kb2_9 ?kb3_9 ?_); (case kb1_9 => decide); (case kb2_9 => decide); (case kb3_9 => decide))
  k_with "strs are" => exact StrsAre.nil
  k_with "strs are" => (refine StrsAre.cons _ _ ?_; walk_at "strs are")
  k_with "call builtin:str.join" => (k_here; (guard_target = wpAny _ _ (call (Value.builtin "str.join") [Value.str _ _, Value.ref _]) _ _ _); k_dflt (refine join_strs ?j1_9 ?j2_9 ?j3_9 ?j4_9 ?j5_9 ?_; (case j1_9 => first | is_list | exact News.isList (by k_asm) (by k_mem)); (case j2_9 => walk_at "strs are"); (case j3_9 => walk_at "short strs"); (case j4_9 => decide); (case j5_9 => first | decide | walk_at "my size")); intro _ _; (try dsimp only))
  k_with "short strs" => (simp only [List.forall_mem_cons, mk_len, figs_len, item_len, List.length_append, List.length_cons, List.length_nil]; simp)
  k_with "CompEnd" => (k_here; k_dflt (refine' LCg.CompEnd.intro ?cF_9 ?cN_9 _ sub_refl ?cO_9 ?cS_9 ?_; (case cF_9 => k_asm); (case cN_9 => k_asm); (case cO_9 => first | assumption | (with_unfolding_all assumption) | (simp only [LCg.Off3, and_true]; first | done | assumption)); (case cS_9 => first | lcg_src | assumption)))
  k_with "CallK" => (k_here; (guard_target = CallK _ _ (Value.ref 386) _ _ _ _); k_dflt (refine' use_ctrX (c_fig4 _ _ _ _ ?p0_9) ?g9_9 ?n9_9 ?F9_9 ?N9_9 ?_; (case g9_9 => with_reducible assumption); (case n9_9 => exact rfl); (case F9_9 => k_asm); (case N9_9 => k_asm); (case p0_9 => first | with_reducible assumption | decide | l_fact); k_whole); walk_at "uX")
  k_with "CallK" => (k_here; (guard_target = CallK _ _ (Value.ref 386) _ _ _ _); k_dflt (refine' use_ctrX (c_fig3 _ _ _ _ ?p0_9) ?g9_9 ?n9_9 ?F9_9 ?N9_9 ?_; (case g9_9 => with_reducible assumption); (case n9_9 => exact rfl); (case F9_9 => k_asm); (case N9_9 => k_asm); (case p0_9 => first | with_reducible assumption | decide | l_fact); k_whole); walk_at "uX")
  k_with "CallK" => (k_here; (guard_target = CallK _ _ (Value.ref 386) _ _ _ _); k_dflt (refine' use_ctrX (c_fig2 _ _ _ _ ?p0_9) ?g9_9 ?n9_9 ?F9_9 ?N9_9 ?_; (case g9_9 => with_reducible assumption); (case n9_9 => exact rfl); (case F9_9 => k_asm); (case N9_9 => k_asm); (case p0_9 => first | with_reducible assumption | decide | l_fact); k_whole); walk_at "uX")
  k_with "my size" => (simp only [Str.length_append, mk_len, figs_len, item_len, lit0, lit1, lit2, lit3, lit4, lit5, lit6, lit7, lit8, lit9, lit10, lit11, lit12, lit13, lit14, lit15, lit16, lit17, lit18, lit19, lit20, lit21, lit22, lit23, lit24, lit25, lit26, lit27, lit28, lit29, lit30, lit31, lit32, lit33, lit34, lit35, lit36, lit37, lit38, lit39, lit40, lit41, lit42, lit43, lit44, lit45, lit46, lit47, lit48, lit49, lit50, lit51, lit52, lit53, List.length_append, List.length_cons, List.length_nil]; omega)
  k_with "binaryOp Add str str" => (k_here; (guard_target = wpAny _ _ (binaryOp Operator.Add (Value.str _ _) (Value.str _ _)) _ _ _); (refine' add_txt2 ?z_9 ?_; (case z_9 => walk_at "my size")); intro _ _)
  k_with "CallK" => (k_here; (guard_target = CallK _ _ (Value.ref 405) _ _ _ _); k_dflt (refine' use_ctrX (c_offset _ _ _ _ _ _ ?p0_9 ?p1_9 ?p2_9 ?p3_9) ?g9_9 ?n9_9 ?F9_9 ?N9_9 ?_; (case g9_9 => with_reducible assumption); (case n9_9 => exact rfl); (case F9_9 => k_asm); (case N9_9 => k_asm); (case p0_9 => with_reducible (first | exact lit4 | exact lit0 | exact rfl)); (case p1_9 => (first | decide | omega)); (case p2_9 => first | with_reducible assumption | decide | l_fact); (case p3_9 => first | with_reducible assumption | decide | l_fact); k_whole); walk_at "uX")
  k_with "CallK" => (k_here; (guard_target = CallK _ _ (Value.ref 367) _ _ _ _); k_dflt (refine' use_days (c_days _) ?g9_9 ?n9_9 ?F9_9 ?N9_9 ?_; (case g9_9 => with_reducible assumption); (case n9_9 => exact rfl); (case F9_9 => k_asm); (case N9_9 => k_asm); k_whole); intro q9 u9t1 u9t2 u9t3 u9t4 u9t5 u9t6 u9t7 c9 h9 tk9 F9 N9; (try dsimp only); (try k_sweep); (try k_fold))
  k_with "CallK" => (k_here; (guard_target = CallK _ _ (Value.ref 374) _ _ _ _); k_dflt (refine' use_months (c_months _) ?g9_9 ?n9_9 ?F9_9 ?N9_9 ?_; (case g9_9 => with_reducible assumption); (case n9_9 => exact rfl); (case F9_9 => k_asm); (case N9_9 => k_asm); k_whole); intro q9 u9t1 u9t2 u9t3 u9t4 u9t5 u9t6 u9t7 u9t8 u9t9 u9t10 u9t11 u9t12 c9 h9 tk9 F9 N9; (try dsimp only); (try k_sweep); (try k_fold))
  k_with "subscriptTail" => (k_here; (guard_target = wpAny _ _ (subscriptTail _ _ (Value.ref _) (Value.int _ _)) _ _ _); k_dflt (refine' days_item ?k1_9 ?k2_9 ?k3_9 ?k4_9 ?_ ?k5_9; (case k1_9 => k_asm); (case k2_9 => k_mem); (case k3_9 => exact (fm_b0 _ (by decide)).1); (case k4_9 => exact (fm_b0 _ (by decide)).2); (case k5_9 => with_unfolding_all rfl)); intro _)
  k_with "subscriptTail" => (k_here; (guard_target = wpAny _ _ (subscriptTail _ _ (Value.ref _) (Value.int _ _)) _ _ _); k_dflt (refine' months_item ?k1_9 ?k2_9 ?k3_9 ?k4_9 ?_ ?k5_9; (case k1_9 => k_asm); (case k2_9 => k_mem); (case k3_9 => assumption); (case k4_9 => assumption); (case k5_9 => with_unfolding_all rfl)); intro _)
  k_with "call builtin:str.join" => (k_here; (guard_target = wpAny _ _ (call (Value.builtin "str.join") [Value.str _ _, Value.ref _]) _ _ _); k_dflt (refine' join_mk3 ?j1_9 ?j2_9 ?j3_9 ?j4_9 ?j5_9 ?j6_9 ?_; (case j1_9 => exact News.isList (by k_asm) (by k_mem)); (case j2_9 => first | exact lit4 | exact lit1); (case j3_9 => decide); (case j4_9 => rw [figs_len]; decide); (case j5_9 => rw [figs_len]; decide); (case j6_9 => rw [figs_len]; decide)); intro _ _; (try dsimp only))
  k_with "my size" => (simp only [Str.length_append, mk_len, figs_len, item_len, osT_len, lit0, lit1, lit2, lit3, lit4, lit5, lit6, lit7, lit8, lit9, lit10, lit11, lit12, lit13, lit14, lit15, lit16, lit17, lit18, lit19, lit20, lit21, lit22, lit23, lit24, lit25, lit26, lit27, lit28, lit29, lit30, lit31, lit32, lit33, lit34, lit35, lit36, lit37, lit38, lit39, lit40, lit41, lit42, lit43, lit44, lit45, lit46, lit47, lit48, lit49, lit50, lit51, lit52, lit53, List.length_append, List.length_cons, List.length_nil]; omega)
  k_with "eval ListComp" => (k_here; (guard_target = wpAny _ _ (eval (Expr.ListComp _ [⟨_, Expr.Tuple _ _ _, _, _⟩] _ _) _) _ _ _); k_dflt (refine ListComp_Tup (F₀ := by k_asm) (by with_unfolding_all rfl) (by decide) (by rfl) (by decide) (by rfl) ?_))
  k_with "TupSrc" => (k_here; k_dflt (refine TupSrc.intro (by rfl) (by k_asm) (by k_asm) (by k_mem) (by exact Nat.le_of_ble_eq_true rfl) ?_; intro g'; lcg_lit))
  k_with "CompEnd" => (k_here; k_dflt (refine' LCg.CompEnd.intro ?cF_9 ?cN_9 _ sub_refl ?cO_9 ?cS_9 ?_; (case cF_9 => k_asm); (case cN_9 => k_asm); (case cO_9 => first | assumption | (with_unfolding_all assumption) | (simp only [LCg.Off3, and_true]; first | done | assumption)); (case cS_9 => exact ⟨_, by k_mem, rfl, _, rfl⟩)))
  k_with "CallK" => (k_here; (guard_target = CallK _ _ (Value.ref 410) _ _ _ _); k_dflt (refine' use_ctrMX (c_shown _ _ _ _ _ _ _ _ _ _ _ _ _ _ _ _ _ ?p0_9 ?p1_9 ?p2_9 ?p3_9 ?p4_9 ?p5_9 ?p6_9 ?p7_9 ?p8_9) ?g9_9 ?n9_9 ?F9_9 ?N9_9 ?q9_9 ?_; (case g9_9 => with_reducible assumption); (case n9_9 => exact rfl); (case F9_9 => k_asm); (case N9_9 => k_asm); (case q9_9 => k_mem); (case p0_9 => first | assumption | l_fact); (case p1_9 => first | assumption | l_fact); (case p2_9 => first | assumption | l_fact); (case p3_9 => first | assumption | l_fact); (case p4_9 => first | assumption | l_fact); (case p5_9 => first | assumption | l_fact); (case p6_9 => first | assumption | l_fact); (case p7_9 => first | assumption | l_fact); (case p8_9 => first | assumption | l_fact); k_whole); walk_at "uX")
  trivial
set_option maxRecDepth 100000
set_option maxHeartbeats 8000000
section
variable {prog : Program} {w : World} {A : Around} {E : Value → Shared → Prop} {s : Shared} {h₀ : Heap} {L q : Addr} {m : Str → Option Value} {news : List (Addr × Obj)} {l : List Nat} {t : Tok} {Q : Value → Shared → Prop} {value slice : PySem.Expr}
theorem slice_mk_ns {j : Int} {uj : Tok} (hF : Fr h₀ L s.heap m) (hN : News h₀ L s.heap news) (h1 : 0 ≤ j) (hl : l.length ≤ 100000)
    (h : ∀ h' t' k, Fr h₀ L h' m → News h₀ L h' news → Q (.str (mk (l.take j.toNat)) t') { s with heap := h', toks := k })
    (hs : subscripted slice false (.str (mk l) t) (.ref s.heap.objs.size) = operate [.ref s.heap.objs.size, .str (mk l) t] (getItem (.str (mk l) t) (.ref s.heap.objs.size)) := by with_unfolding_all rfl)
    (ht : ∀ r, letTemporaryGo value (.str (mk l) t) r = pure () := by intro _; with_unfolding_all rfl) :
    wpAny (model prog w) A (subscriptTail value slice (.str (mk l) t) (.ref s.heap.objs.size)) Q E { s with heap := s.heap.push { cls := .type "slice", data := .fields #[.none, .int j uj, .none] } } :=
  slice_strN_ns hF hN (by rw [slice_ns l h1]; exact h) hs ht (by rw [mk_len, sizeLine_eq]; (first | lia | omega))
theorem slice_mk_nm1 {uj : Tok} (hF : Fr h₀ L s.heap m) (hN : News h₀ L s.heap news) (hl : l.length ≤ 100000)
    (h : ∀ h' t' k, Fr h₀ L h' m → News h₀ L h' news → Q (.str (mk (l.take (l.length - 1))) t') { s with heap := h', toks := k })
    (hs : subscripted slice false (.str (mk l) t) (.ref s.heap.objs.size) = operate [.ref s.heap.objs.size, .str (mk l) t] (getItem (.str (mk l) t) (.ref s.heap.objs.size)) := by with_unfolding_all rfl)
    (ht : ∀ r, letTemporaryGo value (.str (mk l) t) r = pure () := by intro _; with_unfolding_all rfl) :
    wpAny (model prog w) A (subscriptTail value slice (.str (mk l) t) (.ref s.heap.objs.size)) Q E { s with heap := s.heap.push { cls := .type "slice", data := .fields #[.none, .int (-1) uj, .none] } } :=
  slice_strN_ns hF hN (by rw [slice_nm1 l]; exact h) hs ht (by rw [mk_len, sizeLine_eq]; (first | lia | omega))
theorem slice_mk_sn {i : Int} {ui : Tok} (hF : Fr h₀ L s.heap m) (hN : News h₀ L s.heap news) (h0 : 0 ≤ i) (hl : l.length ≤ 100000)
    (h : ∀ h' t' k, Fr h₀ L h' m → News h₀ L h' news → Q (.str (mk (l.drop i.toNat)) t') { s with heap := h', toks := k })
    (hs : subscripted slice false (.str (mk l) t) (.ref s.heap.objs.size) = operate [.ref s.heap.objs.size, .str (mk l) t] (getItem (.str (mk l) t) (.ref s.heap.objs.size)) := by with_unfolding_all rfl)
    (ht : ∀ r, letTemporaryGo value (.str (mk l) t) r = pure () := by intro _; with_unfolding_all rfl) :
    wpAny (model prog w) A (subscriptTail value slice (.str (mk l) t) (.ref s.heap.objs.size)) Q E { s with heap := s.heap.push { cls := .type "slice", data := .fields #[.int i ui, .none, .none] } } :=
  slice_strN_sn hF hN (by rw [slice_sn l h0]; exact h) hs ht (by rw [mk_len, sizeLine_eq]; (first | lia | omega))
variable {hp : Heap} {gs : Array GenState} {dr : Drawn} {tk : Nat} {os : OsState} {cn x : Str} {cs : Scope} {a : Addr} {ccd : Value} {cl : List (Str × Addr)} {px pk pk2 ps pos : Pos} {kk kk2 : Nat}
theorem sl9_ns {j : Int} (hF : Fr h₀ L hp m) (hN : News h₀ L hp news) (hv : some (Value.str (mk l) t) = m x) (hk : ScopeKind.function = cs.kind) (hx : some NameKind.local = (envX cn cs L a ccd cl).kindOf x) (hd : false = (x == ("__debug__" : Str))) (h1 : 0 ≤ j) (hl : l.length ≤ 100000)
    (h : ∀ h' t' k, Fr h₀ L h' m → News h₀ L h' news → Q (.str (mk (l.take j.toNat)) t') ⟨h', gs, dr, k, os⟩) : wpAny (model prog w) A (eval (.Subscript (.Name x px) (.Slice none (some (.Constant (.int j) kk pk)) none ps) pos) (envX cn cs L a ccd cl)) Q E ⟨hp, gs, dr, tk, os⟩ :=
  Subscript_ (nameX_L hF hv.symm (wpAny_Slice (evalPart_none_step (evalPart_some_step (wpAny_Constant_int (evalPart_none_step (slice_mk_ns (s := ⟨hp, gs, dr, _, os⟩) hF hN h1 hl h)))))) hk.symm hx.symm hd.symm)
theorem sl9_sn {i : Int} (hF : Fr h₀ L hp m) (hN : News h₀ L hp news) (hv : some (Value.str (mk l) t) = m x) (hk : ScopeKind.function = cs.kind) (hx : some NameKind.local = (envX cn cs L a ccd cl).kindOf x) (hd : false = (x == ("__debug__" : Str))) (h0 : 0 ≤ i) (hl : l.length ≤ 100000)
    (h : ∀ h' t' k, Fr h₀ L h' m → News h₀ L h' news → Q (.str (mk (l.drop i.toNat)) t') ⟨h', gs, dr, k, os⟩) : wpAny (model prog w) A (eval (.Subscript (.Name x px) (.Slice (some (.Constant (.int i) kk pk)) none none ps) pos) (envX cn cs L a ccd cl)) Q E ⟨hp, gs, dr, tk, os⟩ :=
  Subscript_ (nameX_L hF hv.symm (wpAny_Slice (evalPart_some_step (wpAny_Constant_int (evalPart_none_step (evalPart_none_step (slice_mk_sn (s := ⟨hp, gs, dr, _, os⟩) hF hN h0 hl h)))))) hk.symm hx.symm hd.symm)
theorem sl9_ss {i j : Int} (hF : Fr h₀ L hp m) (hN : News h₀ L hp news) (hv : some (Value.str (mk l) t) = m x) (hk : ScopeKind.function = cs.kind) (hx : some NameKind.local = (envX cn cs L a ccd cl).kindOf x) (hd : false = (x == ("__debug__" : Str))) (h0 : 0 ≤ i) (h1 : i ≤ j) (hl : l.length ≤ 100000)
    (h : ∀ h' t' k, Fr h₀ L h' m → News h₀ L h' news → Q (.str (mk ((l.drop i.toNat).take (j - i).toNat)) t') ⟨h', gs, dr, k, os⟩) : wpAny (model prog w) A (eval (.Subscript (.Name x px) (.Slice (some (.Constant (.int i) kk pk)) (some (.Constant (.int j) kk2 pk2)) none ps) pos) (envX cn cs L a ccd cl)) Q E ⟨hp, gs, dr, tk, os⟩ :=
  Subscript_ (nameX_L hF hv.symm (wpAny_Slice (evalPart_some_step (wpAny_Constant_int (evalPart_some_step (wpAny_Constant_int (evalPart_none_step (slice_mk_ss (s := ⟨hp, gs, dr, _, os⟩) hF hN h0 h1 hl h))))))) hk.symm hx.symm hd.symm)
theorem upper_txt (hl : l.length ≤ 100) (ha : ∀ c ∈ l, c < 128) (h : ∀ t' k, Q (.str (mk (l.map up)) t') { s with toks := k }) : wpAny (model prog w) A (call (.builtin "str.upper") [.str (mk l) t]) Q E s :=
  KXw.upper (upper_mk ha) (by rw [upper_mk ha, mk_len, List.length_map]; unfold Builtin.Str.tooLong; simp [sizeLine_eq]; (first | lia | omega)) h
theorem days_method {t1 t2 t3 t4 t5 t6 t7 : Tok} {n : Nat} {pl : Sem Bool} {Q : Value × List Value → Shared → Prop} (N : News h₀ L s.heap news) (hq : (q, daysO t1 t2 t3 t4 t5 t6 t7 n) ∈ news) (h : Q (.builtin "list.index", [.ref q]) s) :
    wpAny (model prog w) A (getMethod (.ref q) (Str.ofString "index") pl) Q E s :=
  getMethod_builtin ⟨_, (N _ hq).1, rfl⟩ PySem.F.plainAttrs_list PySem.F.slot_list_index PySem.F.type_list_index (fun a e => by cases e; exact ⟨_, (N _ hq).1, rfl⟩) h
theorem wd_idx : ∀ k : Nat, k < 7 → wdL.idxOf (wdL.getD k []) = k := by decide
theorem days_index {t1 t2 t3 t4 t5 t6 t7 : Tok} {n : Nat} {k : Int} {x : List Nat} (N : News h₀ L s.heap news) (hq : (q, daysO t1 t2 t3 t4 t5 t6 t7 n) ∈ news) (h0 : 0 ≤ k) (h1 : k < 7) (hx : x = wdN k) (h : ∀ t' tk, Q (.int k t') { s with toks := tk }) :
    wpAny (model prog w) A (call (.builtin "list.index") [.ref q, .str (mk x) t]) Q E s := by
  subst hx
  obtain ⟨j, rfl⟩ := Int.eq_ofNat_of_zero_le h0
  have hj7 : j < 7 := by (first | lia | omega)
  have ho := (N _ hq).1
  have hi : StrsAre [Value.str (Str.ofString "Sun") t1, Value.str (Str.ofString "Mon") t2, Value.str (Str.ofString "Tue") t3, Value.str (Str.ofString "Wed") t4, Value.str (Str.ofString "Thu") t5, Value.str (Str.ofString "Fri") t6, Value.str (Str.ofString "Sat") t7] (wdL.map mk) := by
    show StrsAre _ [mk _, mk _, mk _, mk _, mk _, mk _, mk _]
    rw [← lit46, ← lit47, ← lit48, ← lit49, ← lit50, ← lit51, ← lit52]
    repeat constructor
  have hw : wdN (j : Int) = wdL.getD j [] := rfl
  have hid := wd_idx j hj7
  have hx' : wdN (j : Int) ∈ wdL := by rw [hw]; exact (by decide : ∀ k : Nat, k < 7 → wdL.getD k [] ∈ wdL) j hj7
  rw [← hw] at hid
  refine call_meets PySem.F.slot_list_index ⟨_, ho, rfl⟩ PySem.F.entry_list_index (PySem.F.args_list_index_2 _ _)
    (PySem.SeqAt.list_indexAt q _ n none #[] (.str (mk (wdN (j : Int))) t) (isStrOf (mk (wdN (j : Int)))) j (by simpa using hj7) (by (first | lia | omega)) ?_ ?_) ⟨ho, fun y hy => (eq_isStrOf (mk (wdN (j : Int))) t hi y (by simpa using hy)).at _ _, h _ _⟩
  · show isStrOf _ ([Value.str (Str.ofString "Sun") t1, Value.str (Str.ofString "Mon") t2, Value.str (Str.ofString "Tue") t3, Value.str (Str.ofString "Wed") t4, Value.str (Str.ofString "Thu") t5, Value.str (Str.ofString "Fri") t6, Value.str (Str.ofString "Sat") t7][j]'(by simpa using hj7)) = true
    rw [strs_at _ hi j (by simpa using hj7) (by simpa [wdL] using hj7)]
    simp only [List.getElem_map, beq_iff_eq, mk_inj, hw]
    rw [List.getD_eq_getElem?_getD, List.getElem?_eq_getElem (by simpa [wdL] using hj7)]; rfl
  · intro i his hlt
    have hi7 : i < 7 := by simpa using his
    show isStrOf _ ([Value.str (Str.ofString "Sun") t1, Value.str (Str.ofString "Mon") t2, Value.str (Str.ofString "Tue") t3, Value.str (Str.ofString "Wed") t4, Value.str (Str.ofString "Thu") t5, Value.str (Str.ofString "Fri") t6, Value.str (Str.ofString "Sat") t7][i]'(by simpa using hi7)) = false
    rw [strs_at _ hi i (by simpa using hi7) (by simpa [wdL] using hi7)]
    simp only [List.getElem_map, beq_eq_false_iff_ne, ne_eq, mk_inj]
    intro e
    exact idx_ne wdL (by rw [hid]; exact hlt) (by rw [List.getElem?_eq_getElem (by simpa [wdL] using hi7)]; exact congrArg some e)
end
/-- a text that none tells -/
noncomputable def Wr (b : List Nat) : Prop := b.length ≤ 50 ∧ isoK b ∧ parseIso b = none ∧ parseShown b = none
theorem c_sh_N (w : World) (l : List Nat) (t : Tok) (h : Wr l) : Ctr w 353 6 [.str (mk l) t] (fun r => r = .none) := by
  have C := c_parse_shown w l t h.1
  rw [h.2.2.2] at C
  exact C
theorem c_pd_N (w : World) (l : List Nat) (t : Tok) (h : Wr l) : Ctr w 360 7 [.str (mk l) t] (fun r => r = .none) := by
  have C := c_parse_date w l t h.1 h.2.1
  unfold parseDate at C
  rw [h.2.2.1, h.2.2.2] at C
  exact C
theorem ru_L5_2 : True := by
  k_with "CallK" => (k_here; (guard_target = CallK _ _ (Value.ref 353) _ _ _ _); k_dflt (refine' use_ctrV (c_sh_N _ _ _ ?p0_9) ?g9_9 ?n9_9 ?F9_9 ?N9_9 ?_; (case g9_9 => with_reducible assumption); (case n9_9 => exact rfl); (case F9_9 => k_asm); (case N9_9 => k_asm); (case p0_9 => with_reducible assumption); k_whole); walk_at "uV")
  k_with "CallK" => (k_here; (guard_target = CallK _ _ (Value.ref 360) _ _ _ _); k_dflt (refine' use_ctrV (c_pd_N _ _ _ ?p0_9) ?g9_9 ?n9_9 ?F9_9 ?N9_9 ?_; (case g9_9 => with_reducible assumption); (case n9_9 => exact rfl); (case F9_9 => k_asm); (case N9_9 => k_asm); (case p0_9 => with_reducible assumption); k_whole); walk_at "uV")
  trivial
noncomputable def J3 (_ : List (Addr × Obj)) (a : Itm) : Prop := ∃ (x : Str) (b : List Nat) (t : Tok), a = .val (.str x t) ∧ x = mk b ∧ Wr b
theorem j3 {x : Str} {b : List Nat} {t : Tok} {nw : List (Addr × Obj)} (hx : x = mk b) (hp : Wr b) : J3 nw (.val (.str x t)) := ⟨x, b, t, rfl, hx, hp⟩
/-- the wrong texts tell none -/
noncomputable def WR (k : Int) (l : List Nat) : Prop :=
  Wr (wdN ((k + 1).fmod 7) ++ l.drop 3) ∧ Wr (l.take 4 ++ [74, 117, 120] ++ l.drop 7) ∧ Wr (l.take 8 ++ [51, 50] ++ l.drop 10) ∧ Wr (l.take 8 ++ [48, 48] ++ l.drop 10) ∧ Wr (l.take 11 ++ [120] ++ l.drop 12) ∧ Wr (l.take 12 ++ l.drop 13) ∧
  Wr (l.take 16 ++ [50, 52] ++ l.drop 18) ∧ Wr (l.take 19 ++ [54, 48] ++ l.drop 21) ∧ Wr (l.take 22 ++ [54, 48] ++ l.drop 24) ∧ Wr (l.take 25 ++ [103, 109, 116] ++ l.drop 28) ∧ Wr (l.take 29 ++ [50, 52, 48, 48]) ∧ Wr (l.take 29 ++ [48, 48, 54, 48]) ∧
  Wr (l.take (l.length - 1)) ∧ Wr (l ++ [32]) ∧ Wr [] ∧ Wr [84] ∧ Wr (l.map up)
theorem ru_L5_3 : True := by
  k_with "my size" => (simp only [Str.length_append, mk_len, figs_len, item_len, lit0, lit1, lit2, lit3, lit4, lit5, lit6, lit7, lit8, lit9, lit10, lit11, lit12, lit13, lit14, lit15, lit16, lit17, lit18, lit19, lit20, lit21, lit22, lit23, lit24, lit25, lit26, lit27, lit28, lit29, lit30, lit31, lit32, lit33, lit34, lit35, lit36, lit37, lit38, lit39, lit40, lit41, lit42, lit43, lit44, lit45, lit46, lit47, lit48, lit49, lit50, lit51, lit52, lit53, List.length_append, List.length_cons, List.length_nil, List.length_take, List.length_drop]; omega)
  k_with "eval Subscript Name Slice" => (k_here; (with_reducible refine' sl9_ns ?k1_9 ?k2_9 ?k3_9 ?k4_9 ?k5_9 ?k6_9 ?h1_9 ?hl_9 ?_); k_dflt ((case k4_9 => exact rfl); (case k5_9 => exact rfl); (case k1_9 => k_asm); (case k2_9 => k_asm); (case k3_9 => exact rfl); (case k6_9 => exact rfl); (case h1_9 => decide); (case hl_9 => walk_at "text's length"); k_whole); intro h9 t9 k9 F9 N9; (try k_sweep))
  k_with "eval Subscript Name Slice" => (k_here; (with_reducible refine' sl9_sn ?k1_9 ?k2_9 ?k3_9 ?k4_9 ?k5_9 ?k6_9 ?h1_9 ?hl_9 ?_); k_dflt ((case k4_9 => exact rfl); (case k5_9 => exact rfl); (case k1_9 => k_asm); (case k2_9 => k_asm); (case k3_9 => exact rfl); (case k6_9 => exact rfl); (case h1_9 => decide); (case hl_9 => walk_at "text's length"); k_whole); intro h9 t9 k9 F9 N9; (try k_sweep))
  k_with "eval Subscript Name Slice" => (k_here; (with_reducible refine' sl9_ss ?k1_9 ?k2_9 ?k3_9 ?k4_9 ?k5_9 ?k6_9 ?h1_9 ?h2_9 ?hl_9 ?_); k_dflt ((case k4_9 => exact rfl); (case k5_9 => exact rfl); (case k1_9 => k_asm); (case k2_9 => k_asm); (case k3_9 => exact rfl); (case k6_9 => exact rfl); (case h1_9 => decide); (case h2_9 => decide); (case hl_9 => walk_at "text's length"); k_whole); intro h9 t9 k9 F9 N9; (try k_sweep))
  k_with "text's length" => first | with_reducible assumption | exact Nat.le_trans (Nat.le_of_eq (by with_reducible assumption)) (by decide) | omega
  k_with "subscriptTail Name Slice str ref" => (k_here; (guard_target = wpAny _ _ (subscriptTail _ (Expr.Slice (some _) none none _) _ _) _ _ _); k_dflt (refine' slice_mk_sn (s := ⟨_, _, _, _, _⟩) ?k1_9 ?k2_9 ?k3_9 ?k4_9 ?_ ?k5_9 ?k6_9; (case k1_9 => k_asm); (case k2_9 => k_asm); (case k3_9 => decide); (case k4_9 => omega); (case k5_9 => with_unfolding_all rfl); (case k6_9 => intro _; with_unfolding_all rfl)); intro _ _ _ _ _; (try dsimp only); (try k_sweep))
  k_with "subscriptTail Name Slice str ref" => (k_here; (guard_target = wpAny _ _ (subscriptTail _ (Expr.Slice none (some _) none _) _ _) _ _ _); k_dflt (refine' slice_mk_ns (s := ⟨_, _, _, _, _⟩) ?k1_9 ?k2_9 ?k3_9 ?k4_9 ?_ ?k5_9 ?k6_9; (case k1_9 => k_asm); (case k2_9 => k_asm); (case k3_9 => decide); (case k4_9 => omega); (case k5_9 => with_unfolding_all rfl); (case k6_9 => intro _; with_unfolding_all rfl)); intro _ _ _ _ _; (try dsimp only); (try k_sweep))
  k_with "subscriptTail Name Slice str ref" => (k_here; (guard_target = wpAny _ _ (subscriptTail _ (Expr.Slice none (some (Expr.UnaryOp _ _ _)) none _) _ _) _ _ _); k_dflt (refine' slice_mk_nm1 (s := ⟨_, _, _, _, _⟩) ?k1_9 ?k2_9 ?k4_9 ?_ ?k5_9 ?k6_9; (case k1_9 => k_asm); (case k2_9 => k_asm); (case k4_9 => omega); (case k5_9 => with_unfolding_all rfl); (case k6_9 => intro _; with_unfolding_all rfl)); intro _ _ _ _ _; (try dsimp only); (try k_sweep))
  k_with "getMethod ref" => (k_here; (guard_target = wpAny _ _ (getMethod (Value.ref _) (Str.ofString "index") _) _ _ _); k_dflt (refine' days_method ?k1_9 ?k2_9 ?_; (case k1_9 => k_asm); (case k2_9 => k_mem)); (try dsimp only))
  k_with "call builtin:list.index" => (k_here; (guard_target = wpAny _ _ (call (Value.builtin "list.index") [Value.ref _, Value.str (mk _) _]) _ _ _); k_dflt (refine' days_index ?k1_9 ?k2_9 ?k3_9 ?k4_9 ?k5_9 ?_; (case k1_9 => k_asm); (case k2_9 => k_mem); (case k5_9 => assumption); (case k3_9 => assumption); (case k4_9 => assumption)); intro _ _; (try dsimp only))
  k_with "call builtin:str.upper" => (k_here; (guard_target = wpAny _ _ (call (Value.builtin "str.upper") [Value.str (mk _) _]) _ _ _); k_dflt (refine' upper_txt ?k1_9 ?k2_9 ?_; (case k1_9 => omega); (case k2_9 => assumption)); intro _ _; (try dsimp only))
  trivial
theorem tk_17 {w : World} {A : Around} {env : Env} {Q E : Value → Shared → Prop} {s : Shared} {a0 a1 a2 a3 a4 a5 a6 a7 a8 a9 a10 a11 a12 a13 a14 a15 a16 : Value} (h : wpAny (model PP w) A (newTuple [a0, a1, a2, a3, a4, a5, a6, a7, a8, a9, a10, a11, a12, a13, a14, a15, a16]) Q E s) : TupK w A env Q E [] [a16, a15, a14, a13, a12, a11, a10, a9, a8, a7, a6, a5, a4, a3, a2, a1, a0] s := h
theorem ru_L5_4 : True := by
  k_with "TupK" => (k_here; with_reducible refine tk_17 ?_)
  trivial
noncomputable def Hold5 (P : Prop) : Prop := P
theorem hold5 {P : Prop} (h : Hold5 P) : P := h
theorem unhold5 {P : Prop} (h : P) : Hold5 P := h
theorem ru_L5_5 : True := by
  k_with "ItemsRest" => (k_here; refine hold5 ?_)
  k_with "UnrEndW" => (k_here; refine hold5 ?_)
  k_with "exec For Name Tuple" => (k_here; (rename Fr _ _ _ _ => lF'); (with_unfolding_all refine' For_turns lF' ?_; k_whole))
  trivial
theorem app2 {a b : List Nat} {x : Str} (h : x = mk b) : mk a ++ x = mk (a ++ b) := by rw [h, mk_app]
theorem app3 {a b c : List Nat} {x : Str} (h : x = mk b) : mk a ++ x ++ mk c = mk (a ++ b ++ c) := by rw [h, mk_app, mk_app]
theorem off_of1 {news : List (Addr × Obj)} {I : Addr} {na : String} (h : AllLt I news) : ∀ p ∈ news, ∀ b ∈ [(I, na)].map (·.1), p.1 ≠ b := fun p hp b hb => by
  simp only [List.map_cons, List.map_nil, List.mem_singleton] at hb
  subst hb
  exact Nat.ne_of_lt (ktn_ltOf h p hp)
theorem off_its1 {nw : List (Addr × Obj)} {a : Addr} {na : String} {oa : Obj} (h : ∀ p ∈ nw, ∀ c ∈ [(a, na)].map (·.1), p.1 ≠ c) : ∀ p ∈ nw, ∀ q ∈ [(a, oa)], p.1 ≠ q.1 := fun p hp q hq => by
  rw [List.mem_singleton.mp hq]; exact h p hp _ (by simp)
theorem turn_end1 {h₀ h h' : Heap} {L : Addr} {g : Array GenState} {d : Drawn} {os : OsState} {tk tk' : Nat} {n1 : Str} {m₀ : Str → Option Value} {va vb vc : Option Value} {a : Addr × Obj} {nw all : List (Addr × Obj)} (F : Fr h₀ L h' (fun y => if y = n1 then vc else two n1 n1 m₀ va vb y)) (N : News h₀ L h' all) (hs : ∀ p ∈ [a] ++ nw, p ∈ all) (o : ∀ p ∈ nw, ∀ q ∈ [a], p.1 ≠ q.1) :
    Hold5 (UnrEndW h₀ L ⟨h, g, d, tk, os⟩ [a] (fun m' n' => n' = nw ∧ ∃ va vb, m' = two n1 n1 m₀ va vb) ⟨h', g, d, tk', os⟩) := by
  rw [two_one] at F
  exact ⟨h', tk', _, nw, rfl, F, fun q hq => N q (hs q hq), o, rfl, _, _, rfl⟩
theorem all_c5 {P : Itm → Prop} {a : Itm} {r : List Itm} (h : P a) (hr : ∀ b ∈ r, P b) : ∀ b ∈ a :: r, P b := List.forall_mem_cons.mpr ⟨h, hr⟩
theorem all_n5 {P : Itm → Prop} : ∀ b ∈ ([] : List Itm), P b := fun _ h => nomatch h
theorem c_wrong (w : World) (q : Addr) (y m d h i s o : Int) (t t1 t2 t3 t4 t5 t6 : Tok) (n : Nat) (y0 : 0 ≤ y) (m0 : 0 ≤ m) (m1 : m ≤ 11) (d0 : 0 ≤ d) (h0 : 0 ≤ h) (i0 : 0 ≤ i) (s0 : 0 ≤ s) (o0 : -6000 < o) (o1 : o < 6000) (hw : WR ((countF y m d + 4).fmod 7) (shT y m d h i s o)) :
    CtrM w 429 8 [.ref q, .int o t] q (tup6 y m d h i s t1 t2 t3 t4 t5 t6 n) (bolv true) := by
  obtain ⟨f0, f1, f2, f3, f4, f5, f6, f7, f8, f9, f10, f11, f12, f13, f14, f15, f16⟩ := hw
  obtain ⟨x0, x1, x2⟩ := shT_ok y m d h i s o m0 m1
  obtain ⟨z0, z1⟩ := fm_b0 (countF y m d + 4) (k := 7) (by decide)
  have x3 : ((shT y m d h i s o).take (Int.toNat 3)) = wdN ((countF y m d + 4).fmod 7) := x1
  have x4 := wdN_le' (((countF y m d + 4).fmod 7 + 1).fmod 7)
  k_dflt (refine' ctrM_enter (bs := [(Str.ofString "minutes", _), (Str.ofString "fields", _)]) ?k6 ?k7 ?kb ?kB ?kr ?c2 ?c3 ?c4 ?c5 ?_; (case k6 => k_is); (case k7 => k_is); (case kb => exact rfl); (case kB => exact rfl); (case kr => exact rfl); (case c2 => exact rfl); (case c3 => exact rfl); (case c4 => exact rfl); (case c5 => decide))
  intro mean mg mb dp un gd outer A₀ base g' L' h9 gs9 d9 tk9 o9 Q
  intro A9 P9 u9 B' F9 X' N' T' hdp hun hret
  walk_at "steps"
  refine unhold5 ?_
  refine items_of (Str.ofString "wrong") (Str.ofString "wrong") J3 ?hall ?hk ?hoff ?turn ?fin
  case hk => k_subL
  case hoff => exact off_of1 (by simp only [AllLt, and_true]; assumption)
  case hall => exact all_c5 (j3 (mk_app _ _) f0) (all_c5 (j3 (app3 lit23) f1) (all_c5 (j3 (app3 lit24) f2) (all_c5 (j3 (app3 lit25) f3) (all_c5 (j3 (app3 lit26) f4) (all_c5 (j3 (mk_app _ _) f5) (all_c5 (j3 (app3 lit27) f6) (all_c5 (j3 (app3 lit28) f7) (all_c5 (j3 (app3 lit28) f8) (all_c5 (j3 (app3 lit29) f9) (all_c5 (j3 (app2 lit20) f10) (all_c5 (j3 (app2 lit21) f11) (all_c5 (j3 (rfl) f12) (all_c5 (j3 (app2 lit7) f13) (all_c5 (j3 (lit0) f14) (all_c5 (j3 (lit5) f15) (all_c5 (j3 (rfl) f16) (all_n5)))))))))))))))))
  case turn =>
    clear hret
    intro nw a v h9 tk9 va vb hJ ho hv F9
    obtain ⟨x9, b, u1, rfl, rfl, hp⟩ := hJ
    subst hv
    refine AllObj.cons fun oi ci => AllObj.nil fun N9 => ?_
    (simp only [List.cons_append, List.nil_append] at N9)
    walk_at "steps"
    all_goals first
      | (refine' turn_end1 ?eF ?eN ?eS ?eO; (case eO => exact off_its1 ho); (case eF => k_asm); (case eN => k_asm); (case eS => intro p hp; simpa using hp))
  case fin =>
    intro h9 tk9 va vb F9 N9
    walk_at "steps"
    refine hret _ _ _ rfl (by k_asm) (drop_news (by assumption) ?_)
    repeat (first | exact sub_refl | refine sub_skip ?_)
end

section -- T13
theorem rst_T13 : True := by
  w_top off
  trivial
open PySem PySem.W PySem.Calls PyProof.Rows
noncomputable def Whole (X o : Int) (l : List Nat) : Prop := ∃ yy mm, YF (X + o * 60000) yy ∧ MF (X + o * 60000) yy mm ∧ BF (X + o * 60000) yy mm ∧ -6000 < o ∧ o < 6000 ∧ dayT (X + o * 60000) yy mm ++ [32] ++ timeT (X + o * 60000) o = l
noncomputable def Utc (X : Int) (l : List Nat) : Prop := ∃ yy mm, YF X yy ∧ MF X yy mm ∧ BF X yy mm ∧ utcT X yy mm = l
noncomputable def PsV (l : List Nat) (v : Int) : Prop := l.length ≤ 50 ∧ parseShown l = some v
noncomputable def PiV (l : List Nat) (v : Int) : Prop := l.length ≤ 50 ∧ isoK l ∧ parseIso l = some v
noncomputable def PdV (l : List Nat) (v : Int) : Prop := l.length ≤ 50 ∧ isoK l ∧ parseDate l = some v
noncomputable abbrev plainL (l : List Nat) : List Nat := l.take 3 ++ [44, 32] ++ (l.drop 8).take 2 ++ [32] ++ (l.drop 4).take 3 ++ [32] ++ (l.drop 11).take 17
noncomputable abbrev plainS (l : List Nat) : Str := mk (l.take (Int.toNat 3)) ++ Str.ofString ", " ++ mk ((l.drop (Int.toNat 8)).take ((10 : Int) - 8).toNat) ++ Str.ofString " " ++ mk ((l.drop (Int.toNat 4)).take ((7 : Int) - 4).toNat) ++ Str.ofString " " ++ mk ((l.drop (Int.toNat 11)).take ((28 : Int) - 11).toNat)
theorem plain_eq (l : List Nat) : plainS l = mk (plainL l) := by
  unfold plainS plainL
  rw [lit6, lit7]; simp only [mk_app]; rfl
/-- all that the law asks of one drawn moment -/
structure LF (y m d h i s o ms N : Int) : Prop where
  a1 : Whole (((N * 24 + h) * 60 + i) * 60000 + s * 1000 - o * 60000 + ms) o (shT y m d h i s o)
  a2 : PsV (shT y m d h i s o) (((N * 24 + h) * 60 + i) * 60000 + s * 1000 - o * 60000)
  a3 : PiV (isI y m d h i s (46 :: (figs ms.toNat 3 ++ osT o [58]))) (((N * 24 + h) * 60 + i) * 60000 + s * 1000 - o * 60000 + ms)
  a4 : Utc (((N * 24 + h) * 60 + i) * 60000 + s * 1000 + ms) (plainL (shT y m d h i s 0))
  a5 : PdV (plainL (shT y m d h i s 0)) (((N * 24 + h) * 60 + i) * 60000 + s * 1000)
  a6 : PdV (isI y m d h i s [90]) (((N * 24 + h) * 60 + i) * 60000 + s * 1000)
  a7 : BR y m h i s
  a0 : (shT y m d h i s 0).length = 33
  a8 : WR ((countF y m d + 4).fmod 7) (shT y m d h i s o)
noncomputable def K1 : List Nat := [50, 48, 48, 48, 45, 48, 49, 45, 48, 49, 84, 50, 52, 58, 48, 48, 58, 48, 48, 46, 48, 48, 49, 90]
noncomputable def K2 : List Nat := [50, 48, 48, 48, 45, 48, 49, 45, 48, 49, 84, 50, 52, 58, 48, 48, 58, 48, 48, 46, 48, 48, 48, 90]
noncomputable def K3 : List Nat := [50, 48, 48, 48, 45, 48, 49, 45, 48, 50]
theorem k_1 : OkN K1 := ⟨by decide, .inl ⟨by decide +kernel, by decide +kernel, by decide +kernel⟩, by decide +kernel⟩
theorem k_2 : PiV K2 946771200000 := ⟨by decide, .inl ⟨by decide +kernel, by decide +kernel, by decide +kernel⟩, by decide +kernel⟩
theorem k_3 : PiV K3 946771200000 := ⟨by decide, .inr (.inl ⟨by decide +kernel, by decide +kernel, by decide +kernel⟩), by decide +kernel⟩
theorem l_k1 : Str.ofString "2000-01-01T24:00:00.001Z" = mk K1 := lit30
theorem l_k2 : Str.ofString "2000-01-01T24:00:00.000Z" = mk K2 := lit31
theorem l_k3 : Str.ofString "2000-01-02" = mk K3 := lit32
end

section -- T14
theorem rst_T14 : True := by
  w_top off
  trivial
open PySem PySem.W PySem.Calls PyProof.Rows
theorem lenF_daysOf {y m : Int} (h0 : 0 ≤ m) (h1 : m ≤ 11) : lenF y m = daysOf y m := by
  obtain ⟨k, rfl⟩ := Int.eq_ofNat_of_zero_le h0
  have h : k ≤ 11 := by (first | lia | omega)
  unfold lenF daysOf
  cases leap y
  · exact (by decide +kernel : ∀ k : Nat, k ≤ 11 → (if (k : Int) = 1 then (if false = true then (29 : Int) else 28) else if ([3, 5, 8, 10].any fun x => x == (k : Int)) = true then 30 else 31) = daysAhead ((k : Int) + 1) false - daysAhead k false) k h
  · exact (by decide +kernel : ∀ k : Nat, k ≤ 11 → (if (k : Int) = 1 then (if true = true then (29 : Int) else 28) else if ([3, 5, 8, 10].any fun x => x == (k : Int)) = true then 30 else 31) = daysAhead ((k : Int) + 1) true - daysAhead k true) k h
theorem sum_len (y : Int) : ∀ k : Nat, k ≤ 12 → ((rangeKs 0 ((k : Int) - 0).toNat).map (lenF y)).sum = daysAhead k (leap y)
  | 0, _ => by
    have : daysAhead ((0 : Nat) : Int) (leap y) = 0 := ahead_0 _
    rw [this]; rfl
  | k + 1, h => by
    have ih := sum_len y k (by (first | lia | omega))
    have e : (rangeKs 0 (((k + 1 : Nat) : Int) - 0).toNat) = rangeKs 0 ((k : Int) - 0).toNat ++ [(k : Int)] := by
      unfold rangeKs
      rw [show (((k + 1 : Nat) : Int) - 0).toNat = k + 1 by (first | lia | omega), show ((k : Int) - 0).toNat = k by (first | lia | omega), List.range_succ, List.map_append]
      simp
    rw [e, List.map_append, List.sum_append, ih]
    have q := lenF_daysOf (y := y) (m := (k : Int)) (by (first | lia | omega)) (by (first | lia | omega))
    simp only [List.map_cons, List.map_nil, List.sum_cons, List.sum_nil]
    rw [q]; unfold daysOf
    have : ((k + 1 : Nat) : Int) = (k : Int) + 1 := by (first | lia | omega)
    rw [this]; (first | lia | omega)
theorem count_mk {y m d : Int} (h0 : 0 ≤ m) (h1 : m ≤ 11) : countF y m d = mkDay y m d := by
  obtain ⟨k, rfl⟩ := Int.eq_ofNat_of_zero_le h0
  rw [mkDay_eq h0 h1]
  unfold countF
  rw [sum_len y k (by (first | lia | omega))]
  unfold dfy
  simp only [Int.fdiv_eq_ediv_of_nonneg _ (show (0:Int) ≤ 4 by decide), Int.fdiv_eq_ediv_of_nonneg _ (show (0:Int) ≤ 100 by decide), Int.fdiv_eq_ediv_of_nonneg _ (show (0:Int) ≤ 400 by decide)]
  (first | lia | omega)
end

section -- T15
theorem rst_T15 : True := by
  w_top off
  trivial
open PySem PySem.W PySem.Calls PyProof.Rows
theorem isI_isoN {Y M D H I S : Nat} {b : List Nat} : isI Y ((M : Int) - 1) D H I S b = isoN Y M D H I S b := by
  unfold isI isoN
  rw [show ((M : Int) - 1 + 1).toNat = M by (first | lia | omega)]
  simp only [Int.toNat_natCast, List.append_assoc]
theorem isI_N {y m d h i s : Int} {b : List Nat} (y0 : 0 ≤ y) (m0 : -1 ≤ m) (d0 : 0 ≤ d) (h0 : 0 ≤ h) (i0 : 0 ≤ i) (s0 : 0 ≤ s) : isI y m d h i s b = isoN y.toNat (m + 1).toNat d.toNat h.toNat i.toNat s.toNat b := by
  unfold isI isoN
  simp only [List.append_assoc]
section
variable {y m d h i s : Int} {b : List Nat}
/-- a text whose day, month and year stand: what its clock part tells -/
theorem is_A (y0 : 0 ≤ y) (y1 : y ≤ 9999) (m0 : 0 ≤ m) (m1 : m ≤ 11) (d0 : 1 ≤ d) (d1 : d ≤ daysOf y m) (h0 : 0 ≤ h) (i0 : 0 ≤ i) (s0 : 0 ≤ s) :
    isoK (isI y m d h i s b) ∧ parseIso (isI y m d h i s b) = piEnd (isI y m d h i s b) ⟨10, false⟩ y (m + 1) d := by
  rw [isI_N y0 (by (first | lia | omega)) (by (first | lia | omega)) h0 i0 s0]
  have e : ((d.toNat : Nat) : Int) ≤ daysOf (y.toNat : Int) (((m + 1).toNat : Nat) - 1 : Int) := by
    rw [show ((y.toNat : Nat) : Int) = y by (first | lia | omega), show (((m + 1).toNat : Nat) : Int) - 1 = m by (first | lia | omega)]; (first | lia | omega)
  have A := iso_A (H := h.toNat) (I := i.toNat) (S := s.toNat) (tl := b) (show y.toNat < 10000 by (first | lia | omega)) (show 1 ≤ (m + 1).toNat by (first | lia | omega)) (show (m + 1).toNat ≤ 12 by (first | lia | omega)) (show 1 ≤ d.toNat by (first | lia | omega)) e
  refine ⟨iso_kA (by (first | lia | omega)) (by (first | lia | omega)) (by (first | lia | omega)) (by (first | lia | omega)) e, ?_⟩
  rw [A, show ((y.toNat : Nat) : Int) = y by (first | lia | omega), show (((m + 1).toNat : Nat) : Int) = m + 1 by (first | lia | omega), show ((d.toNat : Nat) : Int) = d by (first | lia | omega)]
theorem is_len : (isI y m d h i s b).length = 19 + b.length := by
  unfold isI; simp only [List.length_append, figs_len, List.length_cons, List.length_nil]
/-- a bad day -/
theorem is_B (y0 : 0 ≤ y) (y1 : y ≤ 9999) (m0 : 0 ≤ m) (m1 : m ≤ 11) (d0 : 0 ≤ d) (d1 : d < 100) (hb : d < 1 ∨ daysOf y m < d) (h0 : 0 ≤ h) (i0 : 0 ≤ i) (s0 : 0 ≤ s) (hl : b.length ≤ 20) : OkN (isI y m d h i s b) := by
  refine ⟨by rw [is_len]; (first | lia | omega), ?_⟩
  rw [isI_N y0 (by (first | lia | omega)) d0 h0 i0 s0]
  have e : d.toNat < 1 ∨ daysOf (y.toNat : Int) (((m + 1).toNat : Nat) - 1 : Int) < ((d.toNat : Nat) : Int) := by
    rw [show ((y.toNat : Nat) : Int) = y by (first | lia | omega), show (((m + 1).toNat : Nat) : Int) - 1 = m by (first | lia | omega)]; (first | lia | omega)
  exact ⟨iso_kB (by (first | lia | omega)) (by (first | lia | omega)) (by (first | lia | omega)) (by (first | lia | omega)) e, iso_B (by (first | lia | omega)) (by (first | lia | omega)) (by (first | lia | omega)) (by (first | lia | omega)) e⟩
/-- a bad month -/
theorem is_C (y0 : 0 ≤ y) (y1 : y ≤ 9999) (m0 : m = -1 ∨ m = 12) (d0 : 0 ≤ d) (h0 : 0 ≤ h) (i0 : 0 ≤ i) (s0 : 0 ≤ s) (hl : b.length ≤ 20) : OkN (isI y m d h i s b) := by
  refine ⟨by rw [is_len]; (first | lia | omega), ?_⟩
  rw [isI_N y0 (by (first | lia | omega)) d0 h0 i0 s0]
  exact ⟨iso_kC (by (first | lia | omega)) (by (first | lia | omega)) (by (first | lia | omega)), iso_C (by (first | lia | omega)) (by (first | lia | omega)) (by (first | lia | omega))⟩
end
section
variable {Y M D H I S : Nat} {tl : List Nat} {y mo da : Int}
/-- what stands behind the clock -/
theorem pe_Z {n : Nat} (hT : icS (isoN Y M D H I S tl) ⟨11, false⟩ = ⟨n, false⟩) (h1 : ((isoN Y M D H I S tl).drop n).take ([90] : List Nat).length = [90]) (h2 : n + 1 = (isoN Y M D H I S tl).length) :
    piEnd (isoN Y M D H I S tl) ⟨10, false⟩ y mo da = clipF (tof y (mo - 1) da (icH (isoN Y M D H I S tl) ⟨11, false⟩) (icM (isoN Y M D H I S tl) ⟨11, false⟩) (icC (isoN Y M D H I S tl) ⟨11, false⟩) (icL (isoN Y M D H I S tl) ⟨11, false⟩) - 0 * 60000) := by
  have := pe_1 (y := y) (mo := mo) (da := da) (iso_h10 (Y := Y) (M := M) (D := D) (H := H) (I := I) (S := S) (tl := tl)) (by rw [icAt, iso_s10, hT]; exact has_y h1) (by rw [icAt, iso_s10, hT, hasS_y h1]; exact ends_y h2)
  rw [this]; unfold tofT icAt; rw [iso_s10]
theorem pe_0 {n : Nat} (hT : icS (isoN Y M D H I S tl) ⟨11, false⟩ = ⟨n, false⟩) (h2 : n = (isoN Y M D H I S tl).length) :
    piEnd (isoN Y M D H I S tl) ⟨10, false⟩ y mo da = clipF (tof y (mo - 1) da (icH (isoN Y M D H I S tl) ⟨11, false⟩) (icM (isoN Y M D H I S tl) ⟨11, false⟩) (icC (isoN Y M D H I S tl) ⟨11, false⟩) (icL (isoN Y M D H I S tl) ⟨11, false⟩) - 0 * 60000) := by
  have h1 : ((isoN Y M D H I S tl).drop n).take ([90] : List Nat).length ≠ [90] := by rw [h2]; simp
  have := pe_5 (y := y) (mo := mo) (da := da) (iso_h10 (Y := Y) (M := M) (D := D) (H := H) (I := I) (S := S) (tl := tl)) (by rw [icAt, iso_s10, hT]; exact has_n h1) (by rw [icAt, iso_s10, hT, hasS_n h1]; simp [h2]) (by rw [icAt, iso_s10, hT, hasS_n h1]; exact ends_y h2)
  rw [this]; unfold tofT icAt; rw [iso_s10]
theorem pe_zn {n : Nat} (hT : icS (isoN Y M D H I S tl) ⟨11, false⟩ = ⟨n, false⟩) (h1 : ((isoN Y M D H I S tl).drop n).take ([90] : List Nat).length ≠ [90]) (h2 : n < (isoN Y M D H I S tl).length) (he : endsB (isoN Y M D H I S tl) (znS (isoN Y M D H I S tl) ⟨n, false⟩ true) = true) :
    piEnd (isoN Y M D H I S tl) ⟨10, false⟩ y mo da = clipF (tof y (mo - 1) da (icH (isoN Y M D H I S tl) ⟨11, false⟩) (icM (isoN Y M D H I S tl) ⟨11, false⟩) (icC (isoN Y M D H I S tl) ⟨11, false⟩) (icL (isoN Y M D H I S tl) ⟨11, false⟩) - znV (isoN Y M D H I S tl) ⟨n, false⟩ true * 60000) := by
  have := pe_3 (y := y) (mo := mo) (da := da) (iso_h10 (Y := Y) (M := M) (D := D) (H := H) (I := I) (S := S) (tl := tl)) (by rw [icAt, iso_s10, hT]; exact has_n h1) (by rw [icAt, iso_s10, hT, hasS_n h1]; exact Int.ofNat_lt.mpr h2) (by rw [icAt, iso_s10, hT, hasS_n h1]; exact he)
  rw [this]; unfold tofT icAt; rw [iso_s10, hT, hasS_n h1]
theorem pe_zb {n : Nat} (hT : icS (isoN Y M D H I S tl) ⟨11, false⟩ = ⟨n, false⟩) (h1 : ((isoN Y M D H I S tl).drop n).take ([90] : List Nat).length ≠ [90]) (h2 : n < (isoN Y M D H I S tl).length) (he : endsB (isoN Y M D H I S tl) (znS (isoN Y M D H I S tl) ⟨n, false⟩ true) = false) :
    piEnd (isoN Y M D H I S tl) ⟨10, false⟩ y mo da = none :=
  pe_4 (y := y) (mo := mo) (da := da) (iso_h10 (Y := Y) (M := M) (D := D) (H := H) (I := I) (S := S) (tl := tl)) (by rw [icAt, iso_s10, hT]; exact has_n h1) (by rw [icAt, iso_s10, hT, hasS_n h1]; exact Int.ofNat_lt.mpr h2) (by rw [icAt, iso_s10, hT, hasS_n h1]; exact he)
theorem pe_Zb {n : Nat} (hT : icS (isoN Y M D H I S tl) ⟨11, false⟩ = ⟨n, false⟩) (h1 : ((isoN Y M D H I S tl).drop n).take ([90] : List Nat).length = [90]) (h2 : n + 1 ≠ (isoN Y M D H I S tl).length) :
    piEnd (isoN Y M D H I S tl) ⟨10, false⟩ y mo da = none :=
  pe_2 (y := y) (mo := mo) (da := da) (iso_h10 (Y := Y) (M := M) (D := D) (H := H) (I := I) (S := S) (tl := tl)) (by rw [icAt, iso_s10, hT]; exact has_y h1) (by rw [icAt, iso_s10, hT, hasS_y h1]; exact ends_n h2)
end
end

section -- T16
theorem rst_T16 : True := by
  w_top off
  trivial
open PySem PySem.W PySem.Calls PyProof.Rows
theorem dr {l t : List Nat} {n : Nat} (h : l.drop n = t) (k : Nat) : l.drop (n + k) = t.drop k := by rw [← h, List.drop_drop]
section
variable {l t : List Nat} {n p q a b : Nat} {s : RS} {iso : Bool}
theorem z0_p (h : l.drop n = 43 :: t) : hasB l ⟨n, false⟩ [45] = false ∧ znS0 l ⟨n, false⟩ = ⟨n + 1, false⟩ := by
  have e : (l.drop n).take ([45] : List Nat).length ≠ [45] := by rw [h]; simp
  have e2 : (l.drop n).take ([43] : List Nat).length = [43] := by rw [h]; rfl
  exact ⟨has_n e, by unfold znS0; rw [has_n e, if_neg (by simp), hasS_n e]; exact need_y e2⟩
theorem z0_m (h : l.drop n = 45 :: t) : hasB l ⟨n, false⟩ [45] = true ∧ znS0 l ⟨n, false⟩ = ⟨n + 1, false⟩ := by
  have e : (l.drop n).take ([45] : List Nat).length = [45] := by rw [h]; rfl
  exact ⟨has_y e, by unfold znS0; rw [has_y e, if_pos rfl]; exact hasS_y e⟩
theorem z0_b (h : (l.drop n).take 1 ≠ [45]) (h2 : (l.drop n).take 1 ≠ [43]) : (znS0 l ⟨n, false⟩).b = true := by
  have e : (l.drop n).take ([45] : List Nat).length ≠ [45] := h
  have e2 : (l.drop n).take ([43] : List Nat).length ≠ [43] := h2
  unfold znS0; rw [has_n e, if_neg (by simp), hasS_n e, need_n e2]
theorem z1_i (h0 : znS0 l s = ⟨p, false⟩) (h : (l.drop p).take 2 = figs a 2) (ha : a ≤ 23) (h2 : (l.drop (p + 2)).take 1 = [58]) : numV l (znS0 l s) 2 0 23 = a ∧ znS1 l s true = ⟨p + 3, false⟩ := by
  have e2 : (l.drop (p + 2)).take ([58] : List Nat).length = [58] := h2
  refine ⟨by rw [h0]; exact numV_y h (by decide) (by (first | lia | omega)) (by (first | lia | omega)) (by (first | lia | omega)), ?_⟩
  unfold znS1; rw [if_pos rfl, h0, numS_y h (by decide) (by (first | lia | omega)) (by (first | lia | omega)) (by (first | lia | omega)), need_y e2]; rfl
theorem z1_s (h0 : znS0 l s = ⟨p, false⟩) (h : (l.drop p).take 2 = figs a 2) (ha : a ≤ 23) : numV l (znS0 l s) 2 0 23 = a ∧ znS1 l s false = ⟨p + 2, false⟩ := by
  refine ⟨by rw [h0]; exact numV_y h (by decide) (by (first | lia | omega)) (by (first | lia | omega)) (by (first | lia | omega)), ?_⟩
  unfold znS1; rw [if_neg (by simp), h0, numS_y h (by decide) (by (first | lia | omega)) (by (first | lia | omega)) (by (first | lia | omega))]
theorem z1_r (h0 : znS0 l s = ⟨p, false⟩) (h : (l.drop p).take 2 = figs a 2) (ha : a < 100) (hb : 23 < a) : (znS1 l s iso).b = true := by
  have e := numS_r (lo := 0) (hi := 23) h (by decide) ha (by (first | lia | omega))
  unfold znS1; rw [h0, e]
  split
  · rw [need_w]
  · rfl
theorem z1_c (h0 : znS0 l s = ⟨p, false⟩) (h : (l.drop p).take 2 = figs a 2) (ha : a ≤ 23) (h2 : (l.drop (p + 2)).take 1 ≠ [58]) : (znS1 l s true).b = true := by
  have e2 : (l.drop (p + 2)).take ([58] : List Nat).length ≠ [58] := h2
  unfold znS1; rw [if_pos rfl, h0, numS_y h (by decide) (by (first | lia | omega)) (by (first | lia | omega)) (by (first | lia | omega)), need_n e2]
theorem z2_y (h1 : znS1 l s iso = ⟨q, false⟩) (h : (l.drop q).take 2 = figs b 2) (hb : b ≤ 59) : numV l (znS1 l s iso) 2 0 59 = b ∧ znS l s iso = ⟨q + 2, false⟩ := by
  unfold znS; rw [h1]
  exact ⟨numV_y h (by decide) (by (first | lia | omega)) (by (first | lia | omega)) (by (first | lia | omega)), numS_y h (by decide) (by (first | lia | omega)) (by (first | lia | omega)) (by (first | lia | omega))⟩
theorem z2_r (h1 : znS1 l s iso = ⟨q, false⟩) (h : (l.drop q).take 2 = figs b 2) (hb : b < 100) (hc : 59 < b) : (znS l s iso).b = true := by
  unfold znS; rw [h1, numS_r (lo := 0) (hi := 59) h (by decide) hb (by (first | lia | omega))]
theorem zV_p (h : hasB l s [45] = false) (h1 : numV l (znS0 l s) 2 0 23 = a) (h2 : numV l (znS1 l s iso) 2 0 59 = b) : znV l s iso = (a : Int) * 60 + b := by
  unfold znV znM; rw [h, if_neg (by simp), h1, h2]
theorem zV_m (h : hasB l s [45] = true) (h1 : numV l (znS0 l s) 2 0 23 = a) (h2 : numV l (znS1 l s iso) 2 0 59 = b) : znV l s iso = -((a : Int) * 60 + b) := by
  unfold znV znM; rw [h, if_pos rfl, h1, h2]
end
theorem figs2 (n : Nat) (r : List Nat) : (figs n 2 ++ r).take 2 = figs n 2 := rfl
theorem osT_p {o : Int} (h : ¬ o < 0) (b : List Nat) : osT o b = 43 :: (figs (o.toNat / 60) 2 ++ (b ++ figs (o.toNat % 60) 2)) := by
  unfold osT
  rw [if_neg h, if_neg h, Int.fdiv_eq_ediv_of_nonneg _ (by decide), Int.fmod_eq_emod_of_nonneg _ (by decide)]
  have a : (o / 60).toNat = o.toNat / 60 := by (first | lia | omega)
  have c : (o % 60).toNat = o.toNat % 60 := by (first | lia | omega)
  rw [a, c]; simp
theorem osT_m {o : Int} (h : o < 0) (b : List Nat) : osT o b = 45 :: (figs ((-o).toNat / 60) 2 ++ (b ++ figs ((-o).toNat % 60) 2)) := by
  unfold osT
  rw [if_pos h, if_pos h, Int.fdiv_eq_ediv_of_nonneg _ (by decide), Int.fmod_eq_emod_of_nonneg _ (by decide)]
  have a : (-o / 60).toNat = (-o).toNat / 60 := by (first | lia | omega)
  have c : (-o % 60).toNat = (-o).toNat % 60 := by (first | lia | omega)
  rw [a, c]; simp
section
variable {l : List Nat} {n : Nat} {o : Int}
theorem zone_i (h : l.drop n = osT o [58]) (o0 : -1439 ≤ o) (o1 : o ≤ 1439) : znS l ⟨n, false⟩ true = ⟨n + 6, false⟩ ∧ znV l ⟨n, false⟩ true = o := by
  by_cases c : o < 0
  · rw [osT_m c] at h
    obtain ⟨b0, s0⟩ := z0_m h
    have e1 := dr h 1
    have e3 : l.drop (n + 1 + 2) = [58] ++ figs ((-o).toNat % 60) 2 := by rw [dr e1 2]; rfl
    have e4 : l.drop (n + 1 + 3) = figs ((-o).toNat % 60) 2 := by rw [dr e1 3]; rfl
    obtain ⟨v1, s1⟩ := z1_i s0 (a := (-o).toNat / 60) (by rw [e1]; rfl) (by (first | lia | omega)) (by rw [e3]; rfl)
    obtain ⟨v2, s2⟩ := z2_y s1 (b := (-o).toNat % 60) (by rw [e4]; rfl) (by (first | lia | omega))
    exact ⟨s2, by rw [zV_m b0 v1 v2]; (first | lia | omega)⟩
  · rw [osT_p c] at h
    obtain ⟨b0, s0⟩ := z0_p h
    have e1 := dr h 1
    have e3 : l.drop (n + 1 + 2) = [58] ++ figs (o.toNat % 60) 2 := by rw [dr e1 2]; rfl
    have e4 : l.drop (n + 1 + 3) = figs (o.toNat % 60) 2 := by rw [dr e1 3]; rfl
    obtain ⟨v1, s1⟩ := z1_i s0 (a := o.toNat / 60) (by rw [e1]; rfl) (by (first | lia | omega)) (by rw [e3]; rfl)
    obtain ⟨v2, s2⟩ := z2_y s1 (b := o.toNat % 60) (by rw [e4]; rfl) (by (first | lia | omega))
    exact ⟨s2, by rw [zV_p b0 v1 v2]; (first | lia | omega)⟩
theorem zone_s (h : l.drop n = osT o []) (o0 : -1439 ≤ o) (o1 : o ≤ 1439) : znS l ⟨n, false⟩ false = ⟨n + 5, false⟩ ∧ znV l ⟨n, false⟩ false = o := by
  by_cases c : o < 0
  · rw [osT_m c] at h
    obtain ⟨b0, s0⟩ := z0_m h
    have e1 := dr h 1
    have e3 : l.drop (n + 1 + 2) = figs ((-o).toNat % 60) 2 := by rw [dr e1 2]; rfl
    obtain ⟨v1, s1⟩ := z1_s s0 (a := (-o).toNat / 60) (by rw [e1]; rfl) (by (first | lia | omega))
    obtain ⟨v2, s2⟩ := z2_y s1 (b := (-o).toNat % 60) (by rw [e3]; rfl) (by (first | lia | omega))
    exact ⟨s2, by rw [zV_m b0 v1 v2]; (first | lia | omega)⟩
  · rw [osT_p c] at h
    obtain ⟨b0, s0⟩ := z0_p h
    have e1 := dr h 1
    have e3 : l.drop (n + 1 + 2) = figs (o.toNat % 60) 2 := by rw [dr e1 2]; rfl
    obtain ⟨v1, s1⟩ := z1_s s0 (a := o.toNat / 60) (by rw [e1]; rfl) (by (first | lia | omega))
    obtain ⟨v2, s2⟩ := z2_y s1 (b := o.toNat % 60) (by rw [e3]; rfl) (by (first | lia | omega))
    exact ⟨s2, by rw [zV_p b0 v1 v2]; (first | lia | omega)⟩
end
end

section -- T17
theorem rst_T17 : True := by
  w_top off
  trivial
open PySem PySem.W PySem.Calls PyProof.Rows
theorem tof_b {y m d h i s ms : Int} (y0 : 0 ≤ y) (y1 : y ≤ 9999) (m0 : 0 ≤ m) (m1 : m ≤ 11) (d0 : 0 ≤ d) (d1 : d ≤ 40) (h0 : 0 ≤ h) (h1 : h ≤ 24) (i0 : 0 ≤ i) (i1 : i ≤ 59) (s0 : 0 ≤ s) (s1 : s ≤ 59) (g0 : 0 ≤ ms) (g1 : ms ≤ 999) : -80000000000000 ≤ tof y m d h i s ms ∧ tof y m d h i s ms ≤ 800000000000000 := by
  have := mkDay_bnd y0 y1 m0 m1 d0 d1
  unfold tof; (first | lia | omega)
section
variable {y m d h i s : Int} {b : List Nat}
/-- all numbers of an ISO text stand -/
structure Ok (y m d h i s : Int) : Prop where
  y0 : 0 ≤ y
  y1 : y ≤ 9999
  m0 : 0 ≤ m
  m1 : m ≤ 11
  d0 : 1 ≤ d
  d1 : d ≤ daysOf y m
  h0 : 0 ≤ h
  h1 : h ≤ 24
  i0 : 0 ≤ i
  i1 : i ≤ 59
  s0 : 0 ≤ s
  s1 : s ≤ 59
theorem Ok.d2 (f : Ok y m d h i s) : d ≤ 31 := Int.le_trans f.d1 (daysOf_le f.m0 f.m1).2
theorem Ok.eq (f : Ok y m d h i s) : isI y m d h i s b = isoN y.toNat (m + 1).toNat d.toNat h.toNat i.toNat s.toNat b := isI_N f.y0 (by have := f.m0; (first | lia | omega)) (by have := f.d0; (first | lia | omega)) f.h0 f.i0 f.s0
theorem Ok.A (f : Ok y m d h i s) : isoK (isI y m d h i s b) ∧ parseIso (isI y m d h i s b) = piEnd (isI y m d h i s b) ⟨10, false⟩ y (m + 1) d := is_A f.y0 f.y1 f.m0 f.m1 f.d0 f.d1 f.h0 f.i0 f.s0
theorem clipT (f : Ok y m d h i s) {L O : Int} (l0 : 0 ≤ L) (l1 : L ≤ 999) (o0 : -1439 ≤ O) (o1 : O ≤ 1439) : clipF (tof y m d h i s L - O * 60000) = some (tof y m d h i s L - O * 60000) := by
  have := tof_b (d := d) (ms := L) f.y0 f.y1 f.m0 f.m1 (by have := f.d0; (first | lia | omega)) (by have := f.d2; (first | lia | omega)) f.h0 f.h1 f.i0 f.i1 f.s0 f.s1 l0 l1
  exact clip_in (by (first | lia | omega)) (by (first | lia | omega))
theorem tofE (f : Ok y m d h i s) {L : Nat} : tof y (m + 1 - 1) d ((h.toNat : Nat) : Int) ((i.toNat : Nat) : Int) ((s.toNat : Nat) : Int) (L : Int) = tof y m d h i s L := by
  rw [show m + 1 - 1 = m by (first | lia | omega), show ((h.toNat : Nat) : Int) = h by have := f.h0; (first | lia | omega), show ((i.toNat : Nat) : Int) = i by have := f.i0; (first | lia | omega), show ((s.toNat : Nat) : Int) = s by have := f.s0; (first | lia | omega)]
/-- thousandths and Z -/
theorem v_msZ (f : Ok y m d h i s) {L : Nat} (hL : L ≤ 999) (hb : h ≤ 23 ∨ i + s + L = 0) : PiV (isI y m d h i s (46 :: (figs L 3 ++ [90]))) (tof y m d h i s L) := by
  refine ⟨by rw [is_len]; simp [figs_len], f.A.1, ?_⟩
  have ⟨h0, h1, i0, i1, s0, s1⟩ := (⟨f.h0, f.h1, f.i0, f.i1, f.s0, f.s1⟩ : _ ∧ _ ∧ _ ∧ _ ∧ _ ∧ _)
  rw [f.A.2, f.eq, pe_Z (n := 23) (iso_ms (by (first | lia | omega)) (by (first | lia | omega)) (by (first | lia | omega)) hL (by (first | lia | omega))) rfl (by rw [iso_len]; simp [figs_len]), iso_cH (by (first | lia | omega)), iso_cM (by (first | lia | omega)) (by (first | lia | omega)), iso_cC (by (first | lia | omega)) (by (first | lia | omega)) (by (first | lia | omega)), iso_msL (by (first | lia | omega)) (by (first | lia | omega)) (by (first | lia | omega)) hL, tofE f,
    clipT f (O := 0) (by (first | lia | omega)) (by (first | lia | omega)) (by decide) (by decide)]
  simp
/-- thousandths alone -/
theorem v_ms0 (f : Ok y m d h i s) {L : Nat} (hL : L ≤ 999) (hb : h ≤ 23 ∨ i + s + L = 0) : PiV (isI y m d h i s (46 :: (figs L 3 ++ []))) (tof y m d h i s L) := by
  refine ⟨by rw [is_len]; simp [figs_len], f.A.1, ?_⟩
  have ⟨h0, h1, i0, i1, s0, s1⟩ := (⟨f.h0, f.h1, f.i0, f.i1, f.s0, f.s1⟩ : _ ∧ _ ∧ _ ∧ _ ∧ _ ∧ _)
  rw [f.A.2, f.eq, pe_0 (n := 23) (iso_ms (by (first | lia | omega)) (by (first | lia | omega)) (by (first | lia | omega)) hL (by (first | lia | omega))) (by rw [iso_len]; simp [figs_len]), iso_cH (by (first | lia | omega)), iso_cM (by (first | lia | omega)) (by (first | lia | omega)), iso_cC (by (first | lia | omega)) (by (first | lia | omega)) (by (first | lia | omega)), iso_msL (by (first | lia | omega)) (by (first | lia | omega)) (by (first | lia | omega)) hL, tofE f,
    clipT f (O := 0) (by (first | lia | omega)) (by (first | lia | omega)) (by decide) (by decide)]
  simp
/-- thousandths and an offset -/
theorem v_msO (f : Ok y m d h i s) {L : Nat} {o : Int} (hL : L ≤ 999) (hb : h ≤ 23) (o0 : -1439 ≤ o) (o1 : o ≤ 1439) : PiV (isI y m d h i s (46 :: (figs L 3 ++ osT o [58]))) (tof y m d h i s L - o * 60000) := by
  refine ⟨by rw [is_len]; simp [figs_len, osT_len], f.A.1, ?_⟩
  have ⟨h0, h1, i0, i1, s0, s1⟩ := (⟨f.h0, f.h1, f.i0, f.i1, f.s0, f.s1⟩ : _ ∧ _ ∧ _ ∧ _ ∧ _ ∧ _)
  have hd : (isoN y.toNat (m + 1).toNat d.toNat h.toNat i.toNat s.toNat (46 :: (figs L 3 ++ osT o [58]))).drop 23 = osT o [58] := rfl
  obtain ⟨zs, zv⟩ := zone_i hd o0 o1
  have hne : ((isoN y.toNat (m + 1).toNat d.toNat h.toNat i.toNat s.toNat (46 :: (figs L 3 ++ osT o [58]))).drop 23).take ([90] : List Nat).length ≠ [90] := by
    rw [hd]
    by_cases c : o < 0
    · rw [osT_m c]; simp
    · rw [osT_p c]; simp
  rw [f.A.2, f.eq, pe_zn (n := 23) (iso_ms (by (first | lia | omega)) (by (first | lia | omega)) (by (first | lia | omega)) hL (by (first | lia | omega))) hne (by rw [iso_len]; simp [figs_len, osT_len]) (by rw [zs]; exact ends_y (by rw [iso_len]; simp [figs_len, osT_len])), zv, iso_cH (by (first | lia | omega)), iso_cM (by (first | lia | omega)) (by (first | lia | omega)), iso_cC (by (first | lia | omega)) (by (first | lia | omega)) (by (first | lia | omega)), iso_msL (by (first | lia | omega)) (by (first | lia | omega)) (by (first | lia | omega)) hL, tofE f,
    clipT f (by (first | lia | omega)) (by (first | lia | omega)) o0 o1]
/-- an offset without thousandths -/
theorem v_nO (f : Ok y m d h i s) {o : Int} (hb : h ≤ 23) (o0 : -1439 ≤ o) (o1 : o ≤ 1439) : PiV (isI y m d h i s (osT o [58])) (tof y m d h i s (0 : Nat) - o * 60000) := by
  refine ⟨by rw [is_len]; simp [osT_len], f.A.1, ?_⟩
  have ⟨h0, h1, i0, i1, s0, s1⟩ := (⟨f.h0, f.h1, f.i0, f.i1, f.s0, f.s1⟩ : _ ∧ _ ∧ _ ∧ _ ∧ _ ∧ _)
  have hd : (isoN y.toNat (m + 1).toNat d.toNat h.toNat i.toNat s.toNat (osT o [58])).drop 19 = osT o [58] := rfl
  obtain ⟨zs, zv⟩ := zone_i hd o0 o1
  have hdot : (osT o [58]).take 1 ≠ [46] := by
    by_cases c : o < 0
    · rw [osT_m c]; simp
    · rw [osT_p c]; simp
  have hne : ((isoN y.toNat (m + 1).toNat d.toNat h.toNat i.toNat s.toNat (osT o [58])).drop 19).take ([90] : List Nat).length ≠ [90] := by
    rw [hd]
    by_cases c : o < 0
    · rw [osT_m c]; simp
    · rw [osT_p c]; simp
  rw [f.A.2, f.eq, pe_zn (n := 19) (iso_ns (by (first | lia | omega)) (by (first | lia | omega)) (by (first | lia | omega)) hdot) hne (by rw [iso_len]; simp [osT_len]) (by rw [zs]; exact ends_y (by rw [iso_len]; simp [osT_len])), zv, iso_cH (by (first | lia | omega)), iso_cM (by (first | lia | omega)) (by (first | lia | omega)), iso_cC (by (first | lia | omega)) (by (first | lia | omega)) (by (first | lia | omega)), iso_nsL (by (first | lia | omega)) (by (first | lia | omega)) (by (first | lia | omega)) hdot]
  have := tofE f (L := 0)
  simp only [Int.natCast_zero] at this ⊢
  rw [this]
  have := clipT f (L := 0) (by decide) (by decide) o0 o1
  exact this
theorem v_nZ (f : Ok y m d h i s) (hb : h ≤ 23) : PiV (isI y m d h i s [90]) (tof y m d h i s (0 : Nat)) := by
  refine ⟨by rw [is_len]; simp, f.A.1, ?_⟩
  have ⟨h0, h1, i0, i1, s0, s1⟩ := (⟨f.h0, f.h1, f.i0, f.i1, f.s0, f.s1⟩ : _ ∧ _ ∧ _ ∧ _ ∧ _ ∧ _)
  rw [f.A.2, f.eq, pe_Z (n := 19) (iso_ns (by (first | lia | omega)) (by (first | lia | omega)) (by (first | lia | omega)) (by decide)) rfl (by rw [iso_len]; rfl), iso_cH (by (first | lia | omega)), iso_cM (by (first | lia | omega)) (by (first | lia | omega)), iso_cC (by (first | lia | omega)) (by (first | lia | omega)) (by (first | lia | omega)), iso_nsL (by (first | lia | omega)) (by (first | lia | omega)) (by (first | lia | omega)) (by decide)]
  have := tofE f (L := 0)
  simp only [Int.natCast_zero] at this ⊢
  rw [this]
  have := clipT f (L := 0) (O := 0) (by decide) (by decide) (by decide) (by decide)
  simpa using this
theorem v_n0 (f : Ok y m d h i s) (hb : h ≤ 23) : PiV (isI y m d h i s []) (tof y m d h i s (0 : Nat)) := by
  refine ⟨by rw [is_len]; simp, f.A.1, ?_⟩
  have ⟨h0, h1, i0, i1, s0, s1⟩ := (⟨f.h0, f.h1, f.i0, f.i1, f.s0, f.s1⟩ : _ ∧ _ ∧ _ ∧ _ ∧ _ ∧ _)
  rw [f.A.2, f.eq, pe_0 (n := 19) (iso_ns (by (first | lia | omega)) (by (first | lia | omega)) (by (first | lia | omega)) (by decide)) (by rw [iso_len]; rfl), iso_cH (by (first | lia | omega)), iso_cM (by (first | lia | omega)) (by (first | lia | omega)), iso_cC (by (first | lia | omega)) (by (first | lia | omega)) (by (first | lia | omega)), iso_nsL (by (first | lia | omega)) (by (first | lia | omega)) (by (first | lia | omega)) (by decide)]
  have := tofE f (L := 0)
  simp only [Int.natCast_zero] at this ⊢
  rw [this]
  have := clipT f (L := 0) (O := 0) (by decide) (by decide) (by decide) (by decide)
  simpa using this
theorem PiV.S {l : List Nat} {v : Int} (h : PiV l v) : OkS l := ⟨h.1, h.2.1, v, h.2.2⟩
/-- a bad zone behind the seconds -/
theorem n_zone (f : Ok y m d h i s) (hb : h ≤ 23) (hl : b.length ≤ 20) (hdot : b.take 1 ≠ [46]) (hz : b.take 1 ≠ [90]) (h0' : 0 < b.length) (he : (znS (isI y m d h i s b) ⟨19, false⟩ true).b = true) : OkN (isI y m d h i s b) := by
  refine ⟨by rw [is_len]; (first | lia | omega), f.A.1, ?_⟩
  have ⟨h0, h1, i0, i1, s0, s1⟩ := (⟨f.h0, f.h1, f.i0, f.i1, f.s0, f.s1⟩ : _ ∧ _ ∧ _ ∧ _ ∧ _ ∧ _)
  rw [f.A.2]
  rw [f.eq] at he ⊢
  exact pe_zb (n := 19) (iso_ns (by (first | lia | omega)) (by (first | lia | omega)) (by (first | lia | omega)) hdot) hz (by rw [iso_len]; (first | lia | omega)) (ends_b he)
end
end

section -- T18
theorem rst_T18 : True := by
  w_top off
  trivial
open PySem PySem.W PySem.Calls PyProof.Rows
section
variable {y m h i s : Int} {b : List Nat}
theorem n_h (f : Ok y m 1 0 0 0) {H I S : Nat} (hH : H < 100) (hb : 24 < H) (hl : b.length ≤ 20) : OkN (isI y m 1 H I S b) := by
  refine ⟨by rw [is_len]; (first | lia | omega), ?_⟩
  have A := is_A (h := H) (i := I) (s := S) (b := b) f.y0 f.y1 f.m0 f.m1 f.d0 f.d1 (by (first | lia | omega)) (by (first | lia | omega)) (by (first | lia | omega))
  refine ⟨A.1, ?_⟩
  rw [A.2, isI_N f.y0 (by have := f.m0; (first | lia | omega)) (by decide) (by (first | lia | omega)) (by (first | lia | omega)) (by (first | lia | omega))]
  exact iso_w1 (by (first | lia | omega)) (by (first | lia | omega))
theorem n_i (f : Ok y m 1 0 0 0) {H I S : Nat} (hH : H ≤ 24) (hI : I < 100) (hb : 59 < I) (hl : b.length ≤ 20) : OkN (isI y m 1 H I S b) := by
  refine ⟨by rw [is_len]; (first | lia | omega), ?_⟩
  have A := is_A (h := H) (i := I) (s := S) (b := b) f.y0 f.y1 f.m0 f.m1 f.d0 f.d1 (by (first | lia | omega)) (by (first | lia | omega)) (by (first | lia | omega))
  refine ⟨A.1, ?_⟩
  rw [A.2, isI_N f.y0 (by have := f.m0; (first | lia | omega)) (by decide) (by (first | lia | omega)) (by (first | lia | omega)) (by (first | lia | omega))]
  exact iso_w2 (by (first | lia | omega)) (by (first | lia | omega)) (by (first | lia | omega))
theorem n_s (f : Ok y m 1 0 0 0) {H I S : Nat} (hH : H ≤ 24) (hI : I ≤ 59) (hS : S < 100) (hb : 59 < S) (hl : b.length ≤ 20) : OkN (isI y m 1 H I S b) := by
  refine ⟨by rw [is_len]; (first | lia | omega), ?_⟩
  have A := is_A (h := H) (i := I) (s := S) (b := b) f.y0 f.y1 f.m0 f.m1 f.d0 f.d1 (by (first | lia | omega)) (by (first | lia | omega)) (by (first | lia | omega))
  refine ⟨A.1, ?_⟩
  rw [A.2, isI_N f.y0 (by have := f.m0; (first | lia | omega)) (by decide) (by (first | lia | omega)) (by (first | lia | omega)) (by (first | lia | omega))]
  exact iso_w3 (by (first | lia | omega)) (by (first | lia | omega)) (by (first | lia | omega)) (by (first | lia | omega))
theorem n_24 (f : Ok y m 1 0 0 0) : OkN (isI y m 1 24 0 1 [46, 48, 48, 48, 90]) := by
  refine ⟨by rw [is_len]; decide, ?_⟩
  have A := is_A (h := 24) (i := 0) (s := 1) (b := [46, 48, 48, 48, 90]) f.y0 f.y1 f.m0 f.m1 f.d0 f.d1 (by (first | lia | omega)) (by (first | lia | omega)) (by (first | lia | omega))
  refine ⟨A.1, ?_⟩
  rw [A.2, isI_N f.y0 (by have := f.m0; (first | lia | omega)) (by decide) (by decide) (by decide) (by decide)]
  exact iso_w4 (I := 0) (S := 1) (L := 0) (r := [90]) (by decide) (by decide) (by decide) (by decide)
theorem okT (f : Ok y m 1 0 0 0) {H I S : Int} (h0 : 0 ≤ H) (h1 : H ≤ 24) (i0 : 0 ≤ I) (i1 : I ≤ 59) (s0 : 0 ≤ S) (s1 : S ≤ 59) : Ok y m 1 H I S := ⟨f.y0, f.y1, f.m0, f.m1, f.d0, f.d1, h0, h1, i0, i1, s0, s1⟩
theorem mk0 (y0 : 0 ≤ y) (y1 : y ≤ 9999) (m0 : 0 ≤ m) (m1 : m ≤ 11) : Ok y m 1 0 0 0 := ⟨y0, y1, m0, m1, by decide, by have := (daysOf_le (y := y) m0 m1).1; (first | lia | omega), by decide, by decide, by decide, by decide, by decide, by decide⟩
theorem dropI (f : Ok y m 1 3 4 5) : (isI y m 1 3 4 5 b).drop 19 = b := by rw [f.eq]; rfl
theorem br_all (y0 : 0 ≤ y) (y1 : y ≤ 9999) (m0 : 0 ≤ m) (m1 : m ≤ 11) (h0 : 0 ≤ h) (h1 : h ≤ 23) (i0 : 0 ≤ i) (i1 : i ≤ 59) (s0 : 0 ≤ s) (s1 : s ≤ 59) : BR y m h i s := by
  have f := mk0 y0 y1 m0 m1
  have dl := daysOf_le (y := y) m0 m1
  have f3 := okT f (H := 3) (I := 4) (S := 5) (by decide) (by decide) (by decide) (by decide) (by decide) (by decide)
  have z : ([46, 48, 48, 48, 90] : List Nat) = 46 :: (figs 0 3 ++ [90]) := rfl
  have len := lenF_daysOf (y := y) m0 m1
  have dr19 := fun b => dropI (b := b) f3
  refine ⟨?_, ?_, ?_, ?_, ?_, ?_, ?_, ?_, ?_, ?_, ?_, ?_, ?_, ?_, ?_, ?_, ?_, ?_, ?_, ?_, ?_, ?_, ?_, ?_, ?_, ?_, ?_, ?_⟩
  · rw [len, z]; exact (v_msZ ⟨y0, y1, m0, m1, by (first | lia | omega), by (first | lia | omega), h0, by (first | lia | omega), i0, i1, s0, s1⟩ (by decide) (by (first | lia | omega))).S
  · rw [len]; exact is_B y0 y1 m0 m1 (by (first | lia | omega)) (by (first | lia | omega)) (by (first | lia | omega)) h0 i0 s0 (by decide)
  · rw [z]; exact (v_msZ ⟨y0, y1, m0, m1, by (first | lia | omega), by (first | lia | omega), h0, by (first | lia | omega), i0, i1, s0, s1⟩ (by decide) (by (first | lia | omega))).S
  · exact is_B y0 y1 m0 m1 (by (first | lia | omega)) (by (first | lia | omega)) (by (first | lia | omega)) h0 i0 s0 (by decide)
  · have := daysOf_le (y := y) (m := 11) (by decide) (by decide)
    rw [z]; exact (v_msZ ⟨y0, y1, by decide, by decide, by (first | lia | omega), by (first | lia | omega), h0, by (first | lia | omega), i0, i1, s0, s1⟩ (by decide) (by (first | lia | omega))).S
  · exact is_C y0 y1 (by (first | lia | omega)) (by (first | lia | omega)) h0 i0 s0 (by decide)
  · have := daysOf_le (y := y) (m := 0) (by decide) (by decide)
    rw [z]; exact (v_msZ ⟨y0, y1, by decide, by decide, by (first | lia | omega), by (first | lia | omega), h0, by (first | lia | omega), i0, i1, s0, s1⟩ (by decide) (by (first | lia | omega))).S
  · exact is_C y0 y1 (by (first | lia | omega)) (by (first | lia | omega)) h0 i0 s0 (by decide)
  · rw [z]; exact (v_msZ (okT f (by decide) (by decide) (by decide) (by decide) (by decide) (by decide)) (by decide) (by (first | lia | omega))).S
  · exact n_h f (H := 25) (I := 0) (S := 0) (by decide) (by decide) (by decide)
  · rw [z]; exact (v_msZ (okT f (by decide) (by decide) (by decide) (by decide) (by decide) (by decide)) (by decide) (by (first | lia | omega))).S
  · exact n_24 f
  · rw [z]; exact (v_msZ (okT f (by decide) (by decide) (by decide) (by decide) (by decide) (by decide)) (by decide) (by (first | lia | omega))).S
  · exact n_i f (H := 5) (I := 60) (S := 0) (by decide) (by decide) (by decide) (by decide)
  · rw [z]; exact (v_msZ (okT f (by decide) (by decide) (by decide) (by decide) (by decide) (by decide)) (by decide) (by (first | lia | omega))).S
  · exact n_s f (H := 5) (I := 0) (S := 60) (by decide) (by decide) (by decide) (by decide) (by decide)
  · exact (v_nO f3 (o := 1439) (by decide) (by decide) (by decide)).S
  · obtain ⟨_, e0⟩ := z0_p (dr19 [43, 50, 52, 58, 48, 48])
    exact n_zone f3 (by decide) (by decide) (by decide) (by decide) (by decide) (znS_b (z1_r e0 (a := 24) (by rw [dr (dr19 _) 1]; rfl) (by decide) (by decide)))
  · exact (v_nO f3 (o := -59) (by decide) (by decide) (by decide)).S
  · obtain ⟨_, e0⟩ := z0_m (dr19 [45, 48, 48, 58, 54, 48])
    obtain ⟨_, e1⟩ := z1_i e0 (a := 0) (by rw [dr (dr19 _) 1]; rfl) (by decide) (by rw [dr (dr19 _) 3]; rfl)
    exact n_zone f3 (by decide) (by decide) (by decide) (by decide) (by decide) (z2_r e1 (b := 60) (by rw [dr (dr19 _) 4]; rfl) (by decide) (by decide))
  · exact (v_msZ f3 (L := 999) (by decide) (by decide)).S
  · refine ⟨by rw [is_len]; decide, f3.A.1, ?_⟩
    rw [f3.A.2, f3.eq]
    exact pe_wrong iso_h10 (by rw [iso_s10]; exact iso_msB (by decide) (by decide) (by decide) rfl rfl)
  · exact (v_nZ f3 (by decide)).S
  · refine ⟨by rw [is_len]; decide, f3.A.1, ?_⟩
    rw [f3.A.2, f3.eq]
    exact pe_Zb (n := 19) (iso_ns (by decide) (by decide) (by decide) (by decide)) rfl (by rw [iso_len]; decide)
  · exact (v_n0 f3 (by decide)).S
  · exact n_zone f3 (by decide) (by decide) (by decide) (by decide) (by decide) (znS_b (znS1_b (z0_b (by rw [dr19]; decide) (by rw [dr19]; decide))))
  · exact (v_ms0 f3 (L := 0) (by decide) (by decide)).S
  · obtain ⟨_, e0⟩ := z0_p (dr19 [43, 48, 49, 48, 48])
    exact n_zone f3 (by decide) (by decide) (by decide) (by decide) (by decide) (znS_b (z1_c e0 (a := 1) (by rw [dr (dr19 _) 1]; rfl) (by decide) (by rw [dr (dr19 _) 3]; decide)))
end
end

section -- T19
theorem rst_T19 : True := by
  w_top off
  trivial
open PySem PySem.W PySem.Calls PyProof.Rows
section
variable {l W Mo : List Nat} {s : RS} {wd mo da : Int} {u : Bool}
theorem st_wd (h : l.take 3 = W) (hW : W ∈ wdL) : amS wdL l rs0 = ⟨3, false⟩ ∧ amV wdL l rs0 = (wdL.idxOf W : Nat) := by
  have e : cut l rs0 3 = W := h
  have k : amOk wdL l rs0 = true := by unfold amOk; rw [e]; simpa [rs0] using hW
  unfold amS amV; rw [if_pos k, if_pos k, e]; exact ⟨rfl, rfl⟩
theorem st_wdB (h : l.take 3 ∉ wdL) : (amS wdL l rs0).b = true := by
  have e : cut l rs0 3 = l.take 3 := rfl
  have k : amOk wdL l rs0 = false := by unfold amOk; rw [e]; simpa [rs0] using h
  unfold amS; rw [if_neg (by simp [k])]
theorem st_mo {p : Nat} (h : (l.drop p).take 3 = Mo) (hM : Mo ∈ moL) : amS moL l ⟨p, false⟩ = ⟨p + 3, false⟩ ∧ amV moL l ⟨p, false⟩ = (moL.idxOf Mo : Nat) := by
  have e : cut l ⟨p, false⟩ 3 = Mo := h
  have k : amOk moL l ⟨p, false⟩ = true := by unfold amOk; rw [e]; simpa using hM
  unfold amS amV; rw [if_pos k, if_pos k, e]; exact ⟨rfl, rfl⟩
theorem st_moB {p : Nat} (h : (l.drop p).take 3 ∉ moL) : (amS moL l ⟨p, false⟩).b = true := by
  have k : amOk moL l ⟨p, false⟩ = false := by unfold amOk cut; simpa using h
  unfold amS; rw [if_neg (by simp [k])]
theorem tgS_b (h : s.b = true) : (tgS l s).b = true := needS_b (ckS_b (ckS2_b (ckS1_b (needS_b (lyS_b (needS_b h))))))
theorem psEnd_b (h : (tgS l s).b = true) : (psEnd l s u).b = true := by
  unfold psEnd; split
  · exact h
  · exact znS_b (znS1_b (znS0_b h))
theorem ps_none (h : (psEnd l s u).b = true) : psTail l wd s mo da u = none := by unfold psTail; rw [if_neg (by rw [ends_b h]; simp)]
theorem ps_bad (h : s.b = true) : psTail l wd s mo da u = none := ps_none (psEnd_b (tgS_b h))
/-- a text whose week day is none -/
theorem sh_0 (h : l.take 3 ∉ wdL) : parseShown l = none := by
  have k := st_wdB h
  have b2 : (us2 l).b = true := hasS_b k
  unfold parseShown
  rw [hasB_b k, if_neg (by simp)]
  exact ps_bad (numS_b (needS_b (amS_b (needS_b b2))))
/-- behind the week day -/
theorem sh_1 (h : l.take 3 = W) (hW : W ∈ wdL) (a : (l.drop 3).take 1 = [32]) : vs3 l = ⟨4, false⟩ ∧ parseShown l = psTail l (wdL.idxOf W : Nat) (numS l (vs5 l) 2 1 31) (amV moL l ⟨4, false⟩) (numV l (vs5 l) 2 1 31) false := by
  obtain ⟨e, v⟩ := st_wd h hW
  have n2 : (l.drop 3).take ([44, 32] : List Nat).length ≠ [44, 32] := by
    intro q
    have : ((l.drop 3).take 2).take 1 = [44] := by
      have q' : (l.drop 3).take 2 = [44, 32] := q
      rw [q']; rfl
    rw [List.take_take] at this
    have a' : (l.drop 3).take (min 1 2) = [32] := a
    rw [a'] at this; cases this
  have v3 : vs3 l = ⟨4, false⟩ := by unfold vs3 us2; rw [e, hasS_n n2]; exact need_y a
  refine ⟨v3, ?_⟩
  unfold parseShown
  rw [e, has_n n2, if_neg (by simp), v3, v]
theorem sh_2 (v3 : vs3 l = ⟨4, false⟩) (h : (l.drop 4).take 3 = Mo) (hM : Mo ∈ moL) (a : (l.drop 7).take 1 = [32]) : vs5 l = ⟨8, false⟩ ∧ amV moL l ⟨4, false⟩ = (moL.idxOf Mo : Nat) := by
  obtain ⟨e, v⟩ := st_mo h hM
  refine ⟨?_, v⟩
  unfold vs5; rw [v3, e]; exact need_y a
theorem sh_2b (v3 : vs3 l = ⟨4, false⟩) (h : (l.drop 4).take 3 ∉ moL) : (vs5 l).b = true := by
  unfold vs5; rw [v3]; exact needS_b (st_moB h)
theorem tw_le (f : Nat → Bool) : ∀ (r : List Nat) (j c : Nat), r[j]? = some c → f c = false → (r.takeWhile f).length ≤ j
  | [], j, c, h, _ => by simp at h
  | a :: r, 0, c, h, hf => by
    simp only [List.getElem?_cons_zero, Option.some.injEq] at h
    subst h
    rw [List.takeWhile_cons, if_neg (by simp [hf])]; simp
  | a :: r, j + 1, c, h, hf => by
    rw [List.takeWhile_cons]
    split
    · have := tw_le f r j c (by simpa using h) hf
      simp only [List.length_cons]; (first | lia | omega)
    · simp
theorem lyK_4 {p j c : Nat} (n : (l.drop p).take 1 ≠ [45]) (h : (l.drop p)[j]? = some c) (hc : isDig c = false) (hj : j ≤ 4) : lyK l ⟨p, false⟩ = 4 := by
  have n' : (l.drop p).take ([45] : List Nat).length ≠ [45] := n
  unfold lyK run
  rw [hasS_n n']
  have := tw_le isDig _ j c h hc
  show max 4 ((l.drop p).takeWhile isDig).length = 4
  (first | lia | omega)
theorem ly_y {p y c : Nat} (n : (l.drop p).take 1 ≠ [45]) (h : (l.drop p).take 4 = figs y 4) (hy : y < 10000) (h4 : (l.drop p)[4]? = some c) (hc : isDig c = false) : lyS l ⟨p, false⟩ = ⟨p + 4, false⟩ ∧ lyV l ⟨p, false⟩ = y := by
  have n' : (l.drop p).take ([45] : List Nat).length ≠ [45] := n
  have k := lyK_4 n h4 hc (by decide)
  unfold lyS lyV
  rw [has_n n', if_neg (by simp), hasS_n n', k]
  exact ⟨numS_y h (by decide) (by (first | lia | omega)) (by (first | lia | omega)) (by (first | lia | omega)), numV_y h (by decide) (by (first | lia | omega)) (by (first | lia | omega)) (by (first | lia | omega))⟩
theorem ly_b {p j c : Nat} (n : (l.drop p).take 1 ≠ [45]) (h4 : (l.drop p)[j]? = some c) (hj : j ≤ 3) (hc : isDig c = false) (hd : ((l.drop p).take 4).all isDig = false) : (lyS l ⟨p, false⟩).b = true := by
  have n' : (l.drop p).take ([45] : List Nat).length ≠ [45] := n
  have k := lyK_4 n h4 hc (by (first | lia | omega))
  unfold lyS
  rw [hasS_n n', k, numS_d hd]
/-- the clock -/
theorem ck_1 {p h : Nat} (a : (l.drop p).take 2 = figs h 2) (hh : h ≤ 23) (b : (l.drop (p + 2)).take 1 = [58]) : numV l ⟨p, false⟩ 2 0 23 = h ∧ ckS1 l ⟨p, false⟩ = ⟨p + 3, false⟩ := by
  refine ⟨numV_y a (by decide) (by (first | lia | omega)) (by (first | lia | omega)) (by (first | lia | omega)), ?_⟩
  unfold ckS1; rw [numS_y a (by decide) (by (first | lia | omega)) (by (first | lia | omega)) (by (first | lia | omega))]; exact need_y b
theorem ck_1b {p h : Nat} (a : (l.drop p).take 2 = figs h 2) (hh : h < 100) (hb : 23 < h) : (ckS1 l ⟨p, false⟩).b = true := by
  unfold ckS1; rw [numS_r a (by decide) hh (by (first | lia | omega))]; exact needS_b rfl
theorem ck_2 {q i : Nat} (e : ckS1 l s = ⟨q, false⟩) (a : (l.drop q).take 2 = figs i 2) (hh : i ≤ 59) (b : (l.drop (q + 2)).take 1 = [58]) : numV l (ckS1 l s) 2 0 59 = i ∧ ckS2 l s = ⟨q + 3, false⟩ := by
  refine ⟨by rw [e]; exact numV_y a (by decide) (by (first | lia | omega)) (by (first | lia | omega)) (by (first | lia | omega)), ?_⟩
  unfold ckS2; rw [e, numS_y a (by decide) (by (first | lia | omega)) (by (first | lia | omega)) (by (first | lia | omega))]; exact need_y b
theorem ck_2b {q i : Nat} (e : ckS1 l s = ⟨q, false⟩) (a : (l.drop q).take 2 = figs i 2) (hh : i < 100) (hb : 59 < i) : (ckS2 l s).b = true := by
  unfold ckS2; rw [e, numS_r a (by decide) hh (by (first | lia | omega))]; exact needS_b rfl
theorem ck_3 {q i : Nat} (e : ckS2 l s = ⟨q, false⟩) (a : (l.drop q).take 2 = figs i 2) (hh : i ≤ 59) : numV l (ckS2 l s) 2 0 59 = i ∧ ckS l s = ⟨q + 2, false⟩ := by
  refine ⟨by rw [e]; exact numV_y a (by decide) (by (first | lia | omega)) (by (first | lia | omega)) (by (first | lia | omega)), ?_⟩
  unfold ckS; rw [e]; exact numS_y a (by decide) (by (first | lia | omega)) (by (first | lia | omega)) (by (first | lia | omega))
theorem ck_3b {q i : Nat} (e : ckS2 l s = ⟨q, false⟩) (a : (l.drop q).take 2 = figs i 2) (hh : i < 100) (hb : 59 < i) : (ckS l s).b = true := by
  unfold ckS; rw [e, numS_r a (by decide) hh (by (first | lia | omega))]
end
end

section -- T20
theorem rst_T20 : True := by
  w_top off
  trivial
open PySem PySem.W PySem.Calls PyProof.Rows
/-- the builder of shown texts -/
noncomputable def tx (W Mo D Y H I S g z : List Nat) : List Nat := W ++ [32] ++ Mo ++ [32] ++ D ++ [32] ++ Y ++ [32] ++ (H ++ [58] ++ I ++ [58] ++ S) ++ g ++ z
theorem three {L : List (List Nat)} (h : ∀ l ∈ L, l.length = 3) {k : Nat} (hk : k < L.length) : ∃ a b c, L.getD k [] = [a, b, c] := by
  have m : L.getD k [] ∈ L := by rw [List.getD_eq_getElem?_getD, List.getElem?_eq_getElem hk]; exact List.getElem_mem hk
  have e := h _ m
  match L.getD k [], e with
  | [a, b, c], _ => exact ⟨a, b, c, rfl⟩
theorem wd_3 {k : Int} (h0 : 0 ≤ k) (h1 : k < 7) : ∃ a b c, wdN k = [a, b, c] := three (by decide) (by show k.toNat < 7; (first | lia | omega))
theorem mo_3 {k : Int} (h0 : 0 ≤ k) (h1 : k < 12) : ∃ a b c, moN k = [a, b, c] := three (by decide) (by show k.toNat < 12; (first | lia | omega))
theorem wd_in {k : Int} (h0 : 0 ≤ k) (h1 : k < 7) : wdN k ∈ wdL ∧ wdL.idxOf (wdN k) = k.toNat := by
  unfold wdN
  exact (by decide : ∀ j : Nat, j < 7 → wdL.getD j [] ∈ wdL ∧ wdL.idxOf (wdL.getD j []) = j) k.toNat (by (first | lia | omega))
theorem mo_in {k : Int} (h0 : 0 ≤ k) (h1 : k < 12) : moN k ∈ moL ∧ moL.idxOf (moN k) = k.toNat := by
  unfold moN
  exact (by decide : ∀ j : Nat, j < 12 → moL.getD j [] ∈ moL ∧ moL.idxOf (moL.getD j []) = j) k.toNat (by (first | lia | omega))
/-- no shown text is an ISO text: it starts with a letter -/
theorem iso_let {c : Nat} {r : List Nat} (h : isDig c = false) (h1 : c ≠ 43) (h2 : c ≠ 45) : isoK (c :: r) ∧ parseIso (c :: r) = none := by
  have n1 : ((c :: r).drop 0).take ([43] : List Nat).length ≠ [43] := by intro e; injection e with e; exact h1 e
  have n2 : ((c :: r).drop 0).take ([45] : List Nat).length ≠ [45] := by intro e; injection e with e; exact h2 e
  have d : (((c :: r).drop 0).take 4).all isDig = false := by simp [h]
  have y : yearS (c :: r) rs0 = ⟨0, true⟩ := by
    simp only [yearS, rs0, has_n n1, hasS_n n1, has_n n2, hasS_n n2, Bool.false_eq_true, if_false]
    exact numS_d d
  refine ⟨.inr (.inr (.inr ⟨by rw [y]; exact has_w, by rw [y, hasS_w]; exact has_w⟩)), ?_⟩
  rw [pi_D (by rw [y]; exact has_w), y, hasS_w]
  exact pe_8 has_w (by rw [hasS_w]; exact ends_w)
theorem Wr_of {l : List Nat} {c : Nat} {r : List Nat} (e : l = c :: r) (hl : l.length ≤ 50) (h : isDig c = false) (h1 : c ≠ 43) (h2 : c ≠ 45) (hs : parseShown l = none) : Wr l := by
  have := iso_let (r := r) h h1 h2
  rw [← e] at this
  exact ⟨hl, this.1, this.2, hs⟩
theorem wd_hd {a b c : Nat} (h : [a, b, c] ∈ wdL) : isDig a = false ∧ a ≠ 43 ∧ a ≠ 45 := by
  have := (by decide : ∀ w ∈ wdL, isDig (w.headD 0) = false ∧ w.headD 0 ≠ 43 ∧ w.headD 0 ≠ 45) _ h
  exact this
section
variable {w0 w1 w2 n0 n1 n2 d y h i s A B sg : Nat} {D Y H I S g z : List Nat}
noncomputable abbrev tN (w0 w1 w2 n0 n1 n2 d y h i s : Nat) (g z : List Nat) : List Nat := tx [w0, w1, w2] [n0, n1, n2] (figs d 2) (figs y 4) (figs h 2) (figs i 2) (figs s 2) g z
theorem tx_wr (hw : [w0, w1, w2] ∈ wdL) (hl : (tx [w0, w1, w2] [n0, n1, n2] D Y H I S g z).length ≤ 50) (hs : parseShown (tx [w0, w1, w2] [n0, n1, n2] D Y H I S g z) = none) : Wr (tx [w0, w1, w2] [n0, n1, n2] D Y H I S g z) :=
  Wr_of (c := w0) (r := (tx [w0, w1, w2] [n0, n1, n2] D Y H I S g z).drop 1) rfl hl (wd_hd hw).1 (wd_hd hw).2.1 (wd_hd hw).2.2 hs
/-- the week day -/
theorem p1 (hw : [w0, w1, w2] ∈ wdL) : vs3 (tx [w0, w1, w2] [n0, n1, n2] D Y H I S g z) = ⟨4, false⟩ ∧ parseShown (tx [w0, w1, w2] [n0, n1, n2] D Y H I S g z) = psTail (tx [w0, w1, w2] [n0, n1, n2] D Y H I S g z) (wdL.idxOf [w0, w1, w2] : Nat) (numS (tx [w0, w1, w2] [n0, n1, n2] D Y H I S g z) (vs5 (tx [w0, w1, w2] [n0, n1, n2] D Y H I S g z)) 2 1 31) (amV moL (tx [w0, w1, w2] [n0, n1, n2] D Y H I S g z) ⟨4, false⟩) (numV (tx [w0, w1, w2] [n0, n1, n2] D Y H I S g z) (vs5 (tx [w0, w1, w2] [n0, n1, n2] D Y H I S g z)) 2 1 31) false :=
  sh_1 (W := [w0, w1, w2]) rfl hw rfl
theorem p2 (hw : [w0, w1, w2] ∈ wdL) (hm : [n0, n1, n2] ∈ moL) : vs5 (tx [w0, w1, w2] [n0, n1, n2] D Y H I S g z) = ⟨8, false⟩ ∧ amV moL (tx [w0, w1, w2] [n0, n1, n2] D Y H I S g z) ⟨4, false⟩ = (moL.idxOf [n0, n1, n2] : Nat) :=
  sh_2 (p1 hw).1 (Mo := [n0, n1, n2]) rfl hm rfl
/-- a wrong month -/
theorem x_mo (hw : [w0, w1, w2] ∈ wdL) (hm : [n0, n1, n2] ∉ moL) : parseShown (tx [w0, w1, w2] [n0, n1, n2] D Y H I S g z) = none := by
  rw [(p1 hw).2]
  exact ps_bad (numS_b (sh_2b (p1 hw).1 hm))
/-- a wrong day -/
theorem x_day (hw : [w0, w1, w2] ∈ wdL) (hm : [n0, n1, n2] ∈ moL) (hd : d < 100) (hb : d < 1 ∨ 31 < d) : parseShown (tx [w0, w1, w2] [n0, n1, n2] (figs d 2) Y H I S g z) = none := by
  rw [(p1 hw).2, (p2 hw hm).1]
  exact ps_bad (by rw [numS_r (n := d) rfl (by decide) hd (by (first | lia | omega))])
/-- the day stands -/
theorem p3 (hw : [w0, w1, w2] ∈ wdL) (hm : [n0, n1, n2] ∈ moL) (d0 : 1 ≤ d) (d1 : d ≤ 31) : parseShown (tx [w0, w1, w2] [n0, n1, n2] (figs d 2) Y H I S g z) = psTail (tx [w0, w1, w2] [n0, n1, n2] (figs d 2) Y H I S g z) (wdL.idxOf [w0, w1, w2] : Nat) ⟨10, false⟩ (moL.idxOf [n0, n1, n2] : Nat) d false := by
  rw [(p1 hw).2, (p2 hw hm).1, (p2 hw hm).2, numS_y (n := d) rfl (by decide) (by (first | lia | omega)) (by (first | lia | omega)) (by (first | lia | omega)), numV_y (n := d) rfl (by decide) (by (first | lia | omega)) (by (first | lia | omega)) (by (first | lia | omega))]
theorem ty_11 : tyS (tx [w0, w1, w2] [n0, n1, n2] (figs d 2) Y H I S g z) ⟨10, false⟩ = ⟨11, false⟩ := need_y rfl
end
end

section -- T21
theorem rst_T21 : True := by
  w_top off
  trivial
open PySem PySem.W PySem.Calls PyProof.Rows
section
variable {w0 w1 w2 n0 n1 n2 d y h i s A B sg : Nat} {D Y H I S g z : List Nat} {wd mo da : Int} {u : Bool}
theorem fig_ne (n k : Nat) (r : List Nat) : (figs n (k + 1) ++ r).take 1 ≠ [45] := by
  show [48 + n / 10 ^ k % 10] ≠ [45]
  intro e; injection e with e; (first | lia | omega)
/-- the year stands -/
theorem p4 (hy : y < 10000) : lyV (tx [w0, w1, w2] [n0, n1, n2] (figs d 2) (figs y 4) H I S g z) (tyS (tx [w0, w1, w2] [n0, n1, n2] (figs d 2) (figs y 4) H I S g z) ⟨10, false⟩) = y ∧ tcS (tx [w0, w1, w2] [n0, n1, n2] (figs d 2) (figs y 4) H I S g z) ⟨10, false⟩ = ⟨16, false⟩ := by
  have e := ly_y (l := tx [w0, w1, w2] [n0, n1, n2] (figs d 2) (figs y 4) H I S g z) (p := 11) (y := y) (c := 32) (fig_ne y 3 _) rfl hy rfl rfl
  rw [ty_11]
  refine ⟨e.2, ?_⟩
  unfold tcS; rw [ty_11, e.1]; exact need_y rfl
/-- a wrong year -/
theorem x_y5 : psTail (tx [w0, w1, w2] [n0, n1, n2] (figs d 2) (120 :: (figs y 4).drop 1) H I S g z) wd ⟨10, false⟩ mo da u = none := by
  refine ps_none (psEnd_b (needS_b (ckS_b (ckS2_b (ckS1_b (needS_b ?_))))))
  rw [ty_11]
  exact ly_b (j := 0) (c := 120) (by show [120] ≠ [45]; decide) rfl (by decide) rfl rfl
theorem x_y6 : psTail (tx [w0, w1, w2] [n0, n1, n2] (figs d 2) ((figs y 4).drop 1) H I S g z) wd ⟨10, false⟩ mo da u = none := by
  refine ps_none (psEnd_b (needS_b (ckS_b (ckS2_b (ckS1_b (needS_b ?_))))))
  rw [ty_11]
  refine ly_b (j := 3) (c := 32) (fig_ne y 2 _) rfl (by decide) rfl ?_
  show ([48 + y / 10 ^ 2 % 10, 48 + y / 10 ^ 1 % 10, 48 + y / 10 ^ 0 % 10, 32] : List Nat).all isDig = false
  simp [isDig]
/-- a wrong hour, minute, second -/
theorem x_h (hy : y < 10000) (hh : h < 100) (hb : 23 < h) : psTail (tx [w0, w1, w2] [n0, n1, n2] (figs d 2) (figs y 4) (figs h 2) I S g z) wd ⟨10, false⟩ mo da u = none := by
  refine ps_none (psEnd_b (needS_b (ckS_b (ckS2_b ?_))))
  rw [(p4 hy).2]
  exact ck_1b (h := h) rfl hh hb
theorem q1 (hy : y < 10000) (hh : h ≤ 23) : numV (tx [w0, w1, w2] [n0, n1, n2] (figs d 2) (figs y 4) (figs h 2) I S g z) (tcS (tx [w0, w1, w2] [n0, n1, n2] (figs d 2) (figs y 4) (figs h 2) I S g z) ⟨10, false⟩) 2 0 23 = h ∧ ckS1 (tx [w0, w1, w2] [n0, n1, n2] (figs d 2) (figs y 4) (figs h 2) I S g z) (tcS (tx [w0, w1, w2] [n0, n1, n2] (figs d 2) (figs y 4) (figs h 2) I S g z) ⟨10, false⟩) = ⟨19, false⟩ := by
  rw [(p4 hy).2]
  exact ck_1 (h := h) rfl hh rfl
theorem x_i (hy : y < 10000) (hh : h ≤ 23) (hi : i < 100) (hb : 59 < i) : psTail (tx [w0, w1, w2] [n0, n1, n2] (figs d 2) (figs y 4) (figs h 2) (figs i 2) S g z) wd ⟨10, false⟩ mo da u = none := by
  refine ps_none (psEnd_b (needS_b (ckS_b ?_)))
  exact ck_2b (i := i) (q1 hy hh).2 rfl hi hb
theorem q2 (hy : y < 10000) (hh : h ≤ 23) (hi : i ≤ 59) : numV (tx [w0, w1, w2] [n0, n1, n2] (figs d 2) (figs y 4) (figs h 2) (figs i 2) S g z) (ckS1 (tx [w0, w1, w2] [n0, n1, n2] (figs d 2) (figs y 4) (figs h 2) (figs i 2) S g z) (tcS (tx [w0, w1, w2] [n0, n1, n2] (figs d 2) (figs y 4) (figs h 2) (figs i 2) S g z) ⟨10, false⟩)) 2 0 59 = i ∧ ckS2 (tx [w0, w1, w2] [n0, n1, n2] (figs d 2) (figs y 4) (figs h 2) (figs i 2) S g z) (tcS (tx [w0, w1, w2] [n0, n1, n2] (figs d 2) (figs y 4) (figs h 2) (figs i 2) S g z) ⟨10, false⟩) = ⟨22, false⟩ :=
  ck_2 (i := i) (q1 hy hh).2 rfl hi rfl
theorem x_s (hy : y < 10000) (hh : h ≤ 23) (hi : i ≤ 59) (hs : s < 100) (hb : 59 < s) : psTail (tx [w0, w1, w2] [n0, n1, n2] (figs d 2) (figs y 4) (figs h 2) (figs i 2) (figs s 2) g z) wd ⟨10, false⟩ mo da u = none := by
  refine ps_none (psEnd_b (needS_b ?_))
  exact ck_3b (i := s) (q2 hy hh hi).2 rfl hs hb
theorem q3 (hy : y < 10000) (hh : h ≤ 23) (hi : i ≤ 59) (hs : s ≤ 59) : numV (tN w0 w1 w2 n0 n1 n2 d y h i s g z) (ckS2 (tN w0 w1 w2 n0 n1 n2 d y h i s g z) (tcS (tN w0 w1 w2 n0 n1 n2 d y h i s g z) ⟨10, false⟩)) 2 0 59 = s ∧ ckS (tN w0 w1 w2 n0 n1 n2 d y h i s g z) (tcS (tN w0 w1 w2 n0 n1 n2 d y h i s g z) ⟨10, false⟩) = ⟨24, false⟩ :=
  ck_3 (i := s) (q2 hy hh hi).2 rfl hs
theorem x_g (hy : y < 10000) (hh : h ≤ 23) (hi : i ≤ 59) (hs : s ≤ 59) : psTail (tN w0 w1 w2 n0 n1 n2 d y h i s [32, 103, 109, 116] z) wd ⟨10, false⟩ mo da u = none := by
  refine ps_none (psEnd_b ?_)
  unfold tgS
  rw [(q3 hy hh hi hs).2, need_n (by show [32, 103, 109, 116] ≠ [32, 71, 77, 84]; decide)]
noncomputable abbrev GM : List Nat := [32, 71, 77, 84]
theorem q4 (hy : y < 10000) (hh : h ≤ 23) (hi : i ≤ 59) (hs : s ≤ 59) : tgS (tN w0 w1 w2 n0 n1 n2 d y h i s GM z) ⟨10, false⟩ = ⟨28, false⟩ := by
  unfold tgS
  rw [(q3 hy hh hi hs).2]; exact need_y rfl
theorem dz : (tN w0 w1 w2 n0 n1 n2 d y h i s GM z).drop 28 = z := rfl
theorem x_z (hy : y < 10000) (hh : h ≤ 23) (hi : i ≤ 59) (hs : s ≤ 59) (hz : (znS (tN w0 w1 w2 n0 n1 n2 d y h i s GM z) ⟨28, false⟩ false).b = true) : psTail (tN w0 w1 w2 n0 n1 n2 d y h i s GM z) wd ⟨10, false⟩ mo da false = none := by
  refine ps_none ?_
  unfold psEnd; rw [if_neg (by simp), q4 hy hh hi hs]; exact hz
theorem x_e (hy : y < 10000) (hh : h ≤ 23) (hi : i ≤ 59) (hs : s ≤ 59) {p : Nat} (hz : znS (tN w0 w1 w2 n0 n1 n2 d y h i s GM z) ⟨28, false⟩ false = ⟨p, false⟩) (hp : p ≠ (tN w0 w1 w2 n0 n1 n2 d y h i s GM z).length) : psTail (tN w0 w1 w2 n0 n1 n2 d y h i s GM z) wd ⟨10, false⟩ mo da false = none :=
  pt_6 (by rw [q4 hy hh hi hs, hz]; exact ends_n hp)
/-- the right text -/
theorem sh_ok (hw : [w0, w1, w2] ∈ wdL) (hm : [n0, n1, n2] ∈ moL) (d0 : 1 ≤ d) (d1 : d ≤ 31) (hy : y < 10000) (hh : h ≤ 23) (hi : i ≤ 59) (hs : s ≤ 59) {o : Int} (hz : z = osT o []) (o0 : -1439 ≤ o) (o1 : o ≤ 1439) :
    parseShown (tN w0 w1 w2 n0 n1 n2 d y h i s GM z) = if wdF (tof y (moL.idxOf [n0, n1, n2] : Nat) d h i s 0) = (wdL.idxOf [w0, w1, w2] : Nat) then clipF (tof y (moL.idxOf [n0, n1, n2] : Nat) d h i s 0 - o * 60000) else none := by
  obtain ⟨zs, zv⟩ := zone_s (l := tN w0 w1 w2 n0 n1 n2 d y h i s GM z) (n := 28) (by rw [dz, hz]) o0 o1
  rw [p3 hw hm d0 d1]
  have he : endsB (tN w0 w1 w2 n0 n1 n2 d y h i s GM z) (znS (tN w0 w1 w2 n0 n1 n2 d y h i s GM z) (tgS (tN w0 w1 w2 n0 n1 n2 d y h i s GM z) ⟨10, false⟩) false) = true := by
    rw [q4 hy hh hi hs, zs]; exact ends_y (by rw [hz]; simp [tx, figs_len, osT_len])
  have es : psSh (tN w0 w1 w2 n0 n1 n2 d y h i s GM z) ⟨10, false⟩ (moL.idxOf [n0, n1, n2] : Nat) d = tof y (moL.idxOf [n0, n1, n2] : Nat) d h i s 0 := by
    unfold psSh; rw [(p4 hy).1, (q1 hy hh).1, (q2 hy hh hi).1, (q3 hy hh hi hs).1]
  by_cases c : wdF (tof y (moL.idxOf [n0, n1, n2] : Nat) d h i s 0) = (wdL.idxOf [w0, w1, w2] : Nat)
  · rw [if_pos c, pt_4 he (by rw [es]; exact c), es, q4 hy hh hi hs, zv]
  · rw [if_neg c, pt_5 he (by rw [es]; exact c)]
end
end

section -- T22
theorem rst_T22 : True := by
  w_top off
  trivial
open PySem PySem.W PySem.Calls PyProof.Rows
section
variable {w0 w1 w2 n0 n1 n2 v0 v1 v2 d y h i s a b sg : Nat} {D Y H I S g z r : List Nat} {wd mo da : Int} {u : Bool}
theorem x_y7 {c0 c1 c2 : Nat} (h : c0 ≠ 45) : psTail (tx [w0, w1, w2] [n0, n1, n2] (figs d 2) [c0, c1, c2] H I S g z) wd ⟨10, false⟩ mo da u = none := by
  refine ps_none (psEnd_b (needS_b (ckS_b (ckS2_b (ckS1_b (needS_b ?_))))))
  rw [ty_11]
  refine ly_b (j := 3) (c := 32) (by show [c0] ≠ [45]; simpa using h) rfl (by decide) rfl ?_
  show ([c0, c1, c2, 32] : List Nat).all isDig = false
  simp [isDig]
theorem zsg {l t : List Nat} {n : Nat} (hs : sg = 43 ∨ sg = 45) (h : l.drop n = sg :: t) : znS0 l ⟨n, false⟩ = ⟨n + 1, false⟩ := by
  rcases hs with rfl | rfl
  · exact (z0_p h).2
  · exact (z0_m h).2
theorem z_24 (hs : sg = 43 ∨ sg = 45) (ha : a < 100) (hb : 23 < a) : (znS (tN w0 w1 w2 n0 n1 n2 d y h i s GM (sg :: (figs a 2 ++ r))) ⟨28, false⟩ false).b = true :=
  znS_b (z1_r (zsg hs dz) (a := a) rfl ha hb)
theorem z_60 (hs : sg = 43 ∨ sg = 45) (ha : a ≤ 23) (hb : b < 100) (hc : 59 < b) : (znS (tN w0 w1 w2 n0 n1 n2 d y h i s GM (sg :: (figs a 2 ++ (figs b 2 ++ r)))) ⟨28, false⟩ false).b = true :=
  z2_r (z1_s (zsg hs dz) (a := a) rfl ha).2 (b := b) rfl hb hc
theorem z_cut (hs : sg = 43 ∨ sg = 45) (ha : a ≤ 23) {c : Nat} : (znS (tN w0 w1 w2 n0 n1 n2 d y h i s GM (sg :: (figs a 2 ++ [c]))) ⟨28, false⟩ false).b = true := by
  unfold znS
  rw [(z1_s (zsg hs dz) (a := a) rfl ha).2, numS_l (by simp [tx, figs_len])]
theorem z_more (hs : sg = 43 ∨ sg = 45) (ha : a ≤ 23) (hb : b ≤ 59) : znS (tN w0 w1 w2 n0 n1 n2 d y h i s GM (sg :: (figs a 2 ++ (figs b 2 ++ r)))) ⟨28, false⟩ false = ⟨33, false⟩ :=
  (z2_y (z1_s (zsg hs dz) (a := a) rfl ha).2 (b := b) rfl hb).2
theorem tx_l : (tN w0 w1 w2 n0 n1 n2 d y h i s g z).length = 24 + g.length + z.length := by simp [tx, figs_len]; (first | lia | omega)
theorem jux : [74, 117, 120] ∉ moL := by decide
theorem up_1 : ∀ w ∈ wdL, w.map up ∉ wdL ∧ isDig (up (w.headD 0)) = false ∧ up (w.headD 0) ≠ 43 ∧ up (w.headD 0) ≠ 45 := by decide
theorem wr_nil : Wr [] := ⟨by decide, .inr (.inr (.inr ⟨by decide +kernel, by decide +kernel⟩)), by decide +kernel, by decide +kernel⟩
theorem wr_T : Wr [84] := ⟨by decide, .inr (.inr (.inr ⟨by decide +kernel, by decide +kernel⟩)), by decide +kernel, by decide +kernel⟩
theorem wr_up (hw : [w0, w1, w2] ∈ wdL) (hl : (tN w0 w1 w2 n0 n1 n2 d y h i s g z).length ≤ 50) : Wr ((tN w0 w1 w2 n0 n1 n2 d y h i s g z).map up) := by
  obtain ⟨k1, k2, k3, k4⟩ := up_1 _ hw
  refine Wr_of (c := up w0) (r := ((tN w0 w1 w2 n0 n1 n2 d y h i s g z).map up).drop 1) rfl (by rw [List.length_map]; exact hl) k2 k3 k4 (sh_0 ?_)
  exact k1

set_option maxHeartbeats 2000000 in
theorem wr_all {k : Int} (k0 : 0 ≤ k) (k1 : k < 7) {m : Int} (m0 : 0 ≤ m) (m1 : m < 12) (d0 : 1 ≤ d) (d1 : d ≤ 31) (hy : y < 10000) (hh : h ≤ 23) (hi : i ≤ 59) (hs : s ≤ 59) (hsg : sg = 43 ∨ sg = 45) (ha : a ≤ 23) (hb : b ≤ 59)
    {o : Int} (o0 : -1439 ≤ o) (o1 : o ≤ 1439) (ho : osT o [] = sg :: (figs a 2 ++ figs b 2)) (hwd : wdF (tof y m d h i s 0) = k) {l : List Nat}
    (hl : l = wdN k ++ [32] ++ moN m ++ [32] ++ figs d 2 ++ [32] ++ figs y 4 ++ [32] ++ (figs h 2 ++ [58] ++ figs i 2 ++ [58] ++ figs s 2) ++ [32, 71, 77, 84] ++ osT o []) : WR k l := by
  obtain ⟨w0, w1, w2, ew⟩ := wd_3 k0 k1
  obtain ⟨n0, n1, n2, em⟩ := mo_3 m0 m1
  obtain ⟨hw, iw⟩ := wd_in k0 k1
  obtain ⟨hm, im⟩ := mo_in m0 m1
  rw [ew] at hw iw; rw [em] at hm im
  have kb := fm_b0 (k + 1) (k := 7) (by decide)
  obtain ⟨v0, v1, v2, ev⟩ := wd_3 kb.1 kb.2
  obtain ⟨hv, iv⟩ := wd_in kb.1 kb.2
  rw [ev] at hv iv
  have e : l = tN w0 w1 w2 n0 n1 n2 d y h i s GM (sg :: (figs a 2 ++ figs b 2)) := by rw [hl, ew, em, ho]; rfl
  have len : l.length = 33 := by rw [e, tx_l]; simp [figs_len]
  subst e
  clear hl
  have tm : ((m.toNat : Nat) : Int) = m := by (first | lia | omega)
  refine ⟨?_, ?_, ?_, ?_, ?_, ?_, ?_, ?_, ?_, ?_, ?_, ?_, ?_, ?_, wr_nil, wr_T, ?_⟩
  · rw [ev]
    show Wr (tN v0 v1 v2 n0 n1 n2 d y h i s GM (sg :: (figs a 2 ++ figs b 2)))
    refine tx_wr hv (by rw [tx_l]; simp [figs_len]) ?_
    rw [sh_ok hv hm d0 d1 hy hh hi hs ho.symm o0 o1, iv, im, tm, hwd, if_neg]
    have := Int.fmod_eq_emod_of_nonneg (k + 1) (show (0 : Int) ≤ 7 by decide)
    (first | lia | omega)
  · show Wr (tx [w0, w1, w2] [74, 117, 120] (figs d 2) (figs y 4) (figs h 2) (figs i 2) (figs s 2) GM (sg :: (figs a 2 ++ figs b 2)))
    exact tx_wr hw (by rw [tx_l]; simp [figs_len]) (x_mo hw jux)
  · show Wr (tN w0 w1 w2 n0 n1 n2 32 y h i s GM (sg :: (figs a 2 ++ figs b 2)))
    exact tx_wr hw (by rw [tx_l]; simp [figs_len]) (x_day hw hm (by decide) (by decide))
  · show Wr (tN w0 w1 w2 n0 n1 n2 0 y h i s GM (sg :: (figs a 2 ++ figs b 2)))
    exact tx_wr hw (by rw [tx_l]; simp [figs_len]) (x_day hw hm (by decide) (by decide))
  · show Wr (tx [w0, w1, w2] [n0, n1, n2] (figs d 2) (120 :: (figs y 4).drop 1) (figs h 2) (figs i 2) (figs s 2) GM (sg :: (figs a 2 ++ figs b 2)))
    exact tx_wr hw (by simp [tx, figs_len]) (by rw [p3 hw hm d0 d1]; exact x_y5)
  · show Wr (tx [w0, w1, w2] [n0, n1, n2] (figs d 2) [48 + y / 10 ^ 3 % 10, 48 + y / 10 ^ 1 % 10, 48 + y / 10 ^ 0 % 10] (figs h 2) (figs i 2) (figs s 2) GM (sg :: (figs a 2 ++ figs b 2)))
    exact tx_wr hw (by simp [tx, figs_len]) (by rw [p3 hw hm d0 d1]; exact x_y7 (by (first | lia | omega)))
  · show Wr (tN w0 w1 w2 n0 n1 n2 d y 24 i s GM (sg :: (figs a 2 ++ figs b 2)))
    exact tx_wr hw (by rw [tx_l]; simp [figs_len]) (by rw [p3 hw hm d0 d1]; exact x_h hy (by decide) (by decide))
  · show Wr (tN w0 w1 w2 n0 n1 n2 d y h 60 s GM (sg :: (figs a 2 ++ figs b 2)))
    exact tx_wr hw (by rw [tx_l]; simp [figs_len]) (by rw [p3 hw hm d0 d1]; exact x_i hy hh (by decide) (by decide))
  · show Wr (tN w0 w1 w2 n0 n1 n2 d y h i 60 GM (sg :: (figs a 2 ++ figs b 2)))
    exact tx_wr hw (by rw [tx_l]; simp [figs_len]) (by rw [p3 hw hm d0 d1]; exact x_s hy hh hi (by decide) (by decide))
  · show Wr (tN w0 w1 w2 n0 n1 n2 d y h i s [32, 103, 109, 116] (sg :: (figs a 2 ++ figs b 2)))
    exact tx_wr hw (by rw [tx_l]; simp [figs_len]) (by rw [p3 hw hm d0 d1]; exact x_g hy hh hi hs)
  · show Wr (tN w0 w1 w2 n0 n1 n2 d y h i s GM (sg :: (figs 24 2 ++ figs 0 2)))
    exact tx_wr hw (by rw [tx_l]; simp [figs_len]) (by rw [p3 hw hm d0 d1]; exact x_z hy hh hi hs (z_24 hsg (by decide) (by decide)))
  · show Wr (tN w0 w1 w2 n0 n1 n2 d y h i s GM (sg :: (figs 0 2 ++ (figs 60 2 ++ []))))
    exact tx_wr hw (by rw [tx_l]; simp [figs_len]) (by rw [p3 hw hm d0 d1]; exact x_z hy hh hi hs (z_60 hsg (by decide) (by decide) (by decide)))
  · rw [len]
    show Wr (tN w0 w1 w2 n0 n1 n2 d y h i s GM (sg :: (figs a 2 ++ [48 + b / 10 ^ 1 % 10])))
    exact tx_wr hw (by rw [tx_l]; simp [figs_len]) (by rw [p3 hw hm d0 d1]; exact x_z hy hh hi hs (z_cut hsg ha))
  · show Wr (tN w0 w1 w2 n0 n1 n2 d y h i s GM (sg :: (figs a 2 ++ (figs b 2 ++ [32]))))
    exact tx_wr hw (by rw [tx_l]; simp [figs_len]) (by rw [p3 hw hm d0 d1]; exact x_e hy hh hi hs (z_more hsg ha hb) (by rw [tx_l]; simp [figs_len]))
  · exact wr_up hw (by rw [tx_l]; simp [figs_len])
end
end

section -- T23
theorem rst_T23 : True := by
  w_top off
  trivial
open PySem PySem.W PySem.Calls PyProof.Rows
section
variable {w0 w1 w2 n0 n1 n2 d y h i s : Nat} {r : List Nat}
/-- the text for all clocks -/
noncomputable abbrev uN (w0 w1 w2 n0 n1 n2 d y h i s : Nat) : List Nat := [w0, w1, w2] ++ [44, 32] ++ figs d 2 ++ [32] ++ [n0, n1, n2] ++ [32] ++ (figs y 4 ++ ([32] ++ (figs h 2 ++ [58] ++ figs i 2 ++ [58] ++ figs s 2) ++ [32, 71, 77, 84]))
theorem uok (hw : [w0, w1, w2] ∈ wdL) (hm : [n0, n1, n2] ∈ moL) (d0 : 1 ≤ d) (d1 : d ≤ 31) (hy : y < 10000) (hh : h ≤ 23) (hi : i ≤ 59) (hs : s ≤ 59) (hwd : wdF (tof y (moL.idxOf [n0, n1, n2] : Nat) d h i s 0) = (wdL.idxOf [w0, w1, w2] : Nat)) :
    parseShown (uN w0 w1 w2 n0 n1 n2 d y h i s) = clipF (tof y (moL.idxOf [n0, n1, n2] : Nat) d h i s 0 - 0 * 60000) := by
  obtain ⟨e, v⟩ := st_wd (l := uN w0 w1 w2 n0 n1 n2 d y h i s) (W := [w0, w1, w2]) rfl hw
  have b2 : hasB (uN w0 w1 w2 n0 n1 n2 d y h i s) (amS wdL (uN w0 w1 w2 n0 n1 n2 d y h i s) rs0) [44, 32] = true := by rw [e]; exact has_y rfl
  have s2 : us2 (uN w0 w1 w2 n0 n1 n2 d y h i s) = ⟨5, false⟩ := by unfold us2; rw [e]; exact hasS_y rfl
  have s4 : us4 (uN w0 w1 w2 n0 n1 n2 d y h i s) = ⟨8, false⟩ := by unfold us4; rw [s2, numS_y (n := d) rfl (by decide) (by (first | lia | omega)) (by (first | lia | omega)) (by (first | lia | omega))]; exact need_y rfl
  obtain ⟨em, vm⟩ := st_mo (l := uN w0 w1 w2 n0 n1 n2 d y h i s) (p := 8) (Mo := [n0, n1, n2]) rfl hm
  have ty : tyS (uN w0 w1 w2 n0 n1 n2 d y h i s) ⟨11, false⟩ = ⟨12, false⟩ := need_y rfl
  have ly := ly_y (l := uN w0 w1 w2 n0 n1 n2 d y h i s) (p := 12) (y := y) (c := 32) (fig_ne y 3 _) rfl hy rfl rfl
  have tc : tcS (uN w0 w1 w2 n0 n1 n2 d y h i s) ⟨11, false⟩ = ⟨17, false⟩ := by unfold tcS; rw [ty, ly.1]; exact need_y rfl
  have c1 := ck_1 (l := uN w0 w1 w2 n0 n1 n2 d y h i s) (p := 17) (h := h) rfl hh rfl
  have c2 := ck_2 (l := uN w0 w1 w2 n0 n1 n2 d y h i s) c1.2 (i := i) rfl hi rfl
  have c3 := ck_3 (l := uN w0 w1 w2 n0 n1 n2 d y h i s) c2.2 (i := s) rfl hs
  have tg : tgS (uN w0 w1 w2 n0 n1 n2 d y h i s) ⟨11, false⟩ = ⟨29, false⟩ := by unfold tgS; rw [tc, c3.2]; exact need_y rfl
  have es : psSh (uN w0 w1 w2 n0 n1 n2 d y h i s) ⟨11, false⟩ (moL.idxOf [n0, n1, n2] : Nat) d = tof y (moL.idxOf [n0, n1, n2] : Nat) d h i s 0 := by
    unfold psSh; rw [ty, ly.2, tc, c1.1, c2.1, c3.1]
  rw [ps_u b2, v, s4, em, vm, s2, numV_y (n := d) rfl (by decide) (by (first | lia | omega)) (by (first | lia | omega)) (by (first | lia | omega)), pt_1 (by rw [tg]; exact ends_y rfl) (by rw [es]; exact hwd), es]
end
section
variable {y m d h i s o ms : Int}
set_option maxHeartbeats 4000000 in
theorem lf_main (f : Fl y m d h i s) (o0 : -1439 ≤ o) (o1 : o ≤ 1439) (g0 : 0 ≤ ms) (g1 : ms < 300) : LF y m d h i s o ms (countF y m d) := by
  have nc := count_mk (y := y) (d := d) f.m0 f.m1
  have ok : Ok y m d h i s := ⟨f.y0, f.y1, f.m0, f.m1, f.d0, f.d1, f.h0, by have := f.h1; (first | lia | omega), f.i0, f.i1, f.s0, f.s1⟩
  have d31 := ok.d2
  have sx : ∀ g : Int, shX y m d h i s g = ((countF y m d * 24 + h) * 60 + i) * 60000 + s * 1000 + g := fun g => by rw [nc]; unfold shX; (first | lia | omega)
  have tx0 : tof y m d h i s 0 = ((countF y m d * 24 + h) * 60 + i) * 60000 + s * 1000 := by rw [nc]; unfold tof; (first | lia | omega)
  have tx0' : shX y m d h i s 0 = tof y m d h i s 0 := by rw [sx, tx0]; (first | lia | omega)
  have tms : tof y m d h i s ((ms.toNat : Nat) : Int) = ((countF y m d * 24 + h) * 60 + i) * 60000 + s * 1000 + ms := by rw [nc, show ((ms.toNat : Nat) : Int) = ms by (first | lia | omega)]; unfold tof; (first | lia | omega)
  have g2 : ms < 1000 := by (first | lia | omega)
  have wk0 := fm_b0 (countF y m d + 4) (k := 7) (by decide)
  have wdE : ∀ g : Int, 0 ≤ g → g < 1000 → wdF (shX y m d h i s g) = (countF y m d + 4).fmod 7 := fun g a b => by rw [sh_wd f a b, nc]
  have wdT : wdF (tof y m d h i s 0) = (countF y m d + 4).fmod 7 := by rw [← tx0']; exact wdE 0 (by decide) (by decide)
  obtain ⟨w0, w1, w2, ew⟩ := wd_3 wk0.1 wk0.2
  have m12 : m < 12 := by have := f.m1; (first | lia | omega)
  obtain ⟨n0, n1, n2, em⟩ := mo_3 f.m0 m12
  obtain ⟨hw, iw⟩ := wd_in wk0.1 wk0.2
  obtain ⟨hm, im⟩ := mo_in f.m0 m12
  rw [ew] at hw iw; rw [em] at hm im
  have ⟨y0, y1, m0, m1, d0, d1, h0, h1, i0, i1, s0, s1⟩ := (⟨f.y0, f.y1, f.m0, f.m1, f.d0, f.d1, f.h0, f.h1, f.i0, f.i1, f.s0, f.s1⟩ : _ ∧ _ ∧ _ ∧ _ ∧ _ ∧ _ ∧ _ ∧ _ ∧ _ ∧ _ ∧ _ ∧ _)
  have cy : ((y.toNat : Nat) : Int) = y := by (first | lia | omega)
  have cm : ((m.toNat : Nat) : Int) = m := by (first | lia | omega)
  have cd : ((d.toNat : Nat) : Int) = d := by (first | lia | omega)
  have ch : ((h.toNat : Nat) : Int) = h := by (first | lia | omega)
  have ci : ((i.toNat : Nat) : Int) = i := by (first | lia | omega)
  have cs : ((s.toNat : Nat) : Int) = s := by (first | lia | omega)
  have ck : ((((countF y m d + 4).fmod 7).toNat : Nat) : Int) = (countF y m d + 4).fmod 7 := by (first | lia | omega)
  have shE : ∀ p : Int, shT y m d h i s p = tN w0 w1 w2 n0 n1 n2 d.toNat y.toNat h.toNat i.toNat s.toNat GM (osT p []) := fun p => by unfold shT; rw [ew, em]; rfl
  have clip : ∀ p : Int, -1439 ≤ p → p ≤ 1439 → clipF (tof y m d h i s 0 - p * 60000) = some (tof y m d h i s 0 - p * 60000) := fun p a b => clipT ok (L := 0) (by decide) (by decide) a b
  refine ⟨?_, ?_, ?_, ?_, ?_, ?_, ?_, ?_, ?_⟩
  · have e : ((countF y m d * 24 + h) * 60 + i) * 60000 + s * 1000 - o * 60000 + ms + o * 60000 = shX y m d h i s ms := by rw [sx]; (first | lia | omega)
    unfold Whole
    rw [e]
    refine ⟨y, m, sh_YF f g0 g2, sh_MF f g0 g2, sh_BF f g0 g2, by (first | lia | omega), by (first | lia | omega), ?_⟩
    unfold dayT timeT clockT offT shT osT
    rw [wdE ms g0 g2, sh_date f g0 g2, sh_hour f g0 g2, sh_min f g0 g2, sh_sec f g0 g2]
    simp only [List.append_assoc, List.cons_append, List.nil_append, List.append_nil]
  · refine ⟨by rw [shE, tx_l, osT_len]; decide, ?_⟩
    rw [shE, sh_ok hw hm (by (first | lia | omega)) (by (first | lia | omega)) (by (first | lia | omega)) (by (first | lia | omega)) (by (first | lia | omega)) (by (first | lia | omega)) rfl o0 o1, iw, im, cm, cy, cd, ch, ci, cs, ck, if_pos wdT, clip o o0 o1, tx0]
  · have := v_msO ok (L := ms.toNat) (by (first | lia | omega)) (by (first | lia | omega)) o0 o1
    rw [tms] at this
    rw [show ((countF y m d * 24 + h) * 60 + i) * 60000 + s * 1000 - o * 60000 + ms = ((countF y m d * 24 + h) * 60 + i) * 60000 + s * 1000 + ms - o * 60000 by (first | lia | omega)]
    exact this
  · rw [← sx ms]
    refine ⟨y, m, sh_YF f g0 g2, sh_MF f g0 g2, sh_BF f g0 g2, ?_⟩
    rw [shE]
    unfold utcT clockT
    rw [wdE ms g0 g2, sh_date f g0 g2, sh_hour f g0 g2, sh_min f g0 g2, sh_sec f g0 g2, ew, em]
    rfl
  · have e : plainL (shT y m d h i s 0) = uN w0 w1 w2 n0 n1 n2 d.toNat y.toNat h.toNat i.toNat s.toNat := by rw [shE]; rfl
    have k := iso_let (c := w0) (r := (uN w0 w1 w2 n0 n1 n2 d.toNat y.toNat h.toNat i.toNat s.toNat).drop 1) (wd_hd hw).1 (wd_hd hw).2.1 (wd_hd hw).2.2
    rw [e]
    refine ⟨by simp [figs_len], k.1, ?_⟩
    have k2 : parseIso (uN w0 w1 w2 n0 n1 n2 d.toNat y.toNat h.toNat i.toNat s.toNat) = none := k.2
    rw [pd_n k2, uok hw hm (by (first | lia | omega)) (by (first | lia | omega)) (by (first | lia | omega)) (by (first | lia | omega)) (by (first | lia | omega)) (by (first | lia | omega)) (by rw [im, cm, cy, cd, ch, ci, cs, iw, ck]; exact wdT), im, cm, cy, cd, ch, ci, cs, clip 0 (by decide) (by decide), tx0]
    simp
  · have k := v_nZ ok (by (first | lia | omega))
    refine ⟨k.1, k.2.1, ?_⟩
    rw [pd_s k.2.2]
    have : tof y m d h i s ((0 : Nat) : Int) = ((countF y m d * 24 + h) * 60 + i) * 60000 + s * 1000 := tx0
    rw [this]
  · exact br_all y0 y1 m0 m1 h0 h1 i0 i1 s0 s1
  · rw [shE, tx_l, osT_len]; rfl
  · by_cases c : o < 0
    · exact wr_all (sg := 45) (a := (-o).toNat / 60) (b := (-o).toNat % 60) (d := d.toNat) (y := y.toNat) (h := h.toNat) (i := i.toNat) (s := s.toNat) wk0.1 wk0.2 f.m0 m12 (by (first | lia | omega)) (by (first | lia | omega)) (by (first | lia | omega)) (by (first | lia | omega)) (by (first | lia | omega)) (by (first | lia | omega)) (.inr rfl) (by (first | lia | omega)) (by (first | lia | omega)) o0 o1 (by rw [osT_m c]; rfl) (by rw [cy, cd, ch, ci, cs]; exact wdT) rfl
    · exact wr_all (sg := 43) (a := o.toNat / 60) (b := o.toNat % 60) (d := d.toNat) (y := y.toNat) (h := h.toNat) (i := i.toNat) (s := s.toNat) wk0.1 wk0.2 f.m0 m12 (by (first | lia | omega)) (by (first | lia | omega)) (by (first | lia | omega)) (by (first | lia | omega)) (by (first | lia | omega)) (by (first | lia | omega)) (.inl rfl) (by (first | lia | omega)) (by (first | lia | omega)) o0 o1 (by rw [osT_p c]; rfl) (by rw [cy, cd, ch, ci, cs]; exact wdT) rfl
theorem lf_law0 {e : Int} (y0 : 0 ≤ y) (y1 : y ≤ 9999) (m0 : 0 ≤ m) (m1 : m < 12) (e0 : 0 ≤ e) (e1 : e < lenF y m) (h0 : 0 ≤ h) (h1 : h < 24) (i0 : 0 ≤ i) (i1 : i < 60) (s0 : 0 ≤ s) (s1 : s < 60) (o0 : -1439 ≤ o) (o1 : o ≤ 1439) (g0 : 0 ≤ ms) (g1 : ms < 300) : LF y m (1 + e) h i s o ms (countF y m (1 + e)) := by
  rw [lenF_daysOf m0 (by (first | lia | omega))] at e1
  exact lf_main ⟨y0, y1, m0, by (first | lia | omega), by (first | lia | omega), by (first | lia | omega), h0, by (first | lia | omega), i0, by (first | lia | omega), s0, by (first | lia | omega)⟩ o0 o1 g0 g1
end
end

section -- L6
theorem rst_L6 : True := by
  w_top off
  trivial
local macro_rules | `(tactic| k_qdec) => `(tactic| decide +kernel)
open PySem PySem.W PySem.Calls PyProof.Rows
theorem ru_L6_0 : True := by
  k_with_none
  k_with "steps" => (repeat' (first | k_unfold | (k_end; kc_close) | walk1 | (dsimp only; walk1) | (leave1; (try dsimp only)) | fail "no step"))
  k_with "eval Constant int" => (k_here; (with_reducible refine ct9 ?_); intro _ _)
  k_with "eval Constant str" => (k_here; (with_reducible refine cs9 ?_); intro _ _)
  k_with "binaryOp Add int int" => (k_here; (with_reducible refine ar_add ?_); intro _ _)
  k_with "binaryOp Sub int int" => (k_here; (with_reducible refine ar_sub ?_); intro _ _)
  k_with "binaryOp Mult int int" => (k_here; (with_reducible refine' ar_mul ?_ ?m9_9); k_dflt (case m9_9 => mul_fits); intro _ _)
  k_with "binaryOp FloorDiv int int" => (k_here; (with_reducible refine' ar_div ?b9_9 ?_ ?p9_9); k_dflt (case b9_9 => decide); k_dflt (case p9_9 => first | exact PyProof.noPylong_of_log2 (by decide +kernel) | exact PyProof.noPylong_small (by omega)); intro _ _)
  k_with "binaryOp Mod int int" => (k_here; (with_reducible refine ar_mod ?b9_9 ?_); (case b9_9 => first | decide | omega | assumption); intro _ _)
  k_with "inplaceOp Add int int" => (k_here; (with_reducible refine ar_iadd ?_); intro _ _)
  k_with "storeName" => (k_here; k_dflt (refine' st9 ?F_9 ?N_9 ?_ ?a_9 ?b_9; (case F_9 => with_reducible assumption); (case N_9 => with_reducible assumption); (case a_9 => exact rfl); (case b_9 => exact rfl); k_whole); intro h9 k9 F9 N9; (try k_sweep))
  k_with "newTuple" => (k_here; kup_bare; k_dflt (refine' nt9 ?F_9 ?N_9 ?_ ?z_9; (case F_9 => with_reducible assumption); (case N_9 => with_reducible assumption); (case z_9 => kmk_size)); intro D9 h9 F9 N9; (try k_sweep))
  k_with "eval Tuple" => (k_here; k_whole; (with_reducible refine tk_go ?h9_9 ?_); k_dflt (case h9_9 => exact rfl))
  k_with "eval Tuple" => (k_here; walk_at "fold")
  k_with "TupK" => (k_here; (with_reducible refine tk_e ?_))
  k_with "TupK" => (k_here; (with_reducible refine' tk_n ?k1_9 ?k2_9 ?k3_9 ?k4_9 ?k5_9 ?_); k_dflt ((case k3_9 => exact rfl); (case k4_9 => exact rfl); (case k1_9 => k_asm); (case k2_9 => exact rfl); (case k5_9 => exact rfl); k_whole))
  k_with "TupK" => (k_here; (with_reducible refine tk_i ?_); intro _ _)
  k_with "TupK" => (k_here; (first | with_reducible refine tk_2 ?_ | with_reducible refine tk_3 ?_ | with_reducible refine tk_4 ?_ | with_reducible refine tk_5 ?_ | with_reducible refine tk_6 ?_))
  k_with "uX" => (intro t9 h9 tk9 F9 N9; (try dsimp only); (try k_sweep); (try k_fold))
  k_with "uV" => (intro h9 tk9 F9 N9; (try dsimp only); (try k_sweep); (try k_fold))
  k_with "callWith ref" => (k_here; k_dflt (first | (refine' cw_K0 ?k1_9 ?k2_9 ?_; (case k1_9 => k_is); (case k2_9 => exact rfl); k_whole) | (refine' cw_K1 ?k1_9 ?k2_9 ?_; (case k1_9 => k_is); (case k2_9 => exact rfl); k_whole)))
  k_with "eval Call" => (k_here; (with_reducible refine' cg_K ?k1_9 ?k2_9 ?k3_9 ?k4_9 ?k5_9 ?k6_9 ?k7_9 ?k8_9 ?k9_9 ?_); k_dflt ((case k7_9 => exact rfl); (case k8_9 => exact rfl); (case k9_9 => exact rfl); (case k1_9 => k_asm); (case k2_9 => k_asm); (case k3_9 => k_asm); (case k4_9 => k_is); (case k5_9 => exact rfl); (case k6_9 => k_is); k_whole))
  k_with "eval Name" => (k_here; k_dflt (refine' nm9 ?k1_9 ?k2_9 ?k3_9 ?k4_9 ?k5_9 ?_; (case k4_9 => exact rfl); (case k3_9 => exact rfl); (case k1_9 => k_asm); (case k2_9 => exact rfl); (case k5_9 => exact rfl); k_whole))
  k_with "fold" => (k_whole; (fail_if_success (fail_if_success k_fold)); refine fold9 ?_; intro qk)
  k_with "eval Call" => (k_here; walk_at "fold")
  k_with "eval BinOp" => (k_here; walk_at "fold")
  k_with "ArgK" => (k_here; (with_reducible refine ak_e ?_))
  k_with "ArgK" => (k_here; (with_reducible refine' ak_n ?k1_9 ?k2_9 ?k3_9 ?k4_9 ?k5_9 ?_); k_dflt ((case k3_9 => exact rfl); (case k4_9 => exact rfl); (case k1_9 => k_asm); (case k2_9 => exact rfl); (case k5_9 => exact rfl); k_whole))
  k_with "ArgK" => (k_here; (first | with_reducible refine ak_i ?_ | with_reducible refine ak_s ?_); intro _ _)
  k_with "ArgK" => (k_here; (first | with_reducible refine ak_1 ?_ | with_reducible refine ak_2 ?_ | with_reducible refine ak_3 ?_ | with_reducible refine ak_4 ?_ | with_reducible refine ak_0 ?_))
  k_with "ne" => first | with_reducible assumption | exact ne_news (by with_reducible assumption) (by k_mem) (by k_mem) rfl | k_ne
  k_with "upd" => first | (refine' Upd.head ?a_9; (case a_9 => walk_at "nall")) | (refine' Upd.tail ?a_9 ?b_9; (case a_9 => walk_at "ne"); (case b_9 => walk_at "upd"))
  k_with "setAttr ref" => (k_here; k_dflt (refine' set_dict ?k1_9 ?k2_9 ?k3_9 ?k4_9 ?k5_9 ?k6_9 ?k7_9 ?k8_9 ?k9_9 ?k10_9 ?k11_9 ?k12_9 ?k13_9 ?_; (case k1_9 => k_asm); (case k2_9 => k_asm); (case k3_9 => k_asm); (case k4_9 => k_inst); (case k5_9 => exact rfl); (case k6_9 => k_is); (case k7_9 => k_is); (case k8_9 => k_is); (case k9_9 => k_is); (case k10_9 => k_get); (case k11_9 => k_put); (case k12_9 => walk_at "upd"); (case k13_9 => exact Nat.le_of_ble_eq_true rfl); k_whole); intro h' F' N'; (try k_sweep))
  k_with "nall" => first | exact List.forall_mem_nil _ | (refine' List.forall_mem_cons.mpr ⟨?a_9, ?b_9⟩; (case a_9 => walk_at "ne"); (case b_9 => walk_at "nall"))
  k_with "execs cons" => (k_here; (with_reducible refine gen_toks ?_); intro _)
  k_with "execs nil" => (k_here; (with_reducible refine gen_toks ?_); intro _)
  k_with "end eq" => (law_clear; (try simp only [decide_eq_true_eq, decide_eq_false_iff_not, ne_eq, Bool.not_eq_true, Bool.not_eq_false, bne_iff_ne, beq_iff_eq] at *); first | rfl | omega | (simp_all; done) | (simp_all; rfl) | ((simp_all); omega))
  k_with "CallK" => (k_here; (guard_target = CallK _ _ (Value.ref 22) _ _ _ _); k_dflt (refine' use_ctrX (c_day_of _ _ _) ?g9_9 ?n9_9 ?F9_9 ?N9_9 ?_; (case g9_9 => with_reducible assumption); (case n9_9 => exact rfl); (case F9_9 => k_asm); (case N9_9 => k_asm); k_whole); walk_at "uX")
  k_with "CallK" => (k_here; (guard_target = CallK _ _ (Value.ref 29) _ _ _ _); k_dflt (refine' use_ctrX (c_time_in_day _ _ _) ?g9_9 ?n9_9 ?F9_9 ?N9_9 ?_; (case g9_9 => with_reducible assumption); (case n9_9 => exact rfl); (case F9_9 => k_asm); (case N9_9 => k_asm); k_whole); walk_at "uX")
  k_with "CallK" => (k_here; (guard_target = CallK _ _ (Value.ref 36) _ _ _ _); k_dflt (refine' use_ctrV (c_leap _ _ _) ?g9_9 ?n9_9 ?F9_9 ?N9_9 ?_; (case g9_9 => with_reducible assumption); (case n9_9 => exact rfl); (case F9_9 => k_asm); (case N9_9 => k_asm); k_whole); walk_at "uV")
  k_with "CallK" => (k_here; (guard_target = CallK _ _ (Value.ref 43) _ _ _ _); k_dflt (refine' use_ctrX (c_dfy _ _ _) ?g9_9 ?n9_9 ?F9_9 ?N9_9 ?_; (case g9_9 => with_reducible assumption); (case n9_9 => exact rfl); (case F9_9 => k_asm); (case N9_9 => k_asm); k_whole); walk_at "uX")
  k_with "CallK" => (k_here; (guard_target = CallK _ _ (Value.ref 71) _ _ _ _); k_dflt (refine' use_ctrX (c_days_ahead _ _ _ _ ?p0_9 ?p1_9) ?g9_9 ?n9_9 ?F9_9 ?N9_9 ?_; (case g9_9 => with_reducible assumption); (case n9_9 => exact rfl); (case F9_9 => k_asm); (case N9_9 => k_asm); (case p0_9 => first | with_reducible assumption | decide | l_fact); (case p1_9 => first | with_reducible assumption | decide | l_fact); k_whole); walk_at "uX")
  k_with "CallK" => (k_here; (guard_target = CallK _ _ (Value.ref 50) _ _ _ _); k_dflt (refine' use_ctrX (c_year_of_day _ _ _ _ ?p0_9 ?p1_9) ?g9_9 ?n9_9 ?F9_9 ?N9_9 ?_; (case g9_9 => with_reducible assumption); (case n9_9 => exact rfl); (case F9_9 => k_asm); (case N9_9 => k_asm); (case p0_9 => assumption); (case p1_9 => assumption); k_whole); walk_at "uX")
  k_with "CallK" => (k_here; (guard_target = CallK _ _ (Value.ref 78) _ _ _ _); k_dflt (refine' use_ctrX (c_days_of_month _ _ _ _ _ ?p0_9 ?p1_9) ?g9_9 ?n9_9 ?F9_9 ?N9_9 ?_; (case g9_9 => with_reducible assumption); (case n9_9 => exact rfl); (case F9_9 => k_asm); (case N9_9 => k_asm); (case p0_9 => first | with_reducible assumption | decide | l_fact); (case p1_9 => first | with_reducible assumption | decide | l_fact); k_whole); walk_at "uX")
  k_with "CallK" => (k_here; (guard_target = CallK _ _ (Value.ref 57) _ _ _ _); k_dflt (refine' use_ctrX (c_year_of _ _ _ _ ?p0_9) ?g9_9 ?n9_9 ?F9_9 ?N9_9 ?_; (case g9_9 => with_reducible assumption); (case n9_9 => exact rfl); (case F9_9 => k_asm); (case N9_9 => k_asm); (case p0_9 => assumption); k_whole); walk_at "uX")
  k_with "CallK" => (k_here; (guard_target = CallK _ _ (Value.ref 64) _ _ _ _); k_dflt (refine' use_ctrX (c_day_in_year _ _ _ _ ?p0_9) ?g9_9 ?n9_9 ?F9_9 ?N9_9 ?_; (case g9_9 => with_reducible assumption); (case n9_9 => exact rfl); (case F9_9 => k_asm); (case N9_9 => k_asm); (case p0_9 => assumption); k_whole); walk_at "uX")
  k_with "CallK" => (k_here; (guard_target = CallK _ _ (Value.ref 85) _ _ _ _); k_dflt (refine' use_ctrX (c_month_of _ _ _ _ _ ?p0_9 ?p1_9) ?g9_9 ?n9_9 ?F9_9 ?N9_9 ?_; (case g9_9 => with_reducible assumption); (case n9_9 => exact rfl); (case F9_9 => k_asm); (case N9_9 => k_asm); (case p0_9 => assumption); (case p1_9 => assumption); k_whole); walk_at "uX")
  k_with "CallK" => (k_here; (guard_target = CallK _ _ (Value.ref 92) _ _ _ _); k_dflt (refine' use_ctrX (c_date_of _ _ _ _ _ ?p0_9 ?p1_9) ?g9_9 ?n9_9 ?F9_9 ?N9_9 ?_; (case g9_9 => with_reducible assumption); (case n9_9 => exact rfl); (case F9_9 => k_asm); (case N9_9 => k_asm); (case p0_9 => assumption); (case p1_9 => assumption); k_whole); walk_at "uX")
  k_with "CallK" => (k_here; (guard_target = CallK _ _ (Value.ref 99) _ _ _ _); k_dflt (refine' use_ctrX (c_week_day_of _ _ _) ?g9_9 ?n9_9 ?F9_9 ?N9_9 ?_; (case g9_9 => with_reducible assumption); (case n9_9 => exact rfl); (case F9_9 => k_asm); (case N9_9 => k_asm); k_whole); walk_at "uX")
  k_with "CallK" => (k_here; (guard_target = CallK _ _ (Value.ref 106) _ _ _ _); k_dflt (refine' use_ctrX (c_hour_of _ _ _) ?g9_9 ?n9_9 ?F9_9 ?N9_9 ?_; (case g9_9 => with_reducible assumption); (case n9_9 => exact rfl); (case F9_9 => k_asm); (case N9_9 => k_asm); k_whole); walk_at "uX")
  k_with "CallK" => (k_here; (guard_target = CallK _ _ (Value.ref 113) _ _ _ _); k_dflt (refine' use_ctrX (c_minute_of _ _ _) ?g9_9 ?n9_9 ?F9_9 ?N9_9 ?_; (case g9_9 => with_reducible assumption); (case n9_9 => exact rfl); (case F9_9 => k_asm); (case N9_9 => k_asm); k_whole); walk_at "uX")
  k_with "CallK" => (k_here; (guard_target = CallK _ _ (Value.ref 120) _ _ _ _); k_dflt (refine' use_ctrX (c_second_of _ _ _) ?g9_9 ?n9_9 ?F9_9 ?N9_9 ?_; (case g9_9 => with_reducible assumption); (case n9_9 => exact rfl); (case F9_9 => k_asm); (case N9_9 => k_asm); k_whole); walk_at "uX")
  k_with "CallK" => (k_here; (guard_target = CallK _ _ (Value.ref 127) _ _ _ _); k_dflt (refine' use_ctrX (c_ms_of _ _ _) ?g9_9 ?n9_9 ?F9_9 ?N9_9 ?_; (case g9_9 => with_reducible assumption); (case n9_9 => exact rfl); (case F9_9 => k_asm); (case N9_9 => k_asm); k_whole); walk_at "uX")
  k_with "compareOp In" => (k_here; (guard_target = wpAny _ _ (compareOp CmpOp.In Value.none (Value.ref _)) _ _ _); k_dflt (first | (refine' none_in4 ?N_9 ?a_9 ?n_9 ?_; (case N_9 => k_asm); (case a_9 => k_mem); (case n_9 => first | with_reducible assumption | ktr_units); k_whole) | (refine' none_in3 ?N_9 ?a_9 ?n_9 ?_; (case N_9 => k_asm); (case a_9 => k_mem); (case n_9 => first | with_reducible assumption | ktr_units); k_whole)); (try dsimp only))
  k_with "CallK" => (k_here; (guard_target = CallK _ _ (Value.ref 141) _ _ _ _); k_dflt (refine' use_ctrX (c_make_time _ _ _ _ _ _ _ _ _) ?g9_9 ?n9_9 ?F9_9 ?N9_9 ?_; (case g9_9 => with_reducible assumption); (case n9_9 => exact rfl); (case F9_9 => k_asm); (case N9_9 => k_asm); k_whole); walk_at "uX")
  k_with "CallK" => (k_here; (guard_target = CallK _ _ (Value.ref 148) _ _ _ _); k_dflt (refine' use_ctrX (c_make_day _ _ _ _ _ _ _) ?g9_9 ?n9_9 ?F9_9 ?N9_9 ?_; (case g9_9 => with_reducible assumption); (case n9_9 => exact rfl); (case F9_9 => k_asm); (case N9_9 => k_asm); k_whole); walk_at "uX")
  k_with "CallK" => (k_here; (guard_target = CallK _ _ (Value.ref 155) _ _ _ _); k_dflt (refine' use_ctrX (c_make_date _ _ _ _ _) ?g9_9 ?n9_9 ?F9_9 ?N9_9 ?_; (case g9_9 => with_reducible assumption); (case n9_9 => exact rfl); (case F9_9 => k_asm); (case N9_9 => k_asm); k_whole); walk_at "uX")
  k_with "CallK" => (k_here; (guard_target = CallK _ _ (Value.ref 176) _ _ _ _); k_dflt (refine' use_ctrX (c_local_of _ _ _ _ _) ?g9_9 ?n9_9 ?F9_9 ?N9_9 ?_; (case g9_9 => with_reducible assumption); (case n9_9 => exact rfl); (case F9_9 => k_asm); (case N9_9 => k_asm); k_whole); walk_at "uX")
  k_with "CallK" => (k_here; (guard_target = CallK _ _ (Value.ref 183) _ _ _ _); k_dflt (refine' use_ctrX (c_utc_of _ _ _ _ _) ?g9_9 ?n9_9 ?F9_9 ?N9_9 ?_; (case g9_9 => with_reducible assumption); (case n9_9 => exact rfl); (case F9_9 => k_asm); (case N9_9 => k_asm); k_whole); walk_at "uX")
  k_with "CallK" => (k_here; (guard_target = CallK _ _ (Value.ref 162) _ _ _ _); k_dflt (refine' use_ctr (c_time_clip _ _ _) ?g9_9 ?n9_9 ?F9_9 ?N9_9 ?_; (case g9_9 => with_reducible assumption); (case n9_9 => exact rfl); (case F9_9 => k_asm); (case N9_9 => k_asm); k_whole); intro r9 h9 tk9 hP9 F9 N9; (try dsimp only); (try k_sweep); (try k_fold))
  k_with "CallK" => (k_here; (guard_target = CallK _ _ (Value.ref 393) _ _ _ _); k_dflt (refine' use_ctrX (c_length _ _ _ _ _) ?g9_9 ?n9_9 ?F9_9 ?N9_9 ?_; (case g9_9 => with_reducible assumption); (case n9_9 => exact rfl); (case F9_9 => k_asm); (case N9_9 => k_asm); k_whole); walk_at "uX")
  trivial
local macro_rules | `(tactic| k_all) => `(tactic| with_reducible assumption)
theorem ru_L6_1 : True := by
  k_with "CallK" => (k_here; (guard_target = CallK _ _ (Value.ref 398) _ _ _ _); k_dflt (refine' use_ctrX (c_count _ _ _ _ _ _ _ ?p0_9 ?p1_9) ?g9_9 ?n9_9 ?F9_9 ?N9_9 ?_; (case g9_9 => with_reducible assumption); (case n9_9 => exact rfl); (case F9_9 => k_asm); (case N9_9 => k_asm); (case p0_9 => first | with_reducible assumption | decide | l_fact); (case p1_9 => first | with_reducible assumption | decide | l_fact); k_whole); walk_at "uX")
  k_with "CallK" => (k_here; (guard_target = CallK _ _ (Value.ref 367) _ _ _ _); k_dflt (refine' use_days (c_days _) ?g9_9 ?n9_9 ?F9_9 ?N9_9 ?_; (case g9_9 => with_reducible assumption); (case n9_9 => exact rfl); (case F9_9 => k_asm); (case N9_9 => k_asm); k_whole); intro q9 u9t1 u9t2 u9t3 u9t4 u9t5 u9t6 u9t7 c9 h9 tk9 F9 N9; (try dsimp only); (try k_sweep); (try k_fold))
  k_with "CallK" => (k_here; (guard_target = CallK _ _ (Value.ref 374) _ _ _ _); k_dflt (refine' use_months (c_months _) ?g9_9 ?n9_9 ?F9_9 ?N9_9 ?_; (case g9_9 => with_reducible assumption); (case n9_9 => exact rfl); (case F9_9 => k_asm); (case N9_9 => k_asm); k_whole); intro q9 u9t1 u9t2 u9t3 u9t4 u9t5 u9t6 u9t7 u9t8 u9t9 u9t10 u9t11 u9t12 c9 h9 tk9 F9 N9; (try dsimp only); (try k_sweep); (try k_fold))
  k_with "subscriptTail" => (k_here; (guard_target = wpAny _ _ (subscriptTail _ _ (Value.ref _) (Value.int _ _)) _ _ _); k_dflt (refine' days_item ?k1_9 ?k2_9 ?k3_9 ?k4_9 ?_ ?k5_9; (case k1_9 => k_asm); (case k2_9 => k_mem); (case k3_9 => exact (fm_b0 _ (by decide)).1); (case k4_9 => exact (fm_b0 _ (by decide)).2); (case k5_9 => with_unfolding_all rfl)); intro _)
  k_with "subscriptTail" => (k_here; (guard_target = wpAny _ _ (subscriptTail _ _ (Value.ref _) (Value.int _ _)) _ _ _); k_dflt (refine' months_item ?k1_9 ?k2_9 ?k3_9 ?k4_9 ?_ ?k5_9; (case k1_9 => k_asm); (case k2_9 => k_mem); (case k3_9 => assumption); (case k4_9 => assumption); (case k5_9 => with_unfolding_all rfl)); intro _)
  k_with "call builtin:str.join" => (k_here; (guard_target = wpAny _ _ (call (Value.builtin "str.join") [Value.str _ _, Value.ref _]) _ _ _); k_dflt (refine' join_mk3 ?j1_9 ?j2_9 ?j3_9 ?j4_9 ?j5_9 ?j6_9 ?_; (case j1_9 => exact News.isList (by k_asm) (by k_mem)); (case j2_9 => first | exact lit4 | exact lit1); (case j3_9 => decide); (case j4_9 => rw [figs_len]; decide); (case j5_9 => rw [figs_len]; decide); (case j6_9 => rw [figs_len]; decide)); intro _ _; (try dsimp only))
  k_with "my size" => (simp only [Str.length_append, mk_len, figs_len, item_len, osT_len, lit0, lit1, lit2, lit3, lit4, lit5, lit6, lit7, lit8, lit9, lit10, lit11, lit12, lit13, lit14, lit15, lit16, lit17, lit18, lit19, lit20, lit21, lit22, lit23, lit24, lit25, lit26, lit27, lit28, lit29, lit30, lit31, lit32, lit33, lit34, lit35, lit36, lit37, lit38, lit39, lit40, lit41, lit42, lit43, lit44, lit45, lit46, lit47, lit48, lit49, lit50, lit51, lit52, lit53, List.length_append, List.length_cons, List.length_nil]; omega)
  k_with "eval ListComp" => (k_here; (guard_target = wpAny _ _ (eval (Expr.ListComp _ [⟨_, Expr.Tuple _ _ _, _, _⟩] _ _) _) _ _ _); k_dflt (refine ListComp_Tup (F₀ := by k_asm) (by with_unfolding_all rfl) (by decide) (by rfl) (by decide) (by rfl) ?_))
  k_with "TupSrc" => (k_here; k_dflt (refine TupSrc.intro (by rfl) (by k_asm) (by k_asm) (by k_mem) (by exact Nat.le_of_ble_eq_true rfl) ?_; intro g'; lcg_lit))
  k_with "CompEnd" => (k_here; k_dflt (refine' LCg.CompEnd.intro ?cF_9 ?cN_9 _ sub_refl ?cO_9 ?cS_9 ?_; (case cF_9 => k_asm); (case cN_9 => k_asm); (case cO_9 => first | assumption | (with_unfolding_all assumption) | (simp only [LCg.Off3, and_true]; first | done | assumption)); (case cS_9 => exact ⟨_, by k_mem, rfl, _, rfl⟩)))
  k_with "CallK" => (k_here; (guard_target = CallK _ _ (Value.ref 410) _ _ _ _); k_dflt (refine' use_ctrMX (c_shown _ _ _ _ _ _ _ _ _ _ _ _ _ _ _ _ _ ?p0_9 ?p1_9 ?p2_9 ?p3_9 ?p4_9 ?p5_9 ?p6_9 ?p7_9 ?p8_9) ?g9_9 ?n9_9 ?F9_9 ?N9_9 ?q9_9 ?_; (case g9_9 => with_reducible assumption); (case n9_9 => exact rfl); (case F9_9 => k_asm); (case N9_9 => k_asm); (case q9_9 => k_mem); (case p0_9 => first | assumption | l_fact); (case p1_9 => first | assumption | l_fact); (case p2_9 => first | assumption | l_fact); (case p3_9 => first | assumption | l_fact); (case p4_9 => first | assumption | l_fact); (case p5_9 => first | assumption | l_fact); (case p6_9 => first | assumption | l_fact); (case p7_9 => first | assumption | l_fact); (case p8_9 => first | assumption | l_fact); k_whole); walk_at "uX")
  trivial
set_option maxRecDepth 100000
set_option maxHeartbeats 8000000
noncomputable def Hold6 (P : Prop) : Prop := P
theorem hold6 {P : Prop} (h : Hold6 P) : P := h
theorem unhold6 {P : Prop} (h : P) : Hold6 P := h
theorem lenF_b (y m : Int) : 28 ≤ lenF y m ∧ lenF y m ≤ 31 := by unfold lenF; split <;> (try split) <;> decide
theorem pick {prog : Program} {w : World} {A : Around} {E : Value → Shared → Prop} {s : Shared} {h₀ : Heap} {L q : Addr} {news : List (Addr × Obj)} {Q : Value → Shared → Prop} {value slice : PySem.Expr} {vs : List Value} {ns : List Int} {k : Int} {u : Tok} {n : Nat} {ob : Obj} (lo hi : Int)
    (N : News h₀ L s.heap news) (hq : (q, ob) ∈ news) (hob : ob = listOf vs.toArray n) (hi' : IntsAre vs ns) (h0 : 0 ≤ k) (h1 : k < (ns.length : Int)) (h2 : ns.length ≤ 1000) (hb : ∀ a ∈ ns, lo ≤ a ∧ a ≤ hi) (h : ∀ y t, lo ≤ y → y ≤ hi → Q (.int y t) s)
    (hs : subscripted slice false (.ref q) (.int k u) = operate [.ref q, .int k u] (getItem (.ref q) (.int k u)) := by with_unfolding_all rfl) :
    wpAny (model prog w) A (subscriptTail value slice (.ref q) (.int k u)) Q E s := by
  have hL : s.heap.IsList q vs.toArray := ⟨_, (N _ hq).1, by rw [hob], n, by rw [hob]⟩
  have hlen : vs.length = ns.length := hi'.length
  have hk : k.toNat < vs.length := by (first | lia | omega)
  obtain ⟨y, t, hm, hm'⟩ := IntsAre.at hi' k.toNat vs[k.toNat] (List.getElem?_eq_getElem hk)
  exact tail_any hL.typeIs slot_list_getitem.lookup (wpAny_getItem_list hL h0 (by (first | lia | omega)) (by simp [List.getElem?_eq_getElem hk, hm]) (h y t (hb y (List.mem_of_getElem? hm')).1 (hb y (List.mem_of_getElem? hm')).2)) hs
theorem pick5 {prog : Program} {w : World} {A : Around} {E : Value → Shared → Prop} {s : Shared} {h₀ : Heap} {L q : Addr} {news : List (Addr × Obj)} {Q : Value → Shared → Prop} {value slice : PySem.Expr} {a b c d e k : Int} {u ta tb tc td te : Tok} {n : Nat} (lo hi : Int)
    (N : News h₀ L s.heap news) (hq : (q, listOf #[.int a ta, .int b tb, .int c tc, .int d td, .int e te] n) ∈ news) (h0 : 0 ≤ k) (h1 : k < 5) (hb : (lo ≤ a ∧ a ≤ hi) ∧ (lo ≤ b ∧ b ≤ hi) ∧ (lo ≤ c ∧ c ≤ hi) ∧ (lo ≤ d ∧ d ≤ hi) ∧ (lo ≤ e ∧ e ≤ hi)) (h : ∀ y t, lo ≤ y → y ≤ hi → Q (.int y t) s)
    (hs : subscripted slice false (.ref q) (.int k u) = operate [.ref q, .int k u] (getItem (.ref q) (.int k u)) := by with_unfolding_all rfl) :
    wpAny (model prog w) A (subscriptTail value slice (.ref q) (.int k u)) Q E s :=
  pick (vs := [.int a ta, .int b tb, .int c tc, .int d td, .int e te]) (ns := [a, b, c, d, e]) lo hi N hq rfl (.cons _ _ (.cons _ _ (.cons _ _ (.cons _ _ (.cons _ _ (.nil)))))) h0 (by simpa using h1) (by simp) (by simpa using hb) h hs
theorem pick6 {prog : Program} {w : World} {A : Around} {E : Value → Shared → Prop} {s : Shared} {h₀ : Heap} {L q : Addr} {news : List (Addr × Obj)} {Q : Value → Shared → Prop} {value slice : PySem.Expr} {a b c d e f k : Int} {u ta tb tc td te tf : Tok} {n : Nat} (lo hi : Int)
    (N : News h₀ L s.heap news) (hq : (q, listOf #[.int a ta, .int b tb, .int c tc, .int d td, .int e te, .int f tf] n) ∈ news) (h0 : 0 ≤ k) (h1 : k < 6) (hb : (lo ≤ a ∧ a ≤ hi) ∧ (lo ≤ b ∧ b ≤ hi) ∧ (lo ≤ c ∧ c ≤ hi) ∧ (lo ≤ d ∧ d ≤ hi) ∧ (lo ≤ e ∧ e ≤ hi) ∧ (lo ≤ f ∧ f ≤ hi)) (h : ∀ y t, lo ≤ y → y ≤ hi → Q (.int y t) s)
    (hs : subscripted slice false (.ref q) (.int k u) = operate [.ref q, .int k u] (getItem (.ref q) (.int k u)) := by with_unfolding_all rfl) :
    wpAny (model prog w) A (subscriptTail value slice (.ref q) (.int k u)) Q E s :=
  pick (vs := [.int a ta, .int b tb, .int c tc, .int d td, .int e te, .int f tf]) (ns := [a, b, c, d, e, f]) lo hi N hq rfl (.cons _ _ (.cons _ _ (.cons _ _ (.cons _ _ (.cons _ _ (.cons _ _ (.nil))))))) h0 (by simpa using h1) (by simp) (by simpa using hb) h hs
theorem ru_L6_2 : True := by
  k_with "subscriptTail" => (k_here; (guard_target = wpAny _ _ (subscriptTail _ _ (Value.ref _) (Value.int _ _)) _ _ _); k_dflt (refine' pick5 0 9999 ?k1_9 ?k2_9 ?k4_9 ?k5_9 ?k7_9 ?_ ?k8_9; (case k1_9 => k_asm); (case k2_9 => exact List.mem_cons_self); (case k4_9 => assumption); (case k5_9 => with_reducible assumption); (case k7_9 => omega); (case k8_9 => with_unfolding_all rfl)); intro _ _ _ _)
  k_with "subscriptTail" => (k_here; (guard_target = wpAny _ _ (subscriptTail _ _ (Value.ref _) (Value.int _ _)) _ _ _); k_dflt (refine' pick6 (-1439) 1439 ?k1_9 ?k2_9 ?k4_9 ?k5_9 ?k7_9 ?_ ?k8_9; (case k1_9 => k_asm); (case k2_9 => exact List.mem_cons_self); (case k4_9 => assumption); (case k5_9 => with_reducible assumption); (case k7_9 => omega); (case k8_9 => with_unfolding_all rfl)); intro _ _ _ _)
  trivial
theorem c_wholeL (w : World) (X o : Int) (l : List Nat) (t t' : Tok) (h : Whole X o l) : Ctr w 234 9 [.int X t, .int o t'] (strv (mk l)) := by
  obtain ⟨yy, mm, h1, h2, h3, h4, h5, rfl⟩ := h
  exact c_whole_text w X o yy mm t t' h1 h2 h3 h4 h5
theorem c_utcL (w : World) (X : Int) (l : List Nat) (t : Tok) (h : Utc X l) : Ctr w 241 9 [.int X t] (strv (mk l)) := by
  obtain ⟨yy, mm, h1, h2, h3, rfl⟩ := h
  exact c_utc_text w X yy mm t h1 h2 h3
theorem c_psL (w : World) (l : List Nat) (v : Int) (t : Tok) (h : PsV l v) : Ctr w 353 6 [.str (mk l) t] (intv v) := by
  have C := c_parse_shown w l t h.1
  rw [h.2] at C
  exact C
theorem c_piL (w : World) (x : Str) (l : List Nat) (v : Int) (t : Tok) (hx : x = mk l) (h : PiV l v) : Ctr w 346 6 [.str x t] (intv v) := by
  have C := c_parse_iso w l t (by have := h.1; omega) h.2.1
  rw [h.2.2] at C
  rw [hx]; exact C
theorem c_piN (w : World) (x : Str) (l : List Nat) (t : Tok) (hx : x = mk l) (h : OkN l) : Ctr w 346 6 [.str x t] (fun r => r = .none) := by
  have C := c_parse_iso w l t (by have := h.1; omega) h.2.1
  rw [h.2.2] at C
  rw [hx]; exact C
theorem c_pdL (w : World) (x : Str) (l : List Nat) (v : Int) (t : Tok) (hx : x = mk l) (h : PdV l v) : Ctr w 360 7 [.str x t] (intv v) := by
  have C := c_parse_date w l t h.1 h.2.1
  rw [h.2.2] at C
  rw [hx]; exact C
theorem tail_eq (a b : List Nat) : Str.ofString "." ++ mk a ++ mk b = mk (46 :: (a ++ b)) := by rw [lit8, mk_app, mk_app]; rfl
section
variable {prog : Program} {w : World} {A : Around} {E : Value → Shared → Prop} {s : Shared} {Q : Value → Shared → Prop} {x y : Str} {t u : Tok} {a : Int}
theorem ne_strs (e : x = y) (h : Q (.bool false) s) : wpAny (model prog w) A (compareOp .NotEq (.str x t) (.str y u)) Q E s := ne_str (by rw [e]; simpa using h)
theorem eq_ints (h : Q (.bool true) s) : wpAny (model prog w) A (compareOp .Eq (.int a t) (.int a u)) Q E s := eq_int (by simpa using h)
theorem ne_ints (h : Q (.bool false) s) : wpAny (model prog w) A (compareOp .NotEq (.int a t) (.int a u)) Q E s := ne_int (by simpa using h)
end
theorem ru_L6_3 : True := by
  k_with "compareOp NotEq str str" => (k_here; refine hold6 ?_)
  k_with "compareOp NotEq int int" => (k_here; refine hold6 ?_)
  k_with "compareOp NotEq str str" => (k_here; k_dflt (refine' ne_strs ?e_9 ?_; (case e_9 => first | (with_reducible rfl) | (with_reducible exact (plain_eq _).symm))))
  k_with "compareOp Eq int int" => (k_here; (with_reducible refine eq_ints ?_))
  k_with "compareOp NotEq int int" => (k_here; (with_reducible refine ne_ints ?_))
  k_with "binaryOp Add str str" => (k_here; (guard_target = wpAny _ _ (binaryOp Operator.Add (Value.str _ _) (Value.str _ _)) _ _ _); k_dflt (refine' add_txt2 ?z_9 ?_; (case z_9 => walk_at "my size")); intro _ _)
  k_with "my size" => (simp only [Str.length_append, mk_len, figs_len, item_len, osT_len, lit0, lit1, lit2, lit3, lit4, lit5, lit6, lit7, lit8, lit9, lit10, lit11, lit12, lit13, lit14, lit15, lit16, lit17, lit18, lit19, lit20, lit21, lit22, lit23, lit24, lit25, lit26, lit27, lit28, lit29, lit30, lit31, lit32, lit33, lit34, lit35, lit36, lit37, lit38, lit39, lit40, lit41, lit42, lit43, lit44, lit45, lit46, lit47, lit48, lit49, lit50, lit51, lit52, lit53, List.length_append, List.length_cons, List.length_nil, List.length_take, List.length_drop] <;> (first | lia | omega))
  k_with "subscriptTail Name Slice str ref" => (k_here; k_dflt (refine' slice_mk_ns (s := ⟨_, _, _, _, _⟩) ?k1_9 ?k2_9 ?k3_9 ?k4_9 ?_ ?k5_9 ?k6_9; (case k1_9 => k_asm); (case k2_9 => k_asm); (case k3_9 => decide); (case k4_9 => omega); (case k5_9 => with_unfolding_all rfl); (case k6_9 => intro _; with_unfolding_all rfl)); intro _ _ _ _ _; (try dsimp only); (try k_sweep))
  k_with "subscriptTail Name Slice str ref" => (k_here; k_dflt (refine' slice_mk_ss (s := ⟨_, _, _, _, _⟩) ?k1_9 ?k2_9 ?k3_9 ?k3b_9 ?k4_9 ?_ ?k5_9 ?k6_9; (case k1_9 => k_asm); (case k2_9 => k_asm); (case k3_9 => decide); (case k3b_9 => decide); (case k4_9 => omega); (case k5_9 => with_unfolding_all rfl); (case k6_9 => intro _; with_unfolding_all rfl)); intro _ _ _ _ _; (try dsimp only); (try k_sweep))
  k_with "CallK" => (k_here; (guard_target = CallK _ _ (Value.ref 346) _ _ _ _); refine hold6 ?_)
  k_with "CallK" => (k_here; (guard_target = CallK _ _ (Value.ref 353) _ _ _ _); refine hold6 ?_)
  k_with "CallK" => (k_here; (guard_target = CallK _ _ (Value.ref 360) _ _ _ _); refine hold6 ?_)
  k_with "CallK" => (k_here; (guard_target = CallK _ _ (Value.ref 241) _ _ _ _); refine hold6 ?_)
  k_with "CallK" => (k_here; (guard_target = CallK _ _ (Value.ref 410) _ _ _ _); refine hold6 ?_)
  k_with "CallK" => (k_here; (guard_target = CallK _ _ (Value.ref 415) _ _ _ _); refine hold6 ?_)
  k_with "CallK" => (k_here; (guard_target = CallK _ _ (Value.ref 422) _ _ _ _); refine hold6 ?_)
  k_with "CallK" => (k_here; (guard_target = CallK _ _ (Value.ref 429) _ _ _ _); refine hold6 ?_)
  k_with "CallK" => (k_here; (guard_target = CallK _ _ (Value.ref 386) _ _ _ _); refine hold6 ?_)
  k_with "CallK" => (k_here; (guard_target = CallK _ _ (Value.ref 405) _ _ _ _); refine hold6 ?_)
  k_with "CallK" => (k_here; (guard_target = CallK _ _ (Value.ref 234) [Value.int _ _, _] _ _ _); refine hold6 ?_)
  k_with "CallK" => (k_here; (guard_target = CallK _ _ (Value.ref 234) _ _ _ _); k_dflt (refine' use_ctrX (c_wholeL _ _ _ _ _ _ ?p0_9) ?g9_9 ?n9_9 ?F9_9 ?N9_9 ?_; (case g9_9 => with_reducible assumption); (case n9_9 => exact rfl); (case F9_9 => k_asm); (case N9_9 => k_asm); (case p0_9 => with_reducible assumption); k_whole); walk_at "uX")
  k_with "CallK" => (k_here; (guard_target = CallK _ _ (Value.ref 234) _ _ _ _); k_dflt (refine' use_ctrX (c_whole_none _ _ _) ?g9_9 ?n9_9 ?F9_9 ?N9_9 ?_; (case g9_9 => with_reducible assumption); (case n9_9 => exact rfl); (case F9_9 => k_asm); (case N9_9 => k_asm); k_whole); walk_at "uX")
  k_with "CallK" => (k_here; (guard_target = CallK _ _ (Value.ref 241) _ _ _ _); k_dflt (refine' use_ctrX (c_utcL _ _ _ _ ?p0_9) ?g9_9 ?n9_9 ?F9_9 ?N9_9 ?_; (case g9_9 => with_reducible assumption); (case n9_9 => exact rfl); (case F9_9 => k_asm); (case N9_9 => k_asm); (case p0_9 => with_reducible assumption); k_whole); walk_at "uX")
  k_with "CallK" => (k_here; (guard_target = CallK _ _ (Value.ref 241) _ _ _ _); k_dflt (refine' use_ctrX (c_utc_none _) ?g9_9 ?n9_9 ?F9_9 ?N9_9 ?_; (case g9_9 => with_reducible assumption); (case n9_9 => exact rfl); (case F9_9 => k_asm); (case N9_9 => k_asm); k_whole); walk_at "uX")
  k_with "CallK" => (k_here; (guard_target = CallK _ _ (Value.ref 353) _ _ _ _); k_dflt (refine' use_ctrX (c_psL _ _ _ _ ?p0_9) ?g9_9 ?n9_9 ?F9_9 ?N9_9 ?_; (case g9_9 => with_reducible assumption); (case n9_9 => exact rfl); (case F9_9 => k_asm); (case N9_9 => k_asm); (case p0_9 => with_reducible assumption); k_whole); walk_at "uX")
  k_with "CallK" => (k_here; (guard_target = CallK _ _ (Value.ref 346) _ _ _ _); k_dflt (refine' use_ctrX (c_piL _ _ _ _ _ ?p0_9 ?p1_9) ?g9_9 ?n9_9 ?F9_9 ?N9_9 ?_; (case g9_9 => with_reducible assumption); (case n9_9 => exact rfl); (case F9_9 => k_asm); (case N9_9 => k_asm); (case p0_9 => first | (with_reducible rfl)); (case p1_9 => with_reducible assumption); k_whole); walk_at "uX")
  k_with "CallK" => (k_here; (guard_target = CallK _ _ (Value.ref 346) _ _ _ _); k_dflt (refine' use_ctrV (c_piN _ _ _ _ ?p0_9 ?p1_9) ?g9_9 ?n9_9 ?F9_9 ?N9_9 ?_; (case g9_9 => with_reducible assumption); (case n9_9 => exact rfl); (case F9_9 => k_asm); (case N9_9 => k_asm); (case p0_9 => with_reducible exact l_k1); (case p1_9 => with_reducible assumption); k_whole); walk_at "uV")
  k_with "CallK" => (k_here; (guard_target = CallK _ _ (Value.ref 360) _ _ _ _); k_dflt (refine' use_ctrX (c_pdL _ _ _ _ _ ?p0_9 ?p1_9) ?g9_9 ?n9_9 ?F9_9 ?N9_9 ?_; (case g9_9 => with_reducible assumption); (case n9_9 => exact rfl); (case F9_9 => k_asm); (case N9_9 => k_asm); (case p0_9 => first | (with_reducible exact plain_eq _) | (with_reducible rfl)); (case p1_9 => with_reducible assumption); k_whole); walk_at "uX")
  k_with "CallK" => (k_here; (guard_target = CallK _ _ (Value.ref 386) _ _ _ _); k_dflt (refine' use_ctrX (c_fig3 _ _ _ _ ?p0_9) ?g9_9 ?n9_9 ?F9_9 ?N9_9 ?_; (case g9_9 => with_reducible assumption); (case n9_9 => exact rfl); (case F9_9 => k_asm); (case N9_9 => k_asm); (case p0_9 => with_reducible assumption); k_whole); walk_at "uX")
  k_with "CallK" => (k_here; (guard_target = CallK _ _ (Value.ref 405) _ _ _ _); k_dflt (refine' use_ctrX (c_offset _ _ _ _ _ _ ?p0_9 ?p1_9 ?p2_9 ?p3_9) ?g9_9 ?n9_9 ?F9_9 ?N9_9 ?_; (case g9_9 => with_reducible assumption); (case n9_9 => exact rfl); (case F9_9 => k_asm); (case N9_9 => k_asm); (case p0_9 => with_reducible exact lit4); (case p1_9 => decide); (case p2_9 => first | exact Nat.le_trans (by with_reducible assumption) (by decide) | omega); (case p3_9 => first | exact Nat.le_trans (by with_reducible assumption) (by decide) | omega); k_whole); walk_at "uX")
  k_with "CallK" => (k_here; (guard_target = CallK _ _ (Value.ref 410) _ _ _ _); k_dflt (refine' use_ctrMX (c_shown _ _ _ _ _ _ _ _ _ _ _ _ _ _ _ _ _ ?p0_9 ?p1_9 ?p2_9 ?p3_9 ?p4_9 ?p5_9 ?p6_9 ?p7_9 ?p8_9) ?g9_9 ?n9_9 ?F9_9 ?N9_9 ?q9_9 ?_; (case g9_9 => with_reducible assumption); (case n9_9 => exact rfl); (case F9_9 => k_asm); (case N9_9 => k_asm); (case q9_9 => k_mem); (case p0_9 => first | (with_reducible assumption) | omega); (case p1_9 => first | (with_reducible assumption) | omega); (case p2_9 => first | (with_reducible assumption) | omega); (case p3_9 => first | (with_reducible assumption) | omega); (case p4_9 => first | (with_reducible assumption) | omega); (case p5_9 => first | (with_reducible assumption) | omega); (case p6_9 => first | (with_reducible assumption) | omega); (case p7_9 => first | (with_reducible assumption) | omega); (case p8_9 => first | (with_reducible assumption) | omega); k_whole); walk_at "uX")
  k_with "CallK" => (k_here; (guard_target = CallK _ _ (Value.ref 415) _ _ _ _); k_dflt (refine' use_ctrMX (c_iso _ _ _ _ _ _ _ _ _ _ _ _ _ _ _ _ _ _ ?p0_9 ?p1_9 ?p2_9 ?p3_9 ?p4_9 ?p5_9 ?p6_9 ?p7_9) ?g9_9 ?n9_9 ?F9_9 ?N9_9 ?q9_9 ?_; (case g9_9 => with_reducible assumption); (case n9_9 => exact rfl); (case F9_9 => k_asm); (case N9_9 => k_asm); (case q9_9 => k_mem); (case p0_9 => first | (with_reducible assumption) | omega); (case p1_9 => first | (with_reducible assumption) | omega); (case p2_9 => first | (with_reducible assumption) | omega); (case p3_9 => first | (with_reducible assumption) | omega); (case p4_9 => first | (with_reducible assumption) | omega); (case p5_9 => first | (with_reducible assumption) | omega); (case p6_9 => with_reducible (first | exact lit15 | exact tail_eq _ _)); (case p7_9 => simp only [List.length_append, figs_len, osT_len, List.length_cons, List.length_nil]; decide); k_whole); walk_at "uX")
  k_with "CallK" => (k_here; (guard_target = CallK _ _ (Value.ref 422) _ _ _ _); k_dflt (refine' use_ctrMV (c_bounds _ _ _ _ _ _ _ _ _ _ _ _ _ ?p0_9 ?p1_9 ?p2_9 ?p3_9 ?p4_9 ?p5_9 ?p6_9) ?g9_9 ?n9_9 ?F9_9 ?N9_9 ?q9_9 ?_; (case g9_9 => with_reducible assumption); (case n9_9 => exact rfl); (case F9_9 => k_asm); (case N9_9 => k_asm); (case q9_9 => k_mem); (case p0_9 => with_reducible assumption); (case p1_9 => with_reducible assumption); (case p2_9 => with_reducible assumption); (case p3_9 => with_reducible assumption); (case p4_9 => with_reducible assumption); (case p5_9 => exact Int.le_trans (by decide) (lenF_b _ _).1); (case p6_9 => with_reducible assumption); k_whole); walk_at "uV")
  k_with "CallK" => (k_here; (guard_target = CallK _ _ (Value.ref 429) _ _ _ _); k_dflt (refine' use_ctrMV (c_wrong _ _ _ _ _ _ _ _ _ _ _ _ _ _ _ _ _ ?p0_9 ?p1_9 ?p2_9 ?p3_9 ?p4_9 ?p5_9 ?p6_9 ?p7_9 ?p8_9 ?p9_9) ?g9_9 ?n9_9 ?F9_9 ?N9_9 ?q9_9 ?_; (case g9_9 => with_reducible assumption); (case n9_9 => exact rfl); (case F9_9 => k_asm); (case N9_9 => k_asm); (case q9_9 => k_mem); (case p0_9 => first | (with_reducible assumption) | omega); (case p1_9 => first | (with_reducible assumption) | omega); (case p2_9 => first | (with_reducible assumption) | omega); (case p3_9 => first | (with_reducible assumption) | omega); (case p4_9 => first | (with_reducible assumption) | omega); (case p5_9 => first | (with_reducible assumption) | omega); (case p6_9 => first | (with_reducible assumption) | omega); (case p7_9 => first | (with_reducible assumption) | omega); (case p8_9 => first | (with_reducible assumption) | omega); (case p9_9 => with_reducible assumption); k_whole); walk_at "uV")
  k_with "CallK" => (k_here; (guard_target = CallK _ _ (Value.ref 393) _ _ _ _); k_dflt (refine' use_ctrX (c_length _ _ _ _ _) ?g9_9 ?n9_9 ?F9_9 ?N9_9 ?_; (case g9_9 => with_reducible assumption); (case n9_9 => exact rfl); (case F9_9 => k_asm); (case N9_9 => k_asm); k_whole); walk_at "uX")
  trivial
theorem k_23 : ∃ v, PiV K2 v ∧ PiV K3 v := ⟨_, k_2, k_3⟩
theorem go_on {w : World} {A : Around} {Q E : Value → Shared → Prop} {s' : Shared} {k t : Tok} {y m e h i s o ms : Int} (y0 : 0 ≤ y) (y1 : y ≤ 9999) (m0 : 0 ≤ m) (m1 : m < 12) (e0 : 0 ≤ e) (e1 : e < lenF y m) (h0 : 0 ≤ h) (h1 : h < 24) (i0 : 0 ≤ i) (i1 : i < 60) (s0 : 0 ≤ s) (s1 : s < 60) (o0 : -1439 ≤ o) (o1 : o ≤ 1439) (g0 : 0 ≤ ms) (g1 : ms < 300)
    (K : LF y m (1 + e) h i s o ms (countF y m (1 + e)) → CallK w A (.ref 234) [.int (((countF y m (1 + e) * 24 + h) * 60 + i) * 60000 + s * 1000 - o * 60000 + ms) k, .int o t] Q E s') :
    Hold6 (CallK w A (.ref 234) [.int (((countF y m (1 + e) * 24 + h) * 60 + i) * 60000 + s * 1000 - o * 60000 + ms) k, .int o t] Q E s') := K (lf_law0 y0 y1 m0 m1 e0 e1 h0 h1 i0 i1 s0 s1 o0 o1 g0 g1)
theorem ru_L6_4 : True := by
  k_with "updF" => first | (refine' UpdF.head ?a_9; (case a_9 => walk_at "nall")) | (refine' UpdF.tail ?a_9 ?b_9; (case a_9 => walk_at "ne"); (case b_9 => walk_at "updF"))
  k_with "CallK" => (k_here; (guard_target = CallK _ _ (Value.ref 381) _ _ _ _); k_dflt (refine' use_ctrP (c_draw _ _ _ _ _ _ _ _ _ _ _ _ ?i_9 ?l_9 ?m_9 ?m1_9 ?q0_9 ?q1_9 ?p0_9 ?p1_9) ?g_9 ?n_9 ?F_9 ?N_9 ?U_9 ?q_9 ?ne_9 ?_; (case g_9 => with_reducible assumption); (case n_9 => exact rfl); (case F_9 => k_asm); (case N_9 => k_asm); (case U_9 => walk_at "updF"); (case q_9 => k_mem); (case i_9 => assumption); (case l_9 => simp only [List.length_map, List.length_take]; first | exact Nat.min_le_left _ _ | omega); (case ne_9 => walk_at "ne"); (case m_9 => first | decide | exact Int.lt_of_lt_of_le (by decide) (lenF_b _ _).1); (case m1_9 => first | decide | exact Int.le_trans (lenF_b _ _).2 (by decide)); (case q0_9 => decide); (case q1_9 => decide); (case p0_9 => first | assumption | exact (fm_b0 _ (by decide)).1); (case p1_9 => first | assumption | exact (fm_b0 _ (by decide)).2)); intro r9 p9 t19 t29 tr9 h9 tk9 r90 r91 p90 p91 F9 N9; (try dsimp only at N9); (try dsimp only); (try k_sweep); (try k_fold))
  k_with "GoodW cons ok" => (k_here; refine hold6 ?_)
  trivial
theorem pl_of {w : World} {n dp un : Nat} {A A₀ : Around} {gd : Option (List Code)} {cn : Str} {cs : Scope} {L a : Addr} {ccd : Value} {cl : List (Str × Addr)} {outer : List Env} {base h₀ h : Heap} {m : Str → Option Value} {mean : ExcName → Option Value} {mg mb : Str → Option Value} (e : A = ktrTop dp un gd cn cs L a ccd cl outer)
    (B : Below A₀ base outer h₀) (_ : Fr h₀ L h m) (X : (hd.heap_1 w.params).In h₀) (T : Top vw LZ mean mg mb h₀) (hk : cs.kind = .function) (hd : dp + n < recursionLimit) (hu : un + 8 * n + 200 < cLine) : Pl w n A h₀ L :=
  ⟨mean, mg, mb, dp, un, gd, cn, cs, a, ccd, cl, outer, A₀, base, e, B, X, T, hk, hd, hu⟩
theorem walkT : TofW hd := by
  w_strict k_go0
  (all_goals try k_fold)
  refine foldA ?_
  intro A9
  have P9 : Pl _ 9 A9 _ _ := pl_of rfl (by assumption) (by assumption) (by assumption) (by assumption) rfl (by decide) (by decide)
  walk_at "steps"
  refine go_on (by assumption) (by assumption) (by assumption) (by assumption) (by assumption) (by assumption) (by assumption) (by assumption) (by assumption) (by assumption) (by assumption) (by assumption) (by assumption) (by assumption) (by assumption) (by assumption) ?_
  intro hLF
  obtain ⟨a1, a2, a3, a4, a5, a6, a7, a0, a8⟩ := hLF
  have b1 := k_1
  obtain ⟨vK, b2, b3⟩ := k_23
  walk_at "steps"
  refine unhold6 ?_
  k_here
  k_dflt (refine' use_ctrX (c_piL _ _ _ _ _ ?p0 ?p1) ?g9 ?n9 ?F9 ?N9 ?_; (case g9 => with_reducible assumption); (case n9 => exact rfl); (case F9 => k_asm); (case N9 => k_asm); (case p0 => with_reducible exact l_k2); (case p1 => with_reducible assumption))
  walk_at "uX"
  walk_at "steps"
  refine unhold6 ?_
  k_here
  k_dflt (refine' use_ctrX (c_piL _ _ _ _ _ ?p0 ?p1) ?g9 ?n9 ?F9 ?N9 ?_; (case g9 => with_reducible assumption); (case n9 => exact rfl); (case F9 => k_asm); (case N9 => k_asm); (case p0 => with_reducible exact l_k3); (case p1 => with_reducible assumption))
  walk_at "uX"
  k_whole
  walk1
  all_goals (try k_whole)
  exact goodW_bool (by assumption) (by assumption) (fun _ => rfl) (by with_unfolding_all rfl)
end

end Mine
section
set_option linter.all false
namespace Mine
theorem hdB.tw9142976829333380226 : True := trivial
theorem hdB.tw15743991608246549593 : True := trivial
theorem hdB.tw17434296428519164491 : True := trivial
theorem hdB.tw2828884098039531912 : True := trivial
theorem hdB.tw13590473818690806345 : True := trivial
theorem hdB.tw7910017692960963338 : True := trivial
theorem hdB.tw5185705649570667068 : True := trivial
theorem hdB.tw8285313759482536705 : True := trivial
theorem hdB.tw17638148569751143965 : True := trivial
theorem hdB.tw1940032989174761077 : True := trivial
theorem hdB.tw14390636086894131281 : True := trivial
theorem hdB.tw14105206410194444243 : True := trivial
theorem hdB.tw6549052726310263592 : True := trivial
theorem hdB.tw429014850541975092 : True := trivial
theorem hdB.tw12654185650741343667 : True := trivial
theorem hdB.tw14770133251633014079 : True := trivial
theorem hdB.tw13068135487670080355 : True := trivial
theorem hdB.tw16191422360714044398 : True := trivial
theorem hdB.tw12459982240640925766 : True := trivial
theorem hdB.tw15441225245813983239 : True := trivial
theorem hdB.tw3650052124063349327 : True := trivial
theorem hdB.tw16473578340278991833 : True := trivial
theorem hdB.tw3152688966344297781 : True := trivial
theorem hdB.tw4612983599011166641 : True := trivial
theorem hdB.tw4346864117186326196 : True := trivial
theorem hdB.tw3076071011401407014 : True := trivial
theorem hdB.tw10122038535034852899 : True := trivial
theorem hdB.tw2645695988977503441 : True := trivial
theorem hdB.tw4699233967958636080 : True := trivial
theorem hdB.tw10474081053166931549 : True := trivial
theorem hdB.tw16414223228341086277 : True := trivial
theorem hdB.tw10337546527440214291 : True := trivial
theorem hdB.tw8786120591566911040 : True := trivial
theorem hdB.tw13121962541816492047 : True := trivial
theorem hdB.tw3121427921150283421 : True := trivial
theorem hdB.tw6730435261167549585 : True := trivial
theorem hdB.tw11354415725715193646 : True := trivial
theorem hdB.tw9779097052493789642 : True := trivial
theorem hdB.tw11296636070527034274 : True := trivial
theorem hdB.tw12351255435464108759 : True := trivial
theorem hdB.tw5693732006539243449 : True := trivial
theorem hdB.tw15598725036906452976 : True := trivial
theorem hdB.tw981913908648388671 : True := trivial
theorem hdB.tw10022493443994453556 : True := trivial
theorem hdB.tw15692414882686858021 : True := trivial
theorem hdB.tw11183744455006915406 : True := trivial
theorem hdB.tw14068106846996055692 : True := trivial
theorem hdB.tw8357848566282084377 : True := trivial
theorem hdB.tw3476577946124217138 : True := trivial
theorem hdB.tw5446816296623458443 : True := trivial
theorem hdB.tw10624645019109523394 : True := trivial
theorem hdB.tw7719808077391009046 : True := trivial
theorem hdB.tw4068126273212173685 : True := trivial
theorem hdB.tw9026251335127909631 : True := trivial
theorem hdB.tw12206338054501810692 : True := trivial
theorem hdB.tw5836973686768349771 : True := trivial
theorem hdB.tw2848056539902326636 : True := trivial
theorem hdB.tw18206664062352576257 : True := trivial
theorem hdB.tw11974173315731812697 : True := trivial
theorem hdB.tw3268217366877557047 : True := trivial
theorem hdB.tw2611353022239412291 : True := trivial
theorem hdB.tw1419279130614576131 : True := trivial
theorem hdB.tw8845442697956235493 : True := trivial
theorem hdB.tw16377757379332357049 : True := trivial
theorem hdB.tw2954915873864698198 : True := trivial
theorem hdB.tw8384112238112570022 : True := trivial
theorem hdB.tw585818438832230338 : True := trivial
theorem hdB.tw3614981238973869419 : True := trivial
theorem hdB.tw13332723376058594703 : True := trivial
theorem hdB.tw13727409396599668426 : True := trivial
theorem hdB.tw6882939437623280565 : True := trivial
theorem hdB.tw11860812322045798456 : True := trivial
theorem hdB.tw13820951910118067618 : True := trivial
theorem hdB.tw1567674862446675252 : True := trivial
theorem hdB.tw5672518587710906203 : True := trivial
theorem hdB.tw1624202427199547862 : True := trivial
theorem hdB.tw14496876250492689157 : True := trivial
theorem hdB.tw3506847140678825357 : True := trivial
theorem hdB.tw7095372591342616948 : True := trivial
theorem hdB.tw6435024659882922718 : True := trivial
theorem hdB.tw12707543306421425798 : True := trivial
theorem hdB.tw1237005199619836052 : True := trivial
theorem hdB.tw10980803861594726508 : True := trivial
theorem hdB.tw2424918535888130946 : True := trivial
theorem hdB.tw17079801678903252499 : True := trivial
theorem hdB.tw9953882558772560754 : True := trivial
theorem hdB.tw8481956533258568393 : True := trivial
theorem hdB.tw17608040398677175246 : True := trivial
theorem hdB.tw1580486368215317366 : True := trivial
theorem hdB.tw13580770660165755939 : True := trivial
theorem hdB.tw7429813505782984202 : True := trivial
theorem hdB.tw17613021108526889041 : True := trivial
theorem hdB.tw11184113148176895768 : True := trivial
theorem hdB.tw3966424089453082575 : True := trivial
theorem hdB.tw17900398159134317328 : True := trivial
theorem hdB.tw7282580955003439477 : True := trivial
theorem hdB.tw7950697847352510133 : True := trivial
theorem hdB.tw12681949577004213729 : True := trivial
theorem hdB.tw11659693942920300766 : True := trivial
theorem hdB.tw3757706975819446724 : True := trivial
theorem hdB.tw12512459187834983698 : True := trivial
theorem hdB.tw469471460557195721 : True := trivial
theorem hdB.tw7543728327453514637 : True := trivial
theorem hdB.tw14600167800030803978 : True := trivial
theorem hdB.tw9675038262582241039 : True := trivial
theorem hdB.tw10060322204140854051 : True := trivial
theorem hdB.tw11595376594288628323 : True := trivial
theorem hdB.tw5494116333833214884 : True := trivial
theorem hdB.tw7559666763972078897 : True := trivial
theorem hdB.tw11178301008774375505 : True := trivial
theorem hdB.tw10866005096071933182 : True := trivial
theorem hdB.tw3059270928186270834 : True := trivial
theorem hdB.tw17666534235357057668 : True := trivial
theorem hdB.tw9236426176275505474 : True := trivial
theorem hdB.tw4997005998663214776 : True := trivial
theorem hdB.tw1907717185123728532 : True := trivial
theorem hdB.tw3062318533441013502 : True := trivial
theorem hdB.tw1190763802638642144 : True := trivial
theorem hdB.tw1401062199950177088 : True := trivial
theorem hdB.tw2184959090338958156 : True := trivial
theorem hdB.tw13353981244525998768 : True := trivial
theorem hdB.tw14420112176246303978 : True := trivial
theorem hdB.tw17429376801974289189 : True := trivial
theorem hdB.tw4545316125209686589 : True := trivial
theorem hdB.tw10069893116795676841 : True := trivial
theorem hdB.tw6413035107479245678 : True := trivial
theorem hdB.tw13125912538608747775 : True := trivial
theorem hdB.tw240405987588173071 : True := trivial
theorem hdB.tw16534755379847859287 : True := trivial
theorem hdB.tw6011689294237824266 : True := trivial
theorem hdB.tw8945988725222144165 : True := trivial
theorem hdB.tw10760143088824274230 : True := trivial
theorem hdB.tw7523516978520037582 : True := trivial
theorem hdB.tw11472156807468514366 : True := trivial
theorem hdB.tw7570751443664710377 : True := trivial
theorem hdB.tw7297625631817721215 : True := trivial
theorem hdB.tw1575164312096275578 : True := trivial
theorem hdB.tw15593434951601035113 : True := trivial
theorem hdB.tw3824508104138655170 : True := trivial
theorem hdB.tw3304511610589890399 : True := trivial
theorem hdB.tw14468032189948372016 : True := trivial
theorem hdB.tw7930358113307292092 : True := trivial
theorem hdB.tw3498705600851153900 : True := trivial
theorem hdB.tw9072957568876009247 : True := trivial
theorem hdB.tw17047190971544547498 : True := trivial
theorem hdB.tw169401555841166859 : True := trivial
theorem hdB.tw7908247825645380647 : True := trivial
theorem hdB.tw12472836561579236130 : True := trivial
theorem hdB.tw15554911399689854881 : True := trivial
theorem hdB.tw2362126760149829728 : True := trivial
theorem hdB.tw2481013044295023079 : True := trivial
theorem hdB.tw3280270315929798061 : True := trivial
theorem hdB.tw11018720170402240100 : True := trivial
theorem hdB.tw1077975695720109095 : True := trivial
theorem hdB.tw22461193921973809 : True := trivial
theorem hdB.tw17171009779497984607 : True := trivial
theorem hdB.tw4037764731641616190 : True := trivial
theorem hdB.tw13457857228918000261 : True := trivial
theorem hdB.tw15039698750832274017 : True := trivial
theorem hdB.tw1117236269706048856 : True := trivial
theorem hdB.tw16433381706587262438 : True := trivial
theorem hdB.tw16782366003448107953 : True := trivial
theorem hdB.tw8166725304363817857 : True := trivial
theorem hdB.tw3185342699019437079 : True := trivial
theorem hdB.tw8712385237257976631 : True := trivial
theorem hdB.tw3000104907036439879 : True := trivial
theorem hdB.tw7623491627983602615 : True := trivial
theorem hdB.tw12925433372861902915 : True := trivial
theorem hdB.tw17420311958413718024 : True := trivial
theorem hdB.tw5811045338607079808 : True := trivial
theorem hdB.tw7681256432193613564 : True := trivial
theorem hdB.tw7020809511615177282 : True := trivial
theorem hdB.tw11713390208890728763 : True := trivial
theorem hdB.tw682091708474766446 : True := trivial
theorem hdB.tw12749813898533818175 : True := trivial
theorem hdB.tw10597516979169754136 : True := trivial
theorem hdB.tw7826120709584893094 : True := trivial
theorem hdB.tw7266983341144783409 : True := trivial
theorem hdB.tw12411266553603689898 : True := trivial
theorem hdB.tw2354170974341163307 : True := trivial
theorem hdB.tw10690899110928446926 : True := trivial
theorem hdB.tw7319960463530635233 : True := trivial
theorem hdB.tw1604588686608469542 : True := trivial
theorem hdB.tw11307043770219764856 : True := trivial
theorem hdB.tw9688270614764394582 : True := trivial
theorem hdB.tw4245343567101900450 : True := trivial
theorem hdB.tw2975782625104031433 : True := trivial
theorem hdB.tw16354744161430265965 : True := trivial
theorem hdB.tw6530228499760262368 : True := trivial
theorem hdB.tw14178025227080847483 : True := trivial
theorem hdB.tw16827805947678527737 : True := trivial
theorem hdB.tw1158832275023106724 : True := trivial
theorem hdB.tw11070328013853497411 : True := trivial
theorem hdB.tw4658319973125893911 : True := trivial
theorem hdB.tw3917319093876902811 : True := trivial
theorem hdB.tw17701843012588335916 : True := trivial
theorem hdB.tw1693065149019444002 : True := trivial
theorem hdB.tw10564106306941357646 : True := trivial
theorem hdB.tw3682958360469743793 : True := trivial
theorem hdB.tw13616919266760702678 : True := trivial
theorem hdB.tw13545014690401975451 : True := trivial
theorem hdB.tw13041997304073740761 : True := trivial
theorem hdB.tw12784517793750228074 : True := trivial
theorem hdB.tw5326279744383688220 : True := trivial
theorem hdB.tw10108678295390518827 : True := trivial
theorem hdB.tw1895142442474255442 : True := trivial
theorem hdB.tw17729147277269775027 : True := trivial
theorem hdB.tw15587482639380473116 : True := trivial
theorem hdB.tw10741825314410762205 : True := trivial
theorem hdB.tw7370903057073754117 : True := trivial
theorem hdB.tw594502157681275256 : True := trivial
theorem hdB.tw14800520555378786896 : True := trivial
theorem hdB.tw13669759399153914181 : True := trivial
theorem hdB.tw4265584429408553258 : True := trivial
theorem hdB.tw16800492414846272916 : True := trivial
theorem hdB.tw15442060300243959041 : True := trivial
theorem hdB.tw4016324500546980905 : True := trivial
theorem hdB.tw16984852898115664590 : True := trivial
theorem hdB.tw11726930031142234306 : True := trivial
theorem hdB.tw1096611118462850221 : True := trivial
theorem hdB.tw8552204545470072017 : True := trivial
theorem hdB.tw6405352750367309641 : True := trivial
theorem hdB.tw14876197665731765544 : True := trivial
theorem hdB.tw14466681668041273230 : True := trivial
theorem hdB.tw5988976882591568586 : True := trivial
theorem hdB.tw5777459535509103436 : True := trivial
theorem hdB.tw299938981094323616 : True := trivial
theorem hdB.tw357486453476387696 : True := trivial
set_option Elab.async true in
set_option maxRecDepth 100000 in
set_option maxHeartbeats 0 in
theorem hdB : PySem.Challenge.rw_pc0069_01.Holds := by
  w_on
  o_law
  o_head (kHook hd.heap_1 [2, 3, 15, 16, 18, 19, 21, 22, 23, 25, 26, 28, 29, 30, 32, 33, 35, 36, 37, 39, 40, 42, 43, 44, 46, 47, 49, 50, 51, 53, 54, 56, 57, 58, 60, 61, 63, 64, 65, 67, 68, 70, 71, 72, 74, 75, 77, 78, 79, 81, 82, 84, 85, 86, 88, 89, 91, 92, 93, 95, 96, 98, 99, 100, 102, 103, 105, 106, 107, 109, 110, 112, 113, 114, 116, 117, 119, 120, 121, 123, 124, 126, 127, 128, 130, 131, 133, 134, 135, 137, 138, 140, 141, 142, 144, 145, 147, 148, 149, 151, 152, 154, 155, 156, 158, 159, 161, 162, 163, 165, 166, 168, 169, 170, 172, 173, 175, 176, 177, 179, 180, 182, 183, 184, 185, 186, 188, 189, 191, 192, 193, 195, 196, 198, 199, 200, 202, 203, 205, 206, 207, 209, 210, 212, 213, 214, 216, 217, 219, 220, 221, 223, 224, 226, 227, 228, 230, 231, 233, 234, 235, 237, 238, 240, 241, 242, 244, 245, 247, 248, 256, 258, 259, 261, 262, 263, 265, 266, 268, 269, 270, 272, 273, 275, 276, 277, 279, 280, 282, 283, 284, 286, 287, 289, 290, 291, 293, 294, 296, 297, 298, 300, 301, 303, 304, 305, 307, 308, 310, 311, 312, 314, 315, 317, 318, 319, 321, 322, 324, 325, 326, 327, 328, 329, 330, 333, 335, 336, 338, 339, 340, 342, 343, 345, 346, 347, 349, 350, 352, 353, 354, 356, 357, 359, 360, 361, 363, 364, 366, 367, 368, 370, 371, 373, 374, 375, 377, 378, 380, 381, 382, 385, 386, 387, 389, 390, 392, 393, 394, 397, 398, 399, 401, 402, 404, 405, 406, 409, 410, 411, 414, 415, 416, 418, 419, 421, 422, 423, 425, 426, 428, 429, 430, 433, 434] (fun _ => by kernel_rfl))
  (case hw => w_witness2)
  exact walkT
end Mine
end

theorem PySem.Challenge.cw_pc0069_01_holds : PySem.Challenge.rw_pc0069_01.Holds := by
  exact Mine.hdB
