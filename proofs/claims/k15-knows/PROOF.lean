import PyProof.Rows.All
import Wide.All
import OpenK.AllK
import Wide.FinOn
import KE.KStateDown
import KE.KIndexOf
import HandS.ForMost
import HandS.ForExc
import HandS.IsInst
import HandS.Codes
import HandS.Flow
import HandS.Wide
import HandS.MakeKwOnly
import HandS.RevRange
import HandS.NoneIn
import HandS.Style
import HandS.SortInts
import HandS.Walk
import HandS.StrMore
import HandS.More
import HandS.Defaults
import HandS.Head0
import HandS.Head1
import HandS.Head2
import HandS.HeadEnd
import HandS.HeadHook4
import HandS.Zip
import KE.DatumOrd
import HandS.TryMany
import HandS.TryOnly
import HandS.SuiteRaise
import HandS.RaiseMore
import HandS.ExcField
import HandS.ExcIs
import HandS.ExcInit
import HandS.DictComp
import HandS.DictEq
import HandS.WordsExc
import KE.GoesZip
import KE.GoesEnum
import KE.GoesMore
import HandS.Remove
import HandS.Rindex
import HandS.SetIn
import HandS.TupLe
import HandS.DictTup
import HandS.TupMul
import HandS.AnyAll
import HandS.Base
import HandS.BoundDict
import HandS.BoundList
import HandS.Bytes
import HandS.BytesMake
import HandS.Call
import HandS.CallLocal
import HandS.CallRecv
import HandS.CallSlots
import HandS.ClsMeth
import HandS.Comp
import HandS.Conv
import HandS.Deep
import HandS.DeepEq
import HandS.Dict
import HandS.DictSub
import HandS.DictSubMake
import HandS.DictSubView
import HandS.DictSubView0
import HandS.EndBits
import HandS.EndOwn
import HandS.EndTab
import HandS.Ends
import HandS.Evl
import HandS.Exc
import HandS.ExcBuiltin
import HandS.ExcCtx
import HandS.ExcInitHot
import HandS.ExcOwn
import HandS.ExcSuper
import HandS.ExcValue
import HandS.ExcValueFrom
import HandS.ExcValueHot
import HandS.ExpandTabs
import HandS.ExpandTabs0
import HandS.FStr
import HandS.FStrTup
import HandS.Finally
import HandS.Flt
import HandS.FltErr
import HandS.FltExact
import HandS.FltList
import HandS.FltSums
import HandS.FltText
import HandS.ForDict
import HandS.ForList
import HandS.ForSpec
import HandS.FromBytesMap
import HandS.Gcd
import HandS.GenBody
import HandS.GenCall
import HandS.GenList
import HandS.GenOver
import HandS.GenYield
import HandS.Head3
import HandS.Head4
import HandS.HeadHook1
import HandS.HeadHook2
import HandS.HeadHook3
import HandS.HeadNt
import HandS.HeadWalk
import HandS.Hot
import HandS.HotCalls
import HandS.IntHex
import HandS.IntRatio
import HandS.Iter
import HandS.IterNext
import HandS.IterVal
import HandS.JoinGen
import HandS.Keys
import HandS.Lambda
import HandS.LawCells
import HandS.List
import HandS.ListEq
import HandS.ListItems
import HandS.MakeKw
import HandS.MapJoin
import HandS.MapObj
import HandS.MapSum
import HandS.MethStar
import HandS.NamedTup0
import HandS.NamedTupGet
import HandS.NamedTupSort
import HandS.Nested
import HandS.NestedHot
import HandS.NestedK
import HandS.New
import HandS.New0
import HandS.OwnEq
import HandS.OwnIter
import HandS.Property
import HandS.Proxy
import HandS.RaiseFrom
import HandS.RaiseOp
import HandS.ReBound
import HandS.ReCall
import HandS.ReCheck
import HandS.ReDoes
import HandS.ReFacts
import HandS.ReHeld
import HandS.ReIface
import HandS.ReLoops
import HandS.ReMatch
import HandS.ReName
import HandS.ReRuns
import HandS.ReSeek
import HandS.ReSem
import HandS.ReSet
import HandS.ReSub
import HandS.ReTell
import HandS.Records
import HandS.RepeatKit
import HandS.Replace
import HandS.ReplaceDef
import HandS.ReplaceList
import HandS.ReplaceLit
import HandS.Rev
import HandS.RevTup
import HandS.Set
import HandS.SetBool
import HandS.SetFor
import HandS.SetKeys
import HandS.SetTxt0
import HandS.SetTxtIn
import HandS.Slots
import HandS.SlotsOwn
import HandS.SlotsVar
import HandS.Small
import HandS.Sort
import HandS.SortKw
import HandS.SortOrd
import HandS.SortRule
import HandS.Spec
import HandS.Star
import HandS.Steps
import HandS.StrSplit
import HandS.Strs
import HandS.Struct
import HandS.Struct0
import HandS.Text
import HandS.ToBytes
import HandS.Translate
import HandS.TryElse
import HandS.TupAny
import HandS.TupLen
import HandS.TupSets
import HandS.WideBits
import HandS.WideMore
import HandS.Words
import HandS.WordsDict
import HandS.WordsList
import HandS.WrittenFld
import HandS.WrittenGet
import HandS.Zip0
import PyProof.Rows.TupDisplay
import PyProof.Rows.StrLawsPart
import KE.KDictWalk
import PySem.Challenge.RW_laybeside_k15_knows
set_option Elab.async false
set_option linter.all false
set_option maxRecDepth 100000
set_option maxHeartbeats 4000000
namespace Lb
open PySem PySem.Spec L2
abbrev Fg := PySem.W.Frag
def tTru (K : Fg) (ta : TE) : TT := fun σ H Q => ta σ H fun x H' => ∃ k, TruV K x H' k ∧ Q k H'
end Lb
namespace Lb
open PySem PySem.Spec L2
/-! ### operators of several kinds at once -/
def rAddI : R2 := fun x y H Q => ∃ i j, x = .int i ∧ y = .int j ∧ Q (.int (i + j)) H
def rAddS : R2 := fun x y H Q => ∃ i j, x = .str i ∧ y = .str j ∧ i.length + j.length ≤ sizeLine ∧ Q (.str (i ++ j)) H
def rAddA : R2 := fun x y H Q => rAddI x y H Q ∨ rAddS x y H Q ∨ rCat x y H Q
def rSubA : R2 := rI0 fun i j => .int (i - j)
def rMulI : R2 := rI CMul fun i j => .int (i * j)
def rMulA : R2 := fun x y H Q => rMulI x y H Q ∨ rRep x y H Q
def rModA : R2 := rI (fun _ j => 0 < j) fun i j => .int (i % j)
def rDivA : R2 := rI CDivW fun i j => .int (i / j)
def rPowA : R2 := rI CPow fun i j => .int (i ^ j.toNat)
def rEqA (K : Fg) : R2 := fun x y H Q => rEq x y H Q ∨ rEqD K x y H Q
def rNeA (K : Fg) : R2 := fun x y H Q => rNe x y H Q ∨ rNeD K x y H Q
def rLtI : R2 := rI0 fun i j => .bl (decide (i < j))
def rLtS : R2 := fun x y H Q => ∃ i j, x = .str i ∧ y = .str j ∧ Q (.bl (decide (i.cps.toList < j.cps.toList))) H
def rLtA : R2 := fun x y H Q => rLtI x y H Q ∨ rLtS x y H Q
def rLeA : R2 := rI0 fun i j => .bl (decide (i ≤ j))
def rGtA : R2 := rI0 fun i j => .bl (decide (j < i))
def rGeA : R2 := rI0 fun i j => .bl (decide (j ≤ i))
def rInC : R2 := fun x y H Q => ∃ (c : Nat) (z : Str), x = .str ⟨#[c]⟩ ∧ y = .str z ∧ Q (.bl (decide (c ∈ z.cps.toList))) H
def rInA (K : Fg) : R2 := fun x y H Q => rInC x y H Q ∨ rIn K false x y H Q
def rNotInC : R2 := fun x y H Q => ∃ (c : Nat) (z : Str), x = .str ⟨#[c]⟩ ∧ y = .str z ∧ Q (.bl (!decide (c ∈ z.cps.toList))) H
def rNotInA (K : Fg) : R2 := fun x y H Q => rNotInC x y H Q ∨ rIn K true x y H Q
def rIsA : R2 := fun x y H Q => y = .non ∧ Q (.bl (decide (x = .non))) H
def rIsNotA : R2 := fun x y H Q => y = .non ∧ Q (.bl (!decide (x = .non))) H
def rNegA : V → Hp → VK → Prop := rU fun i => .int (-i)
def ipAddA : TIp := fun x y H Q => rAddI x y H Q ∨ rAddS x y H Q
def rAbs : List V → Hp → VK → Prop := fun xs H Q => ∃ i, xs = [V.int i] ∧ Q (V.int (if i < 0 then -i else i)) H
def rInt1 : List V → Hp → VK → Prop := fun xs H Q => (∃ i, xs = [V.int i] ∧ Q (V.int i) H) ∨ ∃ k, xs = [V.bl k] ∧ Q (V.int (if k = true then 1 else 0)) H
def rListOf (K : Fg) : List V → Hp → VK → Prop := fun xs H Q => ∃ p ys, xs = [V.ref p] ∧ (SqL K H p ys ∨ SqT K H p ys) ∧ ∀ (l : Addr), H l = none → Q (V.ref l) (upd H l (HO.lst ys))
def rTupOf (K : Fg) : List V → Hp → VK → Prop := fun xs H Q => ∃ p ys, xs = [.ref p] ∧ ((SqL K H p ys ∧ ∀ l, H l = none → Q (.ref l) (upd H l (.tup ys))) ∨ (SqT K H p ys ∧ Q (.ref p) H))
def rMax2 : List V → Hp → VK → Prop := fun xs H Q => ∃ i j, xs = [.int i, .int j] ∧ Q (.int (if j > i then j else i)) H
def rMin2 : List V → Hp → VK → Prop := fun xs H Q => ∃ i j, xs = [.int i, .int j] ∧ Q (.int (if j < i then j else i)) H
def rJoin (K : Fg) : V → List V → Hp → VK → Prop := fun x xs H Q => ∃ (a : Str) (p : Addr) (ys : List Str), x = V.str a ∧ xs = [V.ref p] ∧ (SqL K H p (List.map V.str ys) ∨ SqT K H p (List.map V.str ys)) ∧ (List.map (fun x => x.length) ys).sum + ys.length * a.length ≤ 16777216 ∧ Q (V.str (Txt.join a ys)) H
/-- isinstance(x, T), T a built-in class -/
def rIsB (K : Fg) : List V → Hp → VK → Prop := fun xs H Q => ∃ (x : V) (T t : String) (b : Bool), xs = [x, .ty T] ∧ TyX K H x (.type t) ∧ kitB t T = some b ∧ Q (.bl b) H
def rIsC (C : Addr) : List V → Hp → VK → Prop := fun xs H Q => ∃ a dx fs, xs = [.ref a, .ref C] ∧ H a = some (.ins C dx fs) ∧ Q (.bl true) H
/-- t.index(x), t a tuple of texts -/
def rIdxT (K : Fg) : V → List V → Hp → VK → Prop := fun x xs H Q => ∃ (a : Addr) (ys : List Str) (y : Str), x = .ref a ∧ xs = [.str y] ∧ SqT K H a (ys.map V.str) ∧ y ∈ ys ∧ Q (.int (ys.idxOf y : Nat)) H
def rGetL (K : Fg) : R2 := fun x y H Q => ∃ p xs j v, x = .ref p ∧ y = .int ((j : Nat) : Int) ∧ SqL K H p xs ∧ xs[j]? = some v ∧ Q v H
section
variable {X : Cx}
theorem op_addA : OpR X (binaryOp .Add) rAddA := OpR.or op_add (OpR.or op_add_str op_cat)
theorem op_subA : OpR X (binaryOp .Sub) rSubA := op_sub
theorem op_mulA : OpR X (binaryOp .Mult) rMulA := OpR.or op_mul op_rep
theorem op_modA : OpR X (binaryOp .Mod) rModA := op_mod
theorem op_divA : OpR X (binaryOp .FloorDiv) rDivA := op_fdivW
theorem op_powA : OpR X (binaryOp .Pow) rPowA := op_pow
theorem op_eqA (hu : X.A.units + 64 < cLine) : OpR X (compareOp .Eq) (rEqA X.K) := OpR.or op_eq (op_eqD hu)
theorem op_neA (hu : X.A.units + 64 < cLine) : OpR X (compareOp .NotEq) (rNeA X.K) := OpR.or op_ne (op_neD hu)
theorem op_ltA : OpR X (compareOp .Lt) rLtA := OpR.or op_lt op_lt_str
theorem op_leA : OpR X (compareOp .LtE) rLeA := op_le
theorem op_gtA : OpR X (compareOp .Gt) rGtA := op_gt
theorem op_geA : OpR X (compareOp .GtE) rGeA := op_ge
theorem op_inA : OpR X (compareOp .In) (rInA X.K) := OpR.or op_in_sign op_in_seq
theorem op_notInA : OpR X (compareOp .NotIn) (rNotInA X.K) := OpR.or op_notIn_sign op_notIn_seq
theorem op_isA : OpR X (compareOp .Is) rIsA := op_isN
theorem op_isNotA : OpR X (compareOp .IsNot) rIsNotA := op_notN
theorem un_negA : UnR X (unaryOp .USub) rNegA := un_neg
theorem ip_addA : PIp X .Add ipAddA := by
  intro pins s σ H x y v u Q I rx ry h
  rcases h with h | h
  · exact iop_add pins s σ H x y v u Q I rx ry h
  · exact iop_add_str pins s σ H x y v u Q I rx ry h
theorem ip_subA : PIp X .Sub rSubA := by
  intro pins s σ H x y v u Q I rx ry h
  exact iop_sub pins s σ H x y v u Q I rx ry h
theorem call_absA : CallR X (.builtin "abs") rAbs := call_abs
theorem call_int1A : CallR X (.type "int") rInt1 := call_int1
theorem call_list_ofA : CallR X (.type "list") (rListOf X.K) := call_list_of
theorem call_tuple_ofA : CallR X (.type "tuple") (rTupOf X.K) := call_tuple_of
theorem call_lenA : CallR X (.builtin "len") (rLen X.K) := call_len
theorem call_isB : CallR X (.builtin "isinstance") (rIsB X.K) := by
  intro pins s σ H xs us Q I r h
  obtain ⟨x, T, t, b, rfl, ty, e, q⟩ := h
  exact call_isi pins s σ H _ us Q I r ⟨x, .ty T, .type t, .type T, b, rfl, .ty T, ty, kit_ty e, q⟩
theorem call_isCA {C : Addr} (c : C8.InsC X.K C) : CallR X (.builtin "isinstance") (rIsC C) := C8.call_isC c
theorem strs_are : ∀ {ys : List Str} {its : List Value}, Vals (ys.map V.str) its → PyProof.Rows.StrsAre its ys
  | [], _, .nil => .nil
  | y :: ys, _, .cons r t => by
    obtain ⟨tk, rfl⟩ := r
    exact .cons _ _ (strs_are t)
theorem mt_idxT : MtR X "tuple.index" (rIdxT X.K) := by
  intro pins s σ H x xs v us Q I rx rxs h
  obtain ⟨a, ys, y, rfl, rfl, hs, hy, q⟩ := h
  cases rx
  cases rxs with
  | cons ry rt =>
    cases rt
    obtain ⟨t, rfl⟩ := ry
    obtain ⟨its, r, pl, hz⟩ := I.tuple hs
    exact SeqAt.tuple_index_strs pl (strs_are r) hy ⟨.int (ys.idxOf y : Nat), H, I.tok _, ⟨_, rfl⟩, q⟩
theorem get_list : PGet X (rGetL X.K) := by
  intro pins s σ H o i ov iv Q I ro ri h
  obtain ⟨p, xs, j, v, rfl, rfl, hq, he, q⟩ := h
  cases ro
  obtain ⟨t, rfl⟩ := ri
  obtain ⟨its, r, pl, hz⟩ := I.list hq
  obtain ⟨w, ew, rw'⟩ := r.get he
  have hl := r.length
  have hn := line63
  have hj : j < xs.length := (List.getElem?_eq_some_iff.mp he).1
  exact wpAny_getItem_list pl.isList (by omega) (by omega) (by simpa using ew) ⟨v, H, I, rw', q⟩
theorem call_max2A (hc : X.calm = true) : CallR X (.builtin "max") rMax2 := call_max2 hc
theorem call_min2A (hc : X.calm = true) : CallR X (.builtin "min") rMin2 := call_min2 hc
end
/-! ### own defs, methods, classes as callers meet them -/
def Cal (P : Program) (w : World) (K : Fg) (mg : Str → Option Value) (base : Heap) (x : Str) (k : Nat) (ps : List Str) (sp : Sp) (dvs : List V) : Prop :=
  ∃ fd ds, FnOk P w K mg base CX0 k (He.ga K x) fd ps sp ∧ Binds K fd ps ds ∧ Vals dvs ds ∧ mg x = some (.ref (He.ga K x)) ∧ PySem.W.keepIn K (.ref (He.ga K x)) = true
def CalK (P : Program) (w : World) (K : Fg) (mg : Str → Option Value) (base : Heap) (x : Str) (k : Nat) (ps : List Str) (sp : Sp) (n : Nat) (ks : List Str) (gV : List V → List V → List V) : Prop :=
  ∃ fd g, FnOk P w K mg base CX0 k (He.ga K x) fd ps sp ∧ KBn K fd ps n ks g gV ∧ mg x = some (.ref (He.ga K x)) ∧ PySem.W.keepIn K (.ref (He.ga K x)) = true
def CalM (P : Program) (w : World) (K : Fg) (mg : Str → Option Value) (base : Heap) (c m : Str) (k : Nat) (ps : List Str) (sp : Sp) (dvs : List V) : Prop :=
  ∃ fd ds f, FnOk P w K mg base CX0 k f fd ps sp ∧ Binds K fd ps ds ∧ Vals dvs ds ∧ Meth K (He.ga K c) m f ∧ Cls K (He.ga K c)
def CalI (P : Program) (w : World) (K : Fg) (mg : Str → Option Value) (base : Heap) (c : Str) (k : Nat) (ps : List Str) (sp : Sp) (dvs : List V) : Prop :=
  ∃ fd ds f, FnOk P w K mg base CX0 k f fd ps sp ∧ Binds K fd ps ds ∧ Vals dvs ds ∧ Mk K (He.ga K c) f ∧ mg c = some (.ref (He.ga K c))
def CalIK (P : Program) (w : World) (K : Fg) (mg : Str → Option Value) (base : Heap) (c : Str) (k : Nat) (ps : List Str) (sp : Sp) (n : Nat) (ks : List Str) (gV : List V → List V → List V) : Prop :=
  ∃ fd g f, FnOk P w K mg base CX0 k f fd ps sp ∧ KBn K fd ps (n + 1) ks g gV ∧ Mk K (He.ga K c) f ∧ mg c = some (.ref (He.ga K c))
section
variable {X : Cx} {k n : Nat} {ps ks : List Str} {sp : Sp} {dvs : List V} {x c m : Str} {p pos apos : Pos} {e o : Expr} {es : List Expr} {kws : List Keyword} {ta te : TE} {t tk : TA} {gV : List V → List V → List V} {i : Int} {z : Str}
theorem pe_gint (h : ∃ t, X.mg x = some (.int i t)) (hg : Gl X x) (hd : (x == ("__debug__" : Str)) = false := by decide) : PE X (.Name x pos) (tC (.int i)) := by
  obtain ⟨t, h⟩ := h
  exact pe_glob hg h ⟨t, rfl⟩ hd
theorem pe_gstr (h : ∃ t, X.mg x = some (.str z t)) (hg : Gl X x) (hd : (x == ("__debug__" : Str)) = false := by decide) : PE X (.Name x pos) (tC (.str z)) := by
  obtain ⟨t, h⟩ := h
  exact pe_glob hg h ⟨t, rfl⟩ hd
theorem pe_gref {a : Addr} (h : X.mg x = some (.ref a)) (hg : Gl X x) (hd : (x == ("__debug__" : Str)) = false := by decide) : PE X (.Name x pos) (tC (.ref a)) := pe_glob hg h rfl hd
theorem pe_cal (c : Cal X.prog X.w X.K X.mg X.base x k ps sp dvs) (hr : Room k X.A) (hg : Gl X x) (ha : PA X (e :: es) t) (hdb : (x == ("__debug__" : Str)) = false := by decide)
    (he : starEach (e :: es) X.env = (false, eval e X.env) :: starEach es X.env := by rfl) (hpl : (backTo pos (starEach es X.env)).any (·.1) = false := by rfl) :
    PE X (.Call (.Name x p) (e :: es) [] pos) (tCall sp dvs E0 t) := by
  obtain ⟨fd, ds, F, b, v, g, kp⟩ := c
  exact pe_call F hr hg g kp b v pass0 ha hdb he hpl
theorem pe_cal0 (c : Cal X.prog X.w X.K X.mg X.base x k ps sp dvs) (hr : Room k X.A) (hg : Gl X x) (hdb : (x == ("__debug__" : Str)) = false := by decide) :
    PE X (.Call (.Name x p) [] [] pos) (tCall sp dvs E0 tNil) := by
  obtain ⟨fd, ds, F, b, v, g, kp⟩ := c
  exact pe_call0 F hr hg g kp b v pass0 hdb
theorem pe_calK {m : Nat} (c : CalK X.prog X.w X.K X.mg X.base x k ps sp n ks gV) (hr : Room k X.A) (hg : Gl X x) (ha : PA X (e :: es) t) (hkw : PK X kws tk) (hall : (backToKw pos (keywordEach kws X.env)).all (·.1.isSome) = true := by rfl) (hks : (backToKw pos (keywordEach kws X.env)).filterMap (·.1) = ks := by rfl)
    (hdb : (x == ("__debug__" : Str)) = false := by decide) (he : starEach (e :: es) X.env = (false, eval e X.env) :: starEach es X.env := by rfl)
    (hpl : ((backTo pos (starEach (e :: es) X.env)).any (·.1) || (backToKw pos (keywordEach kws X.env)).any (·.1.isNone)) = false := by rfl)
    (hm : ks.length = m := by rfl) : PE X (.Call (.Name x p) (e :: es) kws pos) (tCallN n m sp gV E0 t tk) := by
  obtain ⟨fd, g, F, b, gm, kp⟩ := c
  subst hm
  exact pe_callN F hr hg gm kp b pass0 ha hkw hall hks hdb he hpl
theorem pe_mth {pl : Sem Bool} (cc : CalM X.prog X.w X.K X.mg X.base c m k ps sp dvs) (hr : Room k X.A) (he : PE X o ta) (ha : PA X (e :: es) t)
    (hst : starEach (e :: es) X.env = (false, eval e X.env) :: starEach es X.env := by rfl) (hpl : (backTo pos (starEach es X.env)).any (·.1) = false := by rfl)
    (ht : eval (.Call (.Attribute o m apos) (e :: es) [] pos) X.env = (do
      let ov ← eval o X.env
      standAt apos.atName
      let (f, first) ← holding [ov] (getMethod ov m pl)
      callWith pos f first (backTo pos (starEach (e :: es) X.env)) (backToKw pos (keywordEach [] X.env))) := by rfl) :
    PE X (.Call (.Attribute o m apos) (e :: es) [] pos) (tMeth (He.ga X.K c) m sp dvs E0 ta t) := by
  obtain ⟨fd, ds, f, F, b, v, mm, cl⟩ := cc
  exact pe_meth he cl mm F hr b v pass0 ha hst hpl ht
theorem pe_mth0 {pl : Sem Bool} (cc : CalM X.prog X.w X.K X.mg X.base c m k ps sp dvs) (hr : Room k X.A) (he : PE X o ta)
    (ht : eval (.Call (.Attribute o m apos) [] [] pos) X.env = (do
      let ov ← eval o X.env
      standAt apos.atName
      let (f, first) ← holding [ov] (getMethod ov m pl)
      callWith pos f first (backTo pos (starEach [] X.env)) (backToKw pos (keywordEach [] X.env))) := by rfl) :
    PE X (.Call (.Attribute o m apos) [] [] pos) (tMeth (He.ga X.K c) m sp dvs E0 ta tNil) := by
  obtain ⟨fd, ds, f, F, b, v, mm, cl⟩ := cc
  exact pe_meth0 he cl mm F hr b v pass0 ht
theorem pe_mak (c : CalI X.prog X.w X.K X.mg X.base x k ps sp dvs) (hr : Room (k + 1) X.A) (hg : Gl X x) (ha : PA X (e :: es) t) (hdb : (x == ("__debug__" : Str)) = false := by decide)
    (he : starEach (e :: es) X.env = (false, eval e X.env) :: starEach es X.env := by rfl) (hpl : (backTo pos (starEach es X.env)).any (·.1) = false := by rfl) :
    PE X (.Call (.Name x p) (e :: es) [] pos) (tMake (He.ga X.K x) sp dvs E0 t) := by
  obtain ⟨fd, ds, f, F, b, v, mk, g⟩ := c
  exact pe_make mk F hr hg g b v pass0 ha hdb he hpl
theorem pe_makK {m : Nat} (c : CalIK X.prog X.w X.K X.mg X.base x k ps sp n ks gV) (hr : Room (k + 1) X.A) (hg : Gl X x) (ha : PA X (e :: es) t) (hkw : PK X kws tk) (hall : (backToKw pos (keywordEach kws X.env)).all (·.1.isSome) = true := by rfl) (hks : (backToKw pos (keywordEach kws X.env)).filterMap (·.1) = ks := by rfl)
    (hdb : (x == ("__debug__" : Str)) = false := by decide) (he : starEach (e :: es) X.env = (false, eval e X.env) :: starEach es X.env := by rfl)
    (hpl : ((backTo pos (starEach (e :: es) X.env)).any (·.1) || (backToKw pos (keywordEach kws X.env)).any (·.1.isNone)) = false := by rfl)
    (hm : ks.length = m := by rfl) : PE X (.Call (.Name x p) (e :: es) kws pos) (tMakeK (He.ga X.K x) n m sp gV E0 t tk) := by
  obtain ⟨fd, g, f, F, b, mk, gm⟩ := c
  subst hm
  exact pe_makeK mk F hr hg gm b pass0 ha hkw hall hks hdb he hpl
theorem pt_tru (ha : PE X e te) (he : ∀ whole, isTrue e X.env whole = (do let v ← whole; standAt e.pos; holding [v] (truthy v)) := by intro _; rfl) : PT X e (tTru X.K te) := pt_truth ha he
/-- a block cut behind its first statement -/
def tCutS (t u : TS) : TS := fun D σ H => ∃ Mid : St → Hp → Prop, t { D with nx := Mid } σ H ∧ ∀ σ' H', Mid σ' H' → u D σ' H'
end
end Lb
namespace Vl
open PySem PySem.Spec L2
abbrev Fg := PySem.W.Frag
/-- the built-in classes that are asked for -/
inductive Kn where
  | int | bool | str | list | tuple | dict
def knS : Kn → String
  | .int => "int"
  | .bool => "bool"
  | .str => "str"
  | .list => "list"
  | .tuple => "tuple"
  | .dict => "dict"
/-- plain values -/
inductive PV where
  | non | bl (b : Bool) | int (i : Int) | str (x : Str) | ty (n : Kn)
  | lst (xs : List PV) | tup (xs : List PV)
  | dK (kvs : List (Key × PV)) | dT (kvs : List (List Key × PV))
  | ins (c : Nat) (fs : List PV)
  | cls (c : Str) | bag
/-- the program's classes and their attributes, in the order of their making -/
def clsT : Nat → Str × List Str
  | 0 => ("Scale", ["kept_letters", "by_two", "kept_opening", "kept_each"])
  | 1 => ("Field", ["kept_pairs", "over_kept", "under_kept", "to_open"])
  | 2 => ("Bounds", ["ground", "ended", "lines"])
  | 3 => ("Stretches", ["laid_in", "most_from"])
  | 4 => ("Chain", ["chained_in", "fee_each", "by_place"])
  | 5 => ("Ways", ["walked", "ended_so", "lines_told", "ways_on"])
  | 6 => ("Sheet", ["over_row", "under_row", "ruled", "known", "all_known"])
  | 7 => ("Joined", ["held_rows"])
  | 8 => ("Book", ["ruled", "stands", "done", "undone"])
  | 9 => ("Desk", ["own_book"])
  | _ => ("", [])
/-- the written part, the bag's two lists -/
structure Bg where
  K : Fg
  q : Addr
  r : Addr
/-- a tuple, tracked or written -/
def STp (K : Fg) (H : Hp) (a : Addr) (xs : List V) : Prop :=
  H a = some (.tup xs) ∨ ∃ (o : Obj) (its : Array Value) (n : Nat), K.lookup a = some o ∧ o.cls = .type "tuple" ∧ o.data = .seq its n ∧ its.size ≤ sizeLine ∧ Vals xs its.toList
theorem STp.sq {K : Fg} {H : Hp} {a : Addr} {xs : List V} (h : STp K H a xs) : SqT K H a xs := by
  rcases h with h | h
  · exact .inl (.inl h)
  · exact .inr h
mutual
inductive Rp (B : Bg) (A : Addr → Prop) (H : Hp) : PV → V → Prop
  | non : Rp B A H .non .non
  | bl (b : Bool) : Rp B A H (.bl b) (.bl b)
  | int (i : Int) : Rp B A H (.int i) (.int i)
  | str (x : Str) : Rp B A H (.str x) (.str x)
  | ty (n : Kn) : Rp B A H (.ty n) (.ty (knS n))
  | lst {a : Addr} {vs : List V} {xs : List PV} : ¬ A a → H a = some (.lst vs) → RpL B A H xs vs → Rp B A H (.lst xs) (.ref a)
  | tup {a : Addr} {vs : List V} {xs : List PV} : STp B.K H a vs → RpL B A H xs vs → Rp B A H (.tup xs) (.ref a)
  | dK {a : Addr} {ws : List (Key × V)} {kvs : List (Key × PV)} {ks : List Key} {xs : List PV} {vs : List V} : ¬ A a → H a = some (.dK ws) → kvs.map (·.1) = ks → ws.map (·.1) = ks → kvs.map (·.2) = xs → ws.map (·.2) = vs → RpL B A H xs vs → Rp B A H (.dK kvs) (.ref a)
  | dT {a : Addr} {ws : List (List Key × V)} {kvs : List (List Key × PV)} {ks : List (List Key)} {xs : List PV} {vs : List V} : ¬ A a → H a = some (.dT ws) → kvs.map (·.1) = ks → ws.map (·.1) = ks → kvs.map (·.2) = xs → ws.map (·.2) = vs → RpL B A H xs vs → Rp B A H (.dT kvs) (.ref a)
  | ins {a dx : Addr} {c : Nat} {ws : List (Str × V)} {xs : List PV} {vs : List V} : ¬ A a → H a = some (.ins (He.ga B.K (clsT c).1) dx ws) → ws.map (·.1) = (clsT c).2.take xs.length → ws.map (·.2) = vs → RpL B A H xs vs → Rp B A H (.ins c xs) (.ref a)
  | cls (c : Str) : Rp B A H (.cls c) (.ref (He.ga B.K c))
  | bag : Rp B A H .bag (.ref B.q)
inductive RpL (B : Bg) (A : Addr → Prop) (H : Hp) : List PV → List V → Prop
  | nil : RpL B A H [] []
  | cons {x : PV} {v : V} {xs : List PV} {vs : List V} : Rp B A H x v → RpL B A H xs vs → RpL B A H (x :: xs) (v :: vs)
end
section
variable {B : Bg} {A A' : Addr → Prop} {H H' : Hp}
mutual
theorem Rp.mv (f : ∀ a o, H a = some o → ¬ A a → H' a = some o) (ft : ∀ a vs, H a = some (.tup vs) → H' a = some (.tup vs)) (g : ∀ a, A' a → H a ≠ none → A a) :
    ∀ {x : PV} {v : V}, Rp B A H x v → Rp B A' H' x v
  | _, _, .non => .non
  | _, _, .bl b => .bl b
  | _, _, .int i => .int i
  | _, _, .str x => .str x
  | _, _, .ty n => .ty n
  | _, _, .lst n h r => .lst (fun z => n (g _ z (by rw [h]; exact nofun))) (f _ _ h n) (RpL.mv f ft g r)
  | _, _, .tup h r => .tup (h.elim (fun h => .inl (ft _ _ h)) .inr) (RpL.mv f ft g r)
  | _, _, .dK n h a b c d r => .dK (fun z => n (g _ z (by rw [h]; exact nofun))) (f _ _ h n) a b c d (RpL.mv f ft g r)
  | _, _, .dT n h a b c d r => .dT (fun z => n (g _ z (by rw [h]; exact nofun))) (f _ _ h n) a b c d (RpL.mv f ft g r)
  | _, _, .ins n h a b r => .ins (fun z => n (g _ z (by rw [h]; exact nofun))) (f _ _ h n) a b (RpL.mv f ft g r)
  | _, _, .cls c => .cls c
  | _, _, .bag => .bag
theorem RpL.mv (f : ∀ a o, H a = some o → ¬ A a → H' a = some o) (ft : ∀ a vs, H a = some (.tup vs) → H' a = some (.tup vs)) (g : ∀ a, A' a → H a ≠ none → A a) :
    ∀ {x : List PV} {v : List V}, RpL B A H x v → RpL B A' H' x v
  | _, _, .nil => .nil
  | _, _, .cons a b => .cons (Rp.mv f ft g a) (RpL.mv f ft g b)
end
theorem Rp.anti (g : ∀ a, A' a → A a) {x : PV} {v : V} (h : Rp B A H x v) : Rp B A' H x v := h.mv (fun _ _ h _ => h) (fun _ _ h => h) fun a h _ => g a h
theorem RpL.anti (g : ∀ a, A' a → A a) {x : List PV} {v : List V} (h : RpL B A H x v) : RpL B A' H x v := h.mv (fun _ _ h _ => h) (fun _ _ h => h) fun a h _ => g a h
theorem RpL.length : ∀ {x : List PV} {v : List V}, RpL B A H x v → x.length = v.length
  | _, _, .nil => rfl
  | _, _, .cons _ b => by simp [RpL.length b]
theorem RpL.get : ∀ {x : List PV} {v : List V}, RpL B A H x v → ∀ {i : Nat} {p : PV}, x[i]? = some p → ∃ u, v[i]? = some u ∧ Rp B A H p u
  | _, _, .nil, _, _, e => by simp at e
  | _, _, .cons a _, 0, _, e => by simp at e; subst e; exact ⟨_, rfl, a⟩
  | _, _, .cons _ b, i + 1, _, e => by simpa using RpL.get b (by simpa using e)
theorem RpL.get' : ∀ {x : List PV} {v : List V}, RpL B A H x v → ∀ {i : Nat} {u : V}, v[i]? = some u → ∃ p, x[i]? = some p ∧ Rp B A H p u
  | _, _, .nil, _, _, e => by simp at e
  | _, _, .cons a _, 0, _, e => by simp at e; subst e; exact ⟨_, rfl, a⟩
  | _, _, .cons _ b, i + 1, _, e => by simpa using RpL.get' b (by simpa using e)
theorem RpL.append : ∀ {x y : List PV} {v w : List V}, RpL B A H x v → RpL B A H y w → RpL B A H (x ++ y) (v ++ w)
  | _, _, _, _, .nil, r => r
  | _, _, _, _, .cons a b, r => .cons a (RpL.append b r)
theorem RpL.drop : ∀ {x : List PV} {v : List V} (n : Nat), RpL B A H x v → RpL B A H (x.drop n) (v.drop n)
  | _, _, 0, r => r
  | _, _, _ + 1, .nil => .nil
  | _, _, n + 1, .cons _ t => RpL.drop n t
theorem RpL.take : ∀ {x : List PV} {v : List V} (n : Nat), RpL B A H x v → RpL B A H (x.take n) (v.take n)
  | _, _, 0, _ => .nil
  | _, _, _ + 1, .nil => .nil
  | _, _, n + 1, .cons r t => .cons r (RpL.take n t)
theorem RpL.set : ∀ {x : List PV} {v : List V} {p : PV} {u : V} (n : Nat), RpL B A H x v → Rp B A H p u → RpL B A H (x.set n p) (v.set n u)
  | _, _, _, _, _, .nil, _ => .nil
  | _, _, _, _, 0, .cons _ t, r => .cons r t
  | _, _, _, _, n + 1, .cons q t, r => .cons q (RpL.set n t r)
theorem RpL.reverse : ∀ {x : List PV} {v : List V}, RpL B A H x v → RpL B A H x.reverse v.reverse
  | _, _, .nil => .nil
  | _, _, .cons a b => by rw [List.reverse_cons, List.reverse_cons]; exact (RpL.reverse b).append (.cons a .nil)
theorem RpL.rep {x : PV} {v : V} (h : Rp B A H x v) : ∀ n, RpL B A H (List.replicate n x) (List.replicate n v)
  | 0 => .nil
  | n + 1 => .cons h (RpL.rep h n)
end
/-! ### data that never changes -/
mutual
def imm : PV → Bool
  | .non => true
  | .bl _ => true
  | .int _ => true
  | .str _ => true
  | .ty _ => true
  | .tup xs => immL xs
  | .cls _ => true
  | .bag => true
  | _ => false
def immL : List PV → Bool
  | [] => true
  | x :: xs => imm x && immL xs
end
section
variable {B : Bg} {A A' : Addr → Prop} {H : Hp}
mutual
theorem Rp.im : ∀ {x : PV} {v : V}, Rp B A H x v → imm x = true → Rp B A' H x v
  | _, _, .non, _ => .non
  | _, _, .bl b, _ => .bl b
  | _, _, .int i, _ => .int i
  | _, _, .str x, _ => .str x
  | _, _, .ty n, _ => .ty n
  | _, _, .tup h r, e => .tup h (RpL.im r (by simpa only [imm] using e))
  | _, _, .cls c, _ => .cls c
  | _, _, .bag, _ => .bag
  | _, _, .lst _ _ _, e => by simp [imm] at e
  | _, _, .dK _ _ _ _ _ _ _, e => by simp [imm] at e
  | _, _, .dT _ _ _ _ _ _ _, e => by simp [imm] at e
  | _, _, .ins _ _ _ _ _, e => by simp [imm] at e
theorem RpL.im : ∀ {x : List PV} {v : List V}, RpL B A H x v → immL x = true → RpL B A' H x v
  | _, _, .nil, _ => .nil
  | _, _, .cons a b, e => by
    simp only [immL, Bool.and_eq_true] at e
    exact .cons (Rp.im a e.1) (RpL.im b e.2)
end
end
/-! ### the bag; how a heap goes on while a value is reckoned -/
def BagOk (B : Bg) (H : Hp) : Prop := ∃ (x y : Int) (z : Nat) (cs : List Int), H B.q = some (.lst [.int x, .int y, .int z, .ref B.r]) ∧ H B.r = some (.lst (cs.map V.int)) ∧ B.r ≠ B.q ∧
  0 ≤ x ∧ 0 ≤ y ∧ y < 2147483647 ∧ ∀ c ∈ cs, 0 ≤ c
structure Ex (B : Bg) (H H' : Hp) : Prop where
  st : ∀ a o, H a = some o → a ≠ B.q → H' a = some o
  tp : ∀ a vs, H a = some (.tup vs) → H' a = some (.tup vs)
  nn : ∀ a, H a ≠ none → H' a ≠ none
  bg : BagOk B H → BagOk B H'
theorem Ex.refl (B : Bg) (H : Hp) : Ex B H H := ⟨fun _ _ h _ => h, fun _ _ h => h, fun _ h => h, fun h => h⟩
theorem Ex.trans {B : Bg} {H H1 H2 : Hp} (a : Ex B H H1) (b : Ex B H1 H2) : Ex B H H2 :=
  ⟨fun c o h n => b.st c o (a.st c o h n) n, fun c v h => b.tp c v (a.tp c v h), fun c h => b.nn c (a.nn c h), fun h => b.bg (a.bg h)⟩
theorem BagOk.q {B : Bg} {H : Hp} (h : BagOk B H) : H B.q ≠ none := by
  obtain ⟨_, _, _, _, h, _⟩ := h; rw [h]; exact nofun
theorem BagOk.stay {B : Bg} {H H' : Hp} (h : BagOk B H) (f : ∀ o, H B.q = some o → H' B.q = some o) (g : ∀ o, H B.r = some o → H' B.r = some o) : BagOk B H' := by
  obtain ⟨x, y, z, cs, h1, h2, h3⟩ := h
  exact ⟨x, y, z, cs, f _ h1, g _ h2, h3⟩
/-- a new object -/
theorem Ex.new {B : Bg} {H : Hp} {p : Addr} {o : HO} (n : H p = none) : Ex B H (upd H p o) := by
  have k : ∀ a u, H a = some u → upd H p o a = some u := fun a u e => by rw [upd_ne (ne_of_none e n)]; exact e
  exact ⟨fun a u e _ => k a u e, fun a u e => k a _ e, fun a h => by
    cases e : H a with
    | none => exact absurd e h
    | some u => rw [k a u e]; exact nofun, fun h => h.stay (fun u e => k _ u e) fun u e => k _ u e⟩
theorem Ex.free {B : Bg} {H H' : Hp} (e : Ex B H H') {a : Addr} (h : H' a = none) : H a = none := by
  cases q : H a with
  | none => rfl
  | some o => exact absurd h (e.nn a (by rw [q]; exact nofun))
section
variable {B : Bg} {A : Addr → Prop} {H H' : Hp}
theorem Rp.ex {x : PV} {v : V} (h : Rp B A H x v) (e : Ex B H H') (aq : A B.q) : Rp B A H' x v :=
  h.mv (fun a o h n => e.st a o h (fun z => n (by rw [z]; exact aq))) e.tp fun _ h _ => h
theorem RpL.ex {x : List PV} {v : List V} (h : RpL B A H x v) (e : Ex B H H') (aq : A B.q) : RpL B A H' x v :=
  h.mv (fun a o h n => e.st a o h (fun z => n (by rw [z]; exact aq))) e.tp fun _ h _ => h
end
/-! ### a def at work: who it is, how its slots stand -/
structure Ac where
  B : Bg
  A0 : Addr → Prop
  H0 : Hp
  me : Addr
/-- what a value keeps off: the caller's part (a), the own objects (s), the bag always -/
def av (E : Ac) (L : List Addr) (a s : Bool) (x : Addr) : Prop := x = E.B.q ∨ (a = true ∧ E.A0 x) ∨ (s = true ∧ x ∈ L)
/-- how a slot is held: shared, borrowed, an own list or dict, an own list of own lists, the own instance, the own instance with an own field -/
inductive Kd where
  | sh | bor | own | own2 | slf | slfD (j : Nat) | tt
  deriving DecidableEq
/-- an object of one's own at a -/
def Ob (B : Bg) (A : Addr → Prop) (H : Hp) (a : Addr) : PV → Prop
  | .lst xs => ∃ vs, H a = some (.lst vs) ∧ RpL B A H xs vs
  | .dT kvs => ∃ ws, H a = some (.dT ws) ∧ kvs.map (·.1) = ws.map (·.1) ∧ RpL B A H (kvs.map (·.2)) (ws.map (·.2))
  | .dK kvs => ∃ ws, H a = some (.dK ws) ∧ kvs.map (·.1) = ws.map (·.1) ∧ RpL B A H (kvs.map (·.2)) (ws.map (·.2))
  | .ins c fs => ∃ dx ws, H a = some (.ins (He.ga B.K (clsT c).1) dx ws) ∧ ws.map (·.1) = (clsT c).2.take fs.length ∧ RpL B A H fs (ws.map (·.2))
  | _ => False
/-- own lists within a list -/
inductive Obs (B : Bg) (A : Addr → Prop) (H : Hp) : List PV → List Addr → Prop
  | nil : Obs B A H [] []
  | cons {x : PV} {xs : List PV} {a : Addr} {as : List Addr} : Ob B A H a x → Obs B A H xs as → Obs B A H (x :: xs) (a :: as)
def Kr (E : Ac) (L : List Addr) (H : Hp) : Kd → PV → V → List Addr → Prop
  | .sh, x, v, O => O = [] ∧ Rp E.B (av E L true true) H x v
  | .bor, x, v, O => O = [] ∧ Rp E.B (av E L false true) H x v
  | .own, x, v, O => ∃ a, v = .ref a ∧ O = [a] ∧ Ob E.B (av E L true true) H a x
  | .own2, x, v, O => ∃ a xs as, v = .ref a ∧ O = a :: as ∧ x = .lst xs ∧ H a = some (.lst (as.map V.ref)) ∧ Obs E.B (av E L true true) H xs as
  | .slf, x, v, O => ∃ a, v = .ref a ∧ O = [a] ∧ ((∃ c fs, x = .ins c fs) ∧ a = E.me) ∧ Ob E.B (av E L true true) H a x
  | .slfD j, x, v, O => ∃ a b c fs ws dx y, v = .ref a ∧ O = [a, b] ∧ (x = .ins c fs ∧ a = E.me) ∧ H a = some (.ins (He.ga E.B.K (clsT c).1) dx ws) ∧ ws.map (·.1) = (clsT c).2.take fs.length ∧
      fs[j]? = some y ∧ (ws.map (·.2))[j]? = some (.ref b) ∧ Ob E.B (av E L true true) H b y ∧ RpL E.B (av E L true true) H (fs.set j .non) ((ws.map (·.2)).set j .non)
  | .tt, x, v, O => O = [] ∧ ∃ a xs vs, x = .tup xs ∧ v = .ref a ∧ H a = some (.tup vs) ∧ RpL E.B (av E L true true) H xs vs
abbrev G := List (Option PV)
def kd (ks : List Kd) (i : Nat) : Kd := ks.getD i .sh
structure Rel (E : Ac) (L : List Addr) (ks : List Kd) (γ : G) (σ : St) (H : Hp) : Prop where
  old : ∀ a o, E.H0 a = some o → a ≠ E.B.q → H a = some o
  onn : ∀ a, E.H0 a ≠ none → H a ≠ none
  bag : BagOk E.B H
  a0 : ∀ a, E.A0 a → E.H0 a ≠ none
  aq : E.A0 E.B.q
  ar : E.H0 E.B.r ≠ none
  lf : ∀ a ∈ L, E.H0 a = none ∧ H a ≠ none
  len : γ.length = σ.length
  sl : ∃ O : Nat → List Addr, (∀ i x, γ[i]? = some (some x) → ∃ v, σ[i]? = some (some v) ∧ Kr E L H (kd ks i) x v (O i)) ∧ (∀ i a, a ∈ O i → a ∈ L) ∧
    (∀ i j a, a ∈ O i → a ∈ O j → i = j) ∧ ∀ i, (O i).Nodup
end Vl
namespace Vl
open PySem PySem.Spec L2
/-! ### what stays -/
section
variable {B : Bg} {A A' : Addr → Prop} {H H' : Hp}
theorem Ob.mv (f : ∀ a o, H a = some o → ¬ A a → H' a = some o) (ft : ∀ a vs, H a = some (.tup vs) → H' a = some (.tup vs)) (g : ∀ a, A' a → H a ≠ none → A a) {a : Addr} (fa : ∀ o, H a = some o → H' a = some o) {x : PV} (h : Ob B A H a x) : Ob B A' H' a x := by
  cases x with
  | lst xs => obtain ⟨vs, h1, h2⟩ := h; exact ⟨vs, fa _ h1, h2.mv f ft g⟩
  | dT kvs => obtain ⟨ws, h1, h2, h3⟩ := h; exact ⟨ws, fa _ h1, h2, h3.mv f ft g⟩
  | dK kvs => obtain ⟨ws, h1, h2, h3⟩ := h; exact ⟨ws, fa _ h1, h2, h3.mv f ft g⟩
  | ins c fs => obtain ⟨dx, ws, h1, h2, h3⟩ := h; exact ⟨dx, ws, fa _ h1, h2, h3.mv f ft g⟩
  | _ => exact h.elim
theorem Obs.mv (f : ∀ a o, H a = some o → ¬ A a → H' a = some o) (ft : ∀ a vs, H a = some (.tup vs) → H' a = some (.tup vs)) (g : ∀ a, A' a → H a ≠ none → A a) : ∀ {xs : List PV} {as : List Addr}, (∀ a ∈ as, ∀ o, H a = some o → H' a = some o) → Obs B A H xs as → Obs B A' H' xs as
  | _, _, _, .nil => .nil
  | _, _, fa, .cons h t => .cons (h.mv f ft g (fa _ (by simp))) (Obs.mv f ft g (fun a m => fa a (by simp [m])) t)
end
section
variable {E : Ac} {L L' : List Addr} {H H' : Hp}
theorem av_mono {a s a' s' : Bool} (ha : a' = true → a = true) (hs : s' = true → s = true) {x : Addr} (h : av E L a' s' x) : av E L a s x := by
  rcases h with h | ⟨h, k⟩ | ⟨h, k⟩
  · exact .inl h
  · exact .inr (.inl ⟨ha h, k⟩)
  · exact .inr (.inr ⟨hs h, k⟩)
theorem av_q {a s : Bool} : av E L a s E.B.q := .inl rfl
/-- a slot stands when all but others' own objects stand -/
theorem Kr.mv (st : ∀ a o, H a = some o → a ≠ E.B.q → (a ∈ L → False) → H' a = some o) (ft : ∀ a vs, H a = some (.tup vs) → H' a = some (.tup vs)) (ls : ∀ a ∈ L', a ∈ L ∨ H a = none)
    {k : Kd} {x : PV} {v : V} {O : List Addr} (fo : ∀ a ∈ O, ∀ o, H a = some o → H' a = some o) (h : Kr E L H k x v O) : Kr E L' H' k x v O := by
  have f1 : ∀ a o, H a = some o → ¬ av E L true true a → H' a = some o := fun a o e n => st a o e (fun z => n (.inl z)) fun z => n (.inr (.inr ⟨rfl, z⟩))
  have f2 : ∀ a o, H a = some o → ¬ av E L false true a → H' a = some o := fun a o e n => st a o e (fun z => n (.inl z)) fun z => n (.inr (.inr ⟨rfl, z⟩))
  have g : ∀ {b : Bool} a, av E L' b true a → H a ≠ none → av E L b true a := fun {b} a z n => by
    rcases z with z | z | ⟨_, z⟩
    · exact .inl z
    · exact .inr (.inl z)
    · exact (ls a z).elim (fun z => .inr (.inr ⟨rfl, z⟩)) fun z => absurd z n
  cases k with
  | sh => exact ⟨h.1, h.2.mv f1 ft g⟩
  | bor => exact ⟨h.1, h.2.mv f2 ft g⟩
  | own => obtain ⟨a, e1, rfl, h⟩ := h; exact ⟨a, e1, rfl, h.mv f1 ft g (fo a (by simp))⟩
  | own2 =>
    obtain ⟨a, xs, as, e1, rfl, e2, h1, h2⟩ := h
    exact ⟨a, xs, as, e1, rfl, e2, fo a (by simp) _ h1, h2.mv f1 ft g fun b m => fo b (by simp [m])⟩
  | slf => obtain ⟨a, e1, rfl, e2, h⟩ := h; exact ⟨a, e1, rfl, e2, h.mv f1 ft g (fo a (by simp))⟩
  | slfD fl =>
    obtain ⟨a, b, c, fs, ws, dx, y, e1, rfl, e2, h1, h2, h3, h4, h5, h6⟩ := h
    exact ⟨a, b, c, fs, ws, dx, y, e1, rfl, e2, fo a (by simp) _ h1, h2, h3, h4, h5.mv f1 ft g (fo b (by simp)), h6.mv f1 ft g⟩
  | tt =>
    obtain ⟨e0, a, xs, vs, e1, e2, h1, h2⟩ := h
    exact ⟨e0, a, xs, vs, e1, e2, ft a vs h1, h2.mv f1 ft g⟩
variable {ks : List Kd} {γ : G} {σ : St}
theorem Rel.lq (R : Rel E L ks γ σ H) {a : Addr} (h : a ∈ L) : a ≠ E.B.q := fun z => R.a0 _ R.aq (by rw [← z]; exact (R.lf a h).1)
theorem Rel.ex (R : Rel E L ks γ σ H) (e : Ex E.B H H') : Rel E L ks γ σ H' where
  old := fun a o h n => e.st a o (R.old a o h n) n
  onn := fun a h => e.nn a (R.onn a h)
  bag := e.bg R.bag
  a0 := R.a0
  aq := R.aq
  ar := R.ar
  lf := fun a h => ⟨(R.lf a h).1, e.nn a (R.lf a h).2⟩
  len := R.len
  sl := by
    obtain ⟨O, h1, h2, h3, h4⟩ := R.sl
    refine ⟨O, fun i x hx => ?_, h2, h3, h4⟩
    obtain ⟨v, hv, k⟩ := h1 i x hx
    exact ⟨v, hv, k.mv (fun a o e1 n _ => e.st a o e1 n) e.tp (fun a z => .inl z) fun a m o e1 => e.st a o e1 (R.lq (h2 i a m))⟩
end
/-- how the heap goes on behind a statement -/
structure Fw (B : Bg) (L : List Addr) (H : Hp) (L' : List Addr) (H' : Hp) : Prop where
  st : ∀ a o, H a = some o → a ∉ L → a ≠ B.q → H' a = some o
  tp : ∀ a vs, H a = some (.tup vs) → H' a = some (.tup vs)
  nn : ∀ a, H a ≠ none → H' a ≠ none
  ls : ∀ a ∈ L', a ∈ L ∨ H a = none
theorem Fw.refl (B : Bg) (L : List Addr) (H : Hp) : Fw B L H L H := ⟨fun _ _ h _ _ => h, fun _ _ h => h, fun _ h => h, fun _ h => .inl h⟩
theorem Fw.trans {B : Bg} {L L1 L2 : List Addr} {H H1 H2 : Hp} (a : Fw B L H L1 H1) (b : Fw B L1 H1 L2 H2) : Fw B L H L2 H2 where
  st := fun c o h n m => b.st c o (a.st c o h n m) (fun z => (a.ls c z).elim n fun e => by rw [h] at e; cases e) m
  tp := fun c v h => b.tp c v (a.tp c v h)
  nn := fun c h => b.nn c (a.nn c h)
  ls := fun c h => (b.ls c h).elim (fun z => a.ls c z) fun e => .inr (by
    cases q : H c with
    | none => rfl
    | some o => exact absurd e (a.nn c (by rw [q]; exact nofun)))
theorem Ex.fw {B : Bg} {L : List Addr} {H H' : Hp} (e : Ex B H H') : Fw B L H L H' := ⟨fun a o h _ n => e.st a o h n, e.tp, e.nn, fun _ h => .inl h⟩
/-- a value that keeps off the own objects stands behind a statement -/
theorem Rp.fw {E : Ac} {L L' : List Addr} {H H' : Hp} {a : Bool} {x : PV} {v : V} (h : Rp E.B (av E L a true) H x v) (f : Fw E.B L H L' H') : Rp E.B (av E L' a true) H' x v :=
  h.mv (fun b o e n => f.st b o e (fun z => n (.inr (.inr ⟨rfl, z⟩))) fun z => n (.inl z)) f.tp fun b z n => by
    rcases z with z | z | ⟨_, z⟩
    · exact .inl z
    · exact .inr (.inl z)
    · exact (f.ls b z).elim (fun z => .inr (.inr ⟨rfl, z⟩)) fun z => absurd z n
theorem RpL.fw {E : Ac} {L L' : List Addr} {H H' : Hp} {a : Bool} {x : List PV} {v : List V} (h : RpL E.B (av E L a true) H x v) (f : Fw E.B L H L' H') : RpL E.B (av E L' a true) H' x v :=
  h.mv (fun b o e n => f.st b o e (fun z => n (.inr (.inr ⟨rfl, z⟩))) fun z => n (.inl z)) f.tp fun b z n => by
    rcases z with z | z | ⟨_, z⟩
    · exact .inl z
    · exact .inr (.inl z)
    · exact (f.ls b z).elim (fun z => .inr (.inr ⟨rfl, z⟩)) fun z => absurd z n
/-! ### pure readings and the judgements -/
abbrev GE := G → (PV → Prop) → Prop
abbrev GT := G → (Bool → Prop) → Prop
abbrev GA := G → (List PV → Prop) → Prop
structure GD where
  nx : G → Prop
  rt : PV → G → Prop
  bk : G → Prop
  ct : G → Prop
abbrev GS := GD → G → Prop
def tE (K : Fg) (ks : List Kd) (a s : Bool) (p : GE) : TE := fun σ H Q => ∃ (E : Ac) (L : List Addr) (γ : G) (Qp : PV → Prop), E.B.K = K ∧ Rel E L ks γ σ H ∧ p γ Qp ∧
  ∀ x v H', Qp x → Ex E.B H H' → Rp E.B (av E L a s) H' x v → Q v H'
def tT (K : Fg) (ks : List Kd) (p : GT) : TT := fun σ H Q => ∃ (E : Ac) (L : List Addr) (γ : G) (Qp : Bool → Prop), E.B.K = K ∧ Rel E L ks γ σ H ∧ p γ Qp ∧
  ∀ b H', Qp b → Ex E.B H H' → Q b H'
def tA (K : Fg) (ks : List Kd) (a s : Bool) (n : Nat) (p : GA) : TA := fun σ H Q => ∃ (E : Ac) (L : List Addr) (γ : G) (Qp : List PV → Prop), E.B.K = K ∧ Rel E L ks γ σ H ∧ p γ Qp ∧
  ∀ x v H', Qp x → Ex E.B H H' → RpL E.B (av E L a s) H' x v → x.length = n → Q v H'
/-- a new list or dict, which nobody else holds -/
def tN (K : Fg) (ks : List Kd) (p : GE) : TE := fun σ H Q => ∃ (E : Ac) (L : List Addr) (γ : G) (Qp : PV → Prop), E.B.K = K ∧ Rel E L ks γ σ H ∧ p γ Qp ∧
  ∀ x a H', Qp x → Ex E.B H H' → H a = none → Ob E.B (fun b => av E L true true b ∨ b = a) H' a x → Q (.ref a) H'
/-- what is told back -/
def RtOk (E : Ac) (x : PV) (v : V) (H' : Hp) : Prop := Rp E.B E.A0 H' x v ∧ (∀ a o, E.H0 a = some o → a ≠ E.B.q → H' a = some o) ∧ (∀ a, E.H0 a ≠ none → H' a ≠ none) ∧ BagOk E.B H'
def tS (K : Fg) (ks ks' kl : List Kd) (p : GS) : TS := fun D σ H => ∃ (E : Ac) (L : List Addr) (γ : G) (Dp : GD), E.B.K = K ∧ Rel E L ks γ σ H ∧ p Dp γ ∧
  (∀ L' γ' σ' H', Fw E.B L H L' H' → Rel E L' ks' γ' σ' H' → Dp.nx γ' → D.nx σ' H') ∧ (∀ x γ' v H', RtOk E x v H' → Dp.rt x γ' → D.rt v H') ∧
  (∀ L' γ' σ' H', Fw E.B L H L' H' → Rel E L' kl γ' σ' H' → Dp.bk γ' → D.bk σ' H') ∧ (∀ L' γ' σ' H', Fw E.B L H L' H' → Rel E L' kl γ' σ' H' → Dp.ct γ' → D.ct σ' H')
section
variable {X : Cx} {e : Expr} {es : List Expr} {st : Stmt} {sts : List Stmt}
theorem PEi {t t' : TE} (h : PE X e t) (i : ∀ σ H Q, t' σ H Q → t σ H Q) : PE X e t' := ⟨fun pins s σ H Q I q => h.run pins s σ H Q I (i _ _ _ q)⟩
theorem PTi {t t' : TT} (h : PT X e t) (i : ∀ σ H Q, t' σ H Q → t σ H Q) : PT X e t' := ⟨fun pins s σ H Q I q => h.run pins s σ H Q I (i _ _ _ q)⟩
theorem PWi {t t' : TT} (h : PW X e t) (i : ∀ σ H Q, t' σ H Q → t σ H Q) : PW X e t' := ⟨fun w pins s σ H Q I q => h.run w pins s σ H Q I (i _ _ _ q)⟩
theorem PAi {t t' : TA} (h : PA X es t) (i : ∀ σ H Q, t' σ H Q → t σ H Q) : PA X es t' := ⟨fun pos pins s σ H Q I q => h.run pos pins s σ H Q I (i _ _ _ q)⟩
theorem PSi {t t' : TS} (h : PS X st t) (i : ∀ D σ H, t' D σ H → t D σ H) : PS X st t' := ⟨fun pins s σ H D I q => h.run pins s σ H D I (i _ _ _ q)⟩
theorem PSsi {t t' : TS} (h : PSs X sts t) (i : ∀ D σ H, t' D σ H → t D σ H) : PSs X sts t' := ⟨fun pins s σ H D I q => h.run pins s σ H D I (i _ _ _ q)⟩
end
abbrev QE (X : Cx) (ks : List Kd) (a s : Bool) (e : Expr) (p : GE) : Prop := PE X e (tE X.K ks a s p)
abbrev QN (X : Cx) (ks : List Kd) (e : Expr) (p : GE) : Prop := PE X e (tN X.K ks p)
abbrev QT (X : Cx) (ks : List Kd) (e : Expr) (p : GT) : Prop := PT X e (tT X.K ks p)
abbrev QW (X : Cx) (ks : List Kd) (e : Expr) (p : GT) : Prop := PW X e (tT X.K ks p)
abbrev QA (X : Cx) (ks : List Kd) (a s : Bool) (es : List Expr) (p : GA) : Prop := PA X es (tA X.K ks a s es.length p)
abbrev QS (X : Cx) (ks ks' kl : List Kd) (st : Stmt) (p : GS) : Prop := PS X st (tS X.K ks ks' kl p)
abbrev QB (X : Cx) (ks ks' kl : List Kd) (sts : List Stmt) (p : GS) : Prop := PSs X sts (tS X.K ks ks' kl p)
/-! ### plain steps -/
def getO : Option PV → (PV → Prop) → Prop
  | some x, Q => Q x
  | none, _ => False
def getS (γ : G) : Nat → (PV → Prop) → Prop :=
  List.rec (motive := fun _ => Nat → (PV → Prop) → Prop) (fun _ _ => False) (fun a _ ih i Q => Nat.rec (motive := fun _ => Prop) (getO a Q) (fun i _ => ih i Q) i) γ
theorem getS_of : ∀ {γ : G} {i : Nat} {Q : PV → Prop}, getS γ i Q → ∃ x, γ[i]? = some (some x) ∧ Q x
  | [], _, _, h => False.elim h
  | some x :: _, 0, _, h => ⟨x, rfl, h⟩
  | none :: _, 0, _, h => False.elim h
  | none :: l, i + 1, _, h => by simpa using getS_of (γ := l) (i := i) h
  | some _ :: l, i + 1, _, h => by simpa using getS_of (γ := l) (i := i) h
def pVar (i : Nat) : GE := fun γ Q => getS γ i Q
def pC (x : PV) : GE := fun _ Q => Q x
def pOp (o : PV → PV → (PV → Prop) → Prop) (a b : GE) : GE := fun γ Q => a γ fun x => b γ fun y => o x y Q
def pUn (o : PV → (PV → Prop) → Prop) (a : GE) : GE := fun γ Q => a γ fun x => o x Q
def pNil : GA := fun _ Q => Q []
def pCons (a : GE) (t : GA) : GA := fun γ Q => a γ fun x => t γ fun xs => Q (x :: xs)
def pImm (a : GE) : GE := fun γ Q => a γ fun x => imm x = true ∧ Q x
def pCB (o : List PV → (PV → Prop) → Prop) (t : GA) : GE := fun γ Q => t γ fun xs => o xs Q
def pTest (a : GE) : GT := fun γ Q => a γ fun x => match x with | .bl b => Q b | _ => False
def truP : PV → (Bool → Prop) → Prop
  | .non, Q => Q false
  | .bl b, Q => Q b
  | .int i, Q => Q (i != 0)
  | .str x, Q => x.length ≤ sizeLine ∧ Q ((x.length : Int) != 0)
  | .lst xs, Q => Q (!xs.isEmpty)
  | .tup xs, Q => Q (!xs.isEmpty)
  | _, _ => False
def pTru (a : GE) : GT := fun γ Q => a γ fun x => truP x Q
/-- one of two, by a truth -/
def bfi (c : Bool) (A B : Prop) : Prop := match c with
  | true => A
  | false => B
def pAnd (t u : GT) : GT := fun γ Q => t γ fun c => bfi c (u γ Q) (Q false)
def pOr (t u : GT) : GT := fun γ Q => t γ fun c => bfi c (Q true) (u γ Q)
def pNot (t : GT) : GT := fun γ Q => t γ fun c => Q (!c)
def pAndV (a b : GE) : GE := fun γ Q => a γ fun x => truP x fun k => bfi k (b γ Q) (Q x)
def pOrV (a b : GE) : GE := fun γ Q => a γ fun x => truP x fun k => bfi k (Q x) (b γ Q)
def pNotV (a : GE) : GE := fun γ Q => a γ fun x => truP x fun k => Q (.bl (!k))
def pIfE (t : GT) (a b : GE) : GE := fun γ Q => t γ fun c => bfi c (a γ Q) (b γ Q)
section
variable {X : Cx} {ks : List Kd} {a s a' s' : Bool} {e e1 e2 : Expr} {es : List Expr} {p p1 p2 : GE} {pa : GA} {pt pt1 pt2 : GT} {pos : Pos}
/-- weaken what is kept off -/
theorem qe_w (h : QE X ks a s e p) (ha : a' = true → a = true := by decide) (hs : s' = true → s = true := by decide) : QE X ks a' s' e p :=
  PEi h fun σ H Q ⟨E, L, γ, Qp, hK, R, hp, k⟩ => ⟨E, L, γ, Qp, hK, R, hp, fun x v H' q x1 r => k x v H' q x1 (r.anti fun _ z => av_mono ha hs z)⟩
theorem qe_imm (h : QE X ks a s e p) : QE X ks true true e (pImm p) :=
  PEi h fun σ H Q ⟨E, L, γ, Qp, hK, R, hp, k⟩ => ⟨E, L, γ, _, hK, R, hp, fun x v H' q x1 r => k x v H' q.2 x1 (r.im q.1)⟩
theorem qe_c {x : PV} {v : V} (h : PE X e (tC v)) (r : ∀ (q r : Addr) (A : Addr → Prop) (H : Hp), Rp ⟨X.K, q, r⟩ A H x v) : QE X ks true true e (pC x) :=
  PEi h fun σ H Q ⟨E, L, γ, Qp, hK, R, hp, k⟩ => k x v H hp (.refl _ _) (by
    have := r E.B.q E.B.r (av E L true true) H
    rw [← hK] at this; exact this)
end
end Vl
namespace Vl
open PySem PySem.Spec L2 Lb
/-- what a slot's value keeps off -/
def Kd.ka : Kd → Bool
  | .bor => false
  | _ => true
def Kd.kb : Kd → Bool
  | .sh => true
  | .bor => true
  | .tt => true
  | _ => false
section
variable {X : Cx} {ks : List Kd} {a s a1 s1 a2 s2 : Bool} {e e1 e2 e3 : Expr} {es : List Expr} {p p1 p2 p3 : GE} {pa : GA} {pt pt1 pt2 : GT} {pos : Pos}
/-! constants, names -/
theorem qe_int {i : Int} {j} : QE X ks true true (.Constant (.int i) j pos) (pC (.int i)) := qe_c pe_int fun _ _ _ _ => .int i
theorem qe_str {x : Str} {j} : QE X ks true true (.Constant (.str x) j pos) (pC (.str x)) := qe_c pe_str fun _ _ _ _ => .str x
theorem qe_bl {b : Bool} {j} : QE X ks true true (.Constant (.bool b) j pos) (pC (.bl b)) := qe_c pe_bl fun _ _ _ _ => .bl b
theorem qe_non {j} : QE X ks true true (.Constant .none j pos) (pC .non) := qe_c pe_non fun _ _ _ _ => .non
theorem Ob.rp {E : Ac} {L : List Addr} {H : Hp} {A : Addr → Prop} {b : Addr} {x : PV} (h : Ob E.B A H b x) (n : ¬ av E L true false b) (g : ∀ c, av E L true false c → A c) : Rp E.B (av E L true false) H x (.ref b) := by
  cases x with
  | lst xs => obtain ⟨vs, h1, h2⟩ := h; exact .lst n h1 (h2.anti g)
  | dT kvs => obtain ⟨ws, h1, h2, h3⟩ := h; exact .dT n h1 h2 rfl rfl rfl (h3.anti g)
  | dK kvs => obtain ⟨ws, h1, h2, h3⟩ := h; exact .dK n h1 h2 rfl rfl rfl (h3.anti g)
  | ins c fs => obtain ⟨dx, ws, h1, h2, h3⟩ := h; exact .ins n h1 h2 rfl (h3.anti g)
  | _ => exact h.elim
theorem Obs.rp {E : Ac} {L : List Addr} {H : Hp} {A : Addr → Prop} (g : ∀ c, av E L true false c → A c) : ∀ {xs : List PV} {as : List Addr}, (∀ b ∈ as, ¬ av E L true false b) → Obs E.B A H xs as → RpL E.B (av E L true false) H xs (as.map V.ref)
  | _, _, _, .nil => .nil
  | _, _, n, .cons h t => .cons (h.rp (n _ (by simp)) g) (Obs.rp g (fun b m => n b (by simp [m])) t)
theorem RpL.unset {B : Bg} {A : Addr → Prop} {H : Hp} : ∀ {xs : List PV} {vs : List V} {j : Nat} {x : PV} {v : V}, xs[j]? = some x → vs[j]? = some v → RpL B A H (xs.set j .non) (vs.set j .non) → Rp B A H x v → RpL B A H xs vs
  | [], _, _, _, _, e, _, _, _ => by simp at e
  | _ :: _, [], _, _, _, _, e, _, _ => by simp at e
  | y :: ys, w :: ws, 0, x, v, e1, e2, h, r => by
    simp at e1 e2; subst e1; subst e2
    cases h with
    | cons _ t => exact .cons r t
  | y :: ys, w :: ws, j + 1, x, v, e1, e2, h, r => by
    cases h with
    | cons q t => exact .cons q (RpL.unset (by simpa using e1) (by simpa using e2) t r)
theorem Rel.noA {E : Ac} {L : List Addr} {γ : G} {σ : St} {H : Hp} (R : Rel E L ks γ σ H) {b : Addr} (h : b ∈ L) : ¬ av E L true false b := by
  rintro (z | ⟨_, z⟩ | ⟨z, _⟩)
  · exact R.lq h z
  · exact R.a0 b z (R.lf b h).1
  · cases z
/-- a slot read -/
theorem Rel.read {E : Ac} {L : List Addr} {γ : G} {σ : St} {H : Hp} {i : Nat} {x : PV} (R : Rel E L ks γ σ H) (h : γ[i]? = some (some x)) : ∃ v, σ[i]? = some (some v) ∧ Rp E.B (av E L (kd ks i).ka (kd ks i).kb) H x v := by
  obtain ⟨O, h1, h2, h3, h4⟩ := R.sl
  obtain ⟨v, hv, k⟩ := h1 i x h
  refine ⟨v, hv, ?_⟩
  have g : ∀ c, av E L true false c → av E L true true c := fun c z => av_mono (a' := true) (s' := false) id (fun _ => rfl) z
  have m := h2 i
  generalize kd ks i = kk at k
  generalize O i = oo at k m
  cases kk with
  | sh => exact k.2
  | bor => exact k.2
  | own => obtain ⟨b, rfl, rfl, k⟩ := k; exact k.rp (R.noA (m b (by simp))) g
  | own2 =>
    obtain ⟨b, xs, as, rfl, rfl, rfl, k1, k2⟩ := k
    exact .lst (R.noA (m b (by simp))) k1 (k2.rp g fun c z => R.noA (m c (by simp [z])))
  | slf => obtain ⟨b, rfl, rfl, _, k⟩ := k; exact k.rp (R.noA (m b (by simp))) g
  | slfD j =>
    obtain ⟨b, c, cl, fs, ws, dx, y, rfl, rfl, ⟨rfl, _⟩, k1, k2, k3, k4, k5, k6⟩ := k
    exact .ins (R.noA (m b (by simp))) k1 k2 rfl (RpL.unset k3 k4 (k6.anti g) (k5.rp (R.noA (m c (by simp))) g))
  | tt =>
    obtain ⟨rfl, b, xs, vs, rfl, rfl, k1, k2⟩ := k
    exact .tup (.inl k1) k2
theorem qe_v (i : Nat) (h : PE X e (tVar i)) (ha : a = (kd ks i).ka := by rfl) (hb : s = (kd ks i).kb := by rfl) : QE X ks a s e (pVar i) := by
  subst ha hb
  exact PEi h fun σ H Q ⟨E, L, γ, Qp, hK, R, hp, k⟩ => by
    obtain ⟨x, hx, q⟩ := getS_of hp
    obtain ⟨v, hv, r⟩ := R.read hx
    exact ⟨v, hv, k x v H q (.refl _ _) r⟩
/-! operators by plain values -/
abbrev PO2 := PV → PV → (PV → Prop) → Prop
/-- r answers as o says, whatever the operands keep off, and tells a value of the same care -/
def OpP (K : Fg) (r : R2) (o : PO2) : Prop := ∀ (B : Bg) (A : Addr → Prop) (H : Hp) (x y : PV) (v u : V) (Q : VK) (Qp : PV → Prop), B.K = K → A B.q → (∀ b, A b → H b ≠ none) → Rp B A H x v → Rp B A H y u → o x y Qp →
  (∀ z t H', Qp z → Ex B H H' → Rp B A H' z t → Q t H') → r v u H Q
theorem av_nn {E : Ac} {L : List Addr} {γ : G} {σ : St} {H : Hp} (R : Rel E L ks γ σ H) {a s : Bool} {b : Addr} (h : av E L a s b) : H b ≠ none := by
  rcases h with h | ⟨_, h⟩ | ⟨_, h⟩
  · rw [h]; exact R.bag.q
  · exact R.onn b (R.a0 b h)
  · exact (R.lf b h).2
theorem qe_op2 {r : R2} {o : PO2} (ho : OpP X.K r o) {e : Expr} (pe : ∀ {ta tb : TE}, PE X e1 ta → PE X e2 tb → PE X e (tOp r ta tb)) (h1 : QE X ks a1 s1 e1 p1) (h2 : QE X ks a2 s2 e2 p2) : QE X ks (a1 && a2) (s1 && s2) e (pOp o p1 p2) :=
  PEi (pe h1 h2) fun σ H Q ⟨E, L, γ, Qp, hK, R, hp, k⟩ => by
    refine ⟨E, L, γ, _, hK, R, hp, fun x v H1 q1 x1 r1 => ⟨E, L, γ, _, hK, R.ex x1, q1, fun y u H2 q2 x2 r2 => ?_⟩⟩
    refine ho E.B (av E L (a1 && a2) (s1 && s2)) H2 x y v u Q Qp hK av_q (fun b z => av_nn ((R.ex x1).ex x2) z) ((r1.ex x2 av_q).anti fun c z => av_mono (fun z => (Bool.and_eq_true _ _ ▸ z).1) (fun z => (Bool.and_eq_true _ _ ▸ z).1) z)
      (r2.anti fun c z => av_mono (fun z => (Bool.and_eq_true _ _ ▸ z).2) (fun z => (Bool.and_eq_true _ _ ▸ z).2) z) q2 fun z t H' qz x3 rz => k z t H' qz (x1.trans (x2.trans x3)) rz
/-- an answer without parts that change -/
def OpS (K : Fg) (r : R2) (o : PO2) : Prop := ∀ (B : Bg) (H : Hp) (x y : PV) (v u : V) (Q : VK) (Qp : PV → Prop), B.K = K → Rp B (fun b => b = B.q) H x v → Rp B (fun b => b = B.q) H y u → o x y Qp →
  (∀ z t H', Qp z → Ex B H H' → (∀ A, Rp B A H' z t) → Q t H') → r v u H Q
theorem Rp.q {E : Ac} {L : List Addr} {a s : Bool} {H : Hp} {x : PV} {v : V} (h : Rp E.B (av E L a s) H x v) : Rp E.B (fun b => b = E.B.q) H x v := h.anti fun c z => .inl z
theorem RpL.q {E : Ac} {L : List Addr} {a s : Bool} {H : Hp} {x : List PV} {v : List V} (h : RpL E.B (av E L a s) H x v) : RpL E.B (fun b => b = E.B.q) H x v := h.anti fun c z => .inl z
theorem qe_opS {r : R2} {o : PO2} (ho : OpS X.K r o) {e : Expr} (pe : ∀ {ta tb : TE}, PE X e1 ta → PE X e2 tb → PE X e (tOp r ta tb)) (h1 : QE X ks a1 s1 e1 p1) (h2 : QE X ks a2 s2 e2 p2) : QE X ks true true e (pOp o p1 p2) :=
  PEi (pe h1 h2) fun σ H Q ⟨E, L, γ, Qp, hK, R, hp, k⟩ => by
    refine ⟨E, L, γ, _, hK, R, hp, fun x v H1 q1 x1 r1 => ⟨E, L, γ, _, hK, R.ex x1, q1, fun y u H2 q2 x2 r2 => ?_⟩⟩
    exact ho E.B H2 x y v u Q Qp hK (r1.ex x2 av_q).q r2.q q2 fun z t H' qz x3 rz => k z t H' qz (x1.trans (x2.trans x3)) (rz _)
theorem qt_opS {r : R2} {o : PO2} (ho : OpS X.K r o) {e : Expr} (pe : ∀ {ta tb : TE}, PE X e1 ta → PE X e2 tb → PT X e (tTest (tOp r ta tb))) (h1 : QE X ks a1 s1 e1 p1) (h2 : QE X ks a2 s2 e2 p2) : QT X ks e (pTest (pOp o p1 p2)) :=
  PTi (pe h1 h2) fun σ H Q ⟨E, L, γ, Qp, hK, R, hp, k⟩ => by
    refine ⟨E, L, γ, _, hK, R, hp, fun x v H1 q1 x1 r1 => ⟨E, L, γ, _, hK, R.ex x1, q1, fun y u H2 q2 x2 r2 => ?_⟩⟩
    refine ho E.B H2 x y v u _ _ hK (r1.ex x2 av_q).q r2.q q2 fun z t H' qz x3 rz => ?_
    have := rz fun _ => False
    cases this <;> first | exact ⟨_, rfl, k _ H' qz (x1.trans (x2.trans x3))⟩ | exact qz.elim
def oAdd : PO2
  | .int i, .int j, Q => Q (.int (i + j))
  | .str x, .str y, Q => x.length + y.length ≤ sizeLine ∧ Q (.str (x ++ y))
  | .lst xs, .lst ys, Q => xs.length + ys.length ≤ sizeLine ∧ Q (.lst (xs ++ ys))
  | .tup xs, .tup ys, Q => xs ≠ [] ∧ xs.length + ys.length ≤ sizeLine ∧ Q (.tup (xs ++ ys))
  | _, _, _ => False
def rAddV (K : Fg) : R2 := fun x y H Q => rAddA x y H Q ∨ rCatT K x y H Q
theorem op_addV : OpR X (binaryOp .Add) (rAddV X.K) := OpR.or op_addA op_catT
theorem RpL.nil_iff {B : Bg} {A : Addr → Prop} {H : Hp} {x : List PV} {v : List V} (h : RpL B A H x v) : x = [] ↔ v = [] := by cases h <;> simp
theorem Rp.new {B : Bg} {A : Addr → Prop} {H : Hp} {x : List PV} {v : List V} {p : Addr} (h : RpL B A H x v) (aq : A B.q) (n : H p = none) (nn : ∀ b, A b → H b ≠ none) : Rp B A (upd H p (.lst v)) (.lst x) (.ref p) :=
  .lst (fun z => nn p z n) upd_same (h.ex (.new n) aq)
theorem Rp.newT {B : Bg} {A : Addr → Prop} {H : Hp} {x : List PV} {v : List V} {p : Addr} (h : RpL B A H x v) (aq : A B.q) (n : H p = none) : Rp B A (upd H p (.tup v)) (.tup x) (.ref p) :=
  .tup (.inl upd_same) (h.ex (.new n) aq)
theorem add_ok {K : Fg} : OpP K (rAddV K) oAdd := by
  intro B A H x y v u Q Qp hK aq nn rx ry h k
  cases rx <;> cases ry <;> first | exact (h : False).elim | skip
  · exact .inl (.inl ⟨_, _, rfl, rfl, k _ _ H h (.refl _ _) (.int _)⟩)
  · exact .inl (.inr (.inl ⟨_, _, rfl, rfl, h.1, k _ _ H h.2 (.refl _ _) (.str _)⟩))
  · rename_i b vs xs n1 h1 r1 c ws ys n2 h2 r2
    exact .inl (.inr (.inr ⟨_, _, _, _, rfl, rfl, h1, h2, by rw [← r1.length, ← r2.length]; exact h.1, fun p np => k _ _ _ h.2 (.new np) (Rp.new (r1.append r2) aq np nn)⟩))
  · rename_i b vs xs h1 r1 c ws ys h2 r2
    subst hK
    refine .inr ⟨_, _, _, _, rfl, rfl, h1.sq, h2.sq, fun z => h.1 (r1.nil_iff.mpr z), by rw [← r1.length, ← r2.length]; exact h.2.1, fun z => ?_, fun z p np => k _ _ _ h.2.2 (.new np) (Rp.newT (r1.append r2) aq np)⟩
    subst z
    cases r2
    have := h.2.2
    rw [List.append_nil] at this
    exact k _ _ H this (.refl _ _) (.tup h1 r1)
def oI (f : Int → Int → PV) : PO2
  | .int i, .int j, Q => Q (f i j)
  | _, _, _ => False
def oIc (C : Int → Int → Prop) (f : Int → Int → PV) : PO2
  | .int i, .int j, Q => C i j ∧ Q (f i j)
  | _, _, _ => False
def flat1 : PV → Bool
  | .non => true
  | .bl _ => true
  | .int _ => true
  | .str _ => true
  | _ => false
theorem oi_ok {K : Fg} {f : Int → Int → V} {g : Int → Int → PV} (h : ∀ i j (B : Bg) A H, Rp B A H (g i j) (f i j)) : OpS K (rI0 f) (oI g) := by
  intro B H x y v u Q Qp hK rx ry q k
  cases rx <;> cases ry <;> first | exact (q : False).elim | skip
  exact ⟨_, _, rfl, rfl, k _ _ H q (.refl _ _) fun A => h _ _ _ _ _⟩
theorem oic_ok {K : Fg} {C : Int → Int → Prop} {f : Int → Int → V} {g : Int → Int → PV} (h : ∀ i j (B : Bg) A H, Rp B A H (g i j) (f i j)) : OpS K (rI C f) (oIc C g) := by
  intro B H x y v u Q Qp hK rx ry q k
  cases rx <;> cases ry <;> first | exact (q : False).elim | skip
  exact ⟨_, _, rfl, rfl, q.1, k _ _ H q.2 (.refl _ _) fun A => h _ _ _ _ _⟩
def oSub : PO2
  | .int i, .int j, Q => Q (.int (i - j))
  | _, _, _ => False
def oMod : PO2
  | .int i, .int j, Q => 0 < j ∧ Q (.int (i % j))
  | _, _, _ => False
def oDiv : PO2
  | .int i, .int j, Q => CDivW i j ∧ Q (.int (i / j))
  | _, _, _ => False
def oPow : PO2
  | .int i, .int j, Q => CPow i j ∧ Q (.int (i ^ j.toNat))
  | _, _, _ => False
theorem OpS.cg {K : Fg} {r : R2} {o o' : PO2} (h : OpS K r o) (i : ∀ x y Q, o' x y Q → o x y Q) : OpS K r o' := fun B H x y v u Q Qp hK rx ry q k => h B H x y v u Q Qp hK rx ry (i _ _ _ q) k
theorem sub_ok {K : Fg} : OpS K rSubA oSub := OpS.cg (o := oI fun i j => .int (i - j)) (oi_ok fun _ _ _ _ _ => .int _) fun x y Q h => by cases x <;> cases y <;> exact h
theorem mod_ok {K : Fg} : OpS K rModA oMod := OpS.cg (o := oIc (fun _ j => 0 < j) fun i j => .int (i % j)) (oic_ok fun _ _ _ _ _ => .int _) fun x y Q h => by cases x <;> cases y <;> exact h
theorem div_ok {K : Fg} : OpS K rDivA oDiv := OpS.cg (o := oIc CDivW fun i j => .int (i / j)) (oic_ok fun _ _ _ _ _ => .int _) fun x y Q h => by cases x <;> cases y <;> exact h
theorem pow_ok {K : Fg} : OpS K rPowA oPow := OpS.cg (o := oIc CPow fun i j => .int (i ^ j.toNat)) (oic_ok fun _ _ _ _ _ => .int _) fun x y Q h => by cases x <;> cases y <;> exact h
def oMul : PO2
  | .int i, .int j, Q => CMul i j ∧ Q (.int (i * j))
  | .lst xs, .int k, Q => (-(2 ^ 63) ≤ k ∧ k < 2 ^ 63 ∧ xs.length * k.toNat ≤ sizeLine) ∧ Q (.lst (List.replicate k.toNat xs).flatten)
  | .str x, .int k, Q => MulOk x k ∧ Q (.str (Txt.mul x k))
  | _, _, _ => False
def rMulS : R2 := fun x y H Q => ∃ i n, x = .str i ∧ y = .int n ∧ MulOk i n ∧ Q (.str (Txt.mul i n)) H
theorem op_mulS : OpR X (binaryOp .Mult) rMulS := by
  intro pins s σ H x y v u Q I rx ry h
  obtain ⟨i, j, rfl, rfl, hz, q⟩ := h
  obtain ⟨t, rfl⟩ := rx
  obtain ⟨t', rfl⟩ := ry
  exact SB.mul hz fun t' tk => ⟨.str _, H, I.tok _, ⟨_, rfl⟩, q⟩
def rMulV : R2 := fun x y H Q => rMulA x y H Q ∨ rMulS x y H Q
theorem op_mulV : OpR X (binaryOp .Mult) rMulV := OpR.or op_mulA op_mulS
theorem RpL.flat {B : Bg} {A : Addr → Prop} {H : Hp} {x : List PV} {v : List V} (h : RpL B A H x v) : ∀ n, RpL B A H (List.replicate n x).flatten (List.replicate n v).flatten
  | 0 => .nil
  | n + 1 => by rw [List.replicate_succ, List.replicate_succ, List.flatten_cons, List.flatten_cons]; exact h.append (RpL.flat h n)
theorem mul_ok {K : Fg} : OpP K rMulV oMul := by
  intro B A H x y v u Q Qp hK aq nn rx ry h k
  cases rx <;> cases ry <;> first | exact (h : False).elim | skip
  · exact .inl (.inl ⟨_, _, rfl, rfl, h.1, k _ _ H h.2 (.refl _ _) (.int _)⟩)
  · exact .inr ⟨_, _, rfl, rfl, h.1, k _ _ H h.2 (.refl _ _) (.str _)⟩
  · rename_i b vs xs n1 h1 r1 i
    refine .inl (.inr ?_)
    exact ⟨_, _, _, rfl, rfl, h1, h.1.1, h.1.2.1, by rw [← r1.length]; exact h.1.2.2, fun p np => k _ _ _ h.2 (.new np) (Rp.new (r1.flat _) aq np nn)⟩
def oLt : PO2
  | .int i, .int j, Q => Q (.bl (decide (i < j)))
  | .str i, .str j, Q => Q (.bl (decide (i.cps.toList < j.cps.toList)))
  | _, _, _ => False
def oLe : PO2
  | .int i, .int j, Q => Q (.bl (decide (i ≤ j)))
  | _, _, _ => False
def oGt : PO2
  | .int i, .int j, Q => Q (.bl (decide (j < i)))
  | _, _, _ => False
def oGe : PO2
  | .int i, .int j, Q => Q (.bl (decide (j ≤ i)))
  | _, _, _ => False
theorem lt_ok {K : Fg} : OpS K rLtA oLt := by
  intro B H x y v u Q Qp hK rx ry q k
  cases rx <;> cases ry <;> first | exact (q : False).elim | skip
  · exact .inl ⟨_, _, rfl, rfl, k _ _ H q (.refl _ _) fun A => .bl _⟩
  · exact .inr ⟨_, _, rfl, rfl, k _ _ H q (.refl _ _) fun A => .bl _⟩
theorem le_ok {K : Fg} : OpS K rLeA oLe := OpS.cg (o := oI fun i j => .bl (decide (i ≤ j))) (oi_ok fun _ _ _ _ _ => .bl _) fun x y Q h => by cases x <;> cases y <;> exact h
theorem gt_ok {K : Fg} : OpS K rGtA oGt := OpS.cg (o := oI fun i j => .bl (decide (j < i))) (oi_ok fun _ _ _ _ _ => .bl _) fun x y Q h => by cases x <;> cases y <;> exact h
theorem ge_ok {K : Fg} : OpS K rGeA oGe := OpS.cg (o := oI fun i j => .bl (decide (j ≤ i))) (oi_ok fun _ _ _ _ _ => .bl _) fun x y Q h => by cases x <;> cases y <;> exact h
end
/-! ### == of data -/
mutual
def toD : PV → PyData
  | .non => .none
  | .bl b => .bool b
  | .int i => .int i
  | .str x => .str x
  | .lst xs => .list (toDs xs)
  | .tup xs => .tuple (toDs xs)
  | _ => .none
def toDs : List PV → List PyData
  | [] => []
  | x :: xs => toD x :: toDs xs
/-- plain data of small depth, with texts that stand -/
def dat : Nat → PV → Bool
  | _, .non => true
  | _, .bl _ => true
  | _, .int _ => true
  | _, .str x => PyData.canLay0 (.str x)
  | n + 1, .lst xs => dats n xs
  | n + 1, .tup xs => dats n xs
  | _, _ => false
def dats : Nat → List PV → Bool
  | _, [] => true
  | n, x :: xs => dat n x && dats n xs
end
mutual
theorem dat_dp {B : Bg} {A : Addr → Prop} {H : Hp} : ∀ {x : PV} {v : V} (n : Nat), Rp B A H x v → dat n x = true → Dp B.K H v (toD x)
  | _, _, _, .non, _ => by rw [toD]; exact .non
  | _, _, _, .bl b, _ => by rw [toD]; exact .bl b
  | _, _, _, .int i, _ => by rw [toD]; exact .int i
  | _, _, _, .str x, _ => by rw [toD]; exact .str x
  | _, _, n + 1, .lst _ h r, e => by rw [toD]; exact .lst (.inl (.inl h)) (dats_dp n r (by rw [dat] at e; exact e))
  | _, _, n + 1, .tup h r, e => by rw [toD]; exact .tup h.sq (dats_dp n r (by rw [dat] at e; exact e))
  | _, _, 0, .lst _ h r, e => by simp [dat] at e
  | _, _, 0, .tup h r, e => by simp [dat] at e
  | _, _, n, .ty _, e => by cases n <;> simp [dat] at e
  | _, _, n, .dK _ _ _ _ _ _ _, e => by cases n <;> simp [dat] at e
  | _, _, n, .dT _ _ _ _ _ _ _, e => by cases n <;> simp [dat] at e
  | _, _, n, .ins _ _ _ _ _, e => by cases n <;> simp [dat] at e
  | _, _, n, .cls _, e => by cases n <;> simp [dat] at e
  | _, _, n, .bag, e => by cases n <;> simp [dat] at e
theorem dats_dp {B : Bg} {A : Addr → Prop} {H : Hp} : ∀ {x : List PV} {v : List V} (n : Nat), RpL B A H x v → dats n x = true → DpAll B.K H v (toDs x)
  | _, _, _, .nil, _ => by rw [toDs]; exact .nil
  | _, _, n, .cons a b, e => by
    rw [dats, Bool.and_eq_true] at e
    rw [toDs]; exact .cons (dat_dp n a e.1) (dats_dp n b e.2)
end
mutual
theorem dat_lay : ∀ (n : Nat) (x : PV), dat n x = true → PyData.canLay0 (toD x) = true ∧ PyData.depth (toD x) ≤ n
  | n, .non, _ => by cases n <;> simp [toD, PyData.canLay0, PyData.depth]
  | n, .bl b, _ => by cases n <;> simp [toD, PyData.canLay0, PyData.depth]
  | n, .int i, _ => by cases n <;> simp [toD, PyData.canLay0, PyData.depth]
  | n, .str x, e => by cases n <;> (simp only [dat] at e; simp [toD, PyData.depth, e])
  | n + 1, .lst xs, e => by
    have := dats_lay n xs (by rw [dat] at e; exact e)
    simp [toD, PyData.canLay0, PyData.depth]; exact ⟨this.1, by omega⟩
  | n + 1, .tup xs, e => by
    have := dats_lay n xs (by rw [dat] at e; exact e)
    simp [toD, PyData.canLay0, PyData.depth]; exact ⟨this.1, by omega⟩
  | 0, .lst _, e => by simp [dat] at e
  | 0, .tup _, e => by simp [dat] at e
  | n, .ty _, e => by cases n <;> simp [dat] at e
  | n, .dK _, e => by cases n <;> simp [dat] at e
  | n, .dT _, e => by cases n <;> simp [dat] at e
  | n, .ins _ _, e => by cases n <;> simp [dat] at e
  | n, .cls _, e => by cases n <;> simp [dat] at e
  | n, .bag, e => by cases n <;> simp [dat] at e
theorem dats_lay : ∀ (n : Nat) (x : List PV), dats n x = true → PyData.canLayAll0 (toDs x) = true ∧ PyData.depthAll (toDs x) ≤ n
  | n, [], _ => by simp [toDs, PyData.canLayAll0, PyData.depthAll]
  | n, x :: xs, e => by
    rw [dats, Bool.and_eq_true] at e
    have h1 := dat_lay n x e.1
    have h2 := dats_lay n xs e.2
    simp [toDs, PyData.canLayAll0, PyData.depthAll, h1.1, h2.1]; omega
end
theorem dat_sh {x : PV} (h : dat 8 x = true) : SeqAt.shaped (toD x) = true := by
  have := dat_lay 8 x h
  simp only [SeqAt.shaped, this.1, Bool.true_and, decide_eq_true_eq]; omega
/-- equal as Python says, of data -/
def peq (x y : PV) : Bool := PyData.eqv (toD x) (toD y)
def oEq : PO2 := fun x y Q => dat 8 x = true ∧ dat 8 y = true ∧ Q (.bl (peq x y))
def oNe : PO2 := fun x y Q => dat 8 x = true ∧ dat 8 y = true ∧ Q (.bl (!peq x y))
theorem eq_ok {K : Fg} : OpS K (rEqA K) oEq := by
  intro B H x y v u Q Qp hK rx ry h k
  subst hK
  exact .inr ⟨_, _, dat_dp 8 rx h.1, dat_dp 8 ry h.2.1, dat_sh h.1, dat_sh h.2.1, k _ _ H h.2.2 (.refl _ _) fun A => .bl _⟩
theorem ne_ok {K : Fg} : OpS K (rNeA K) oNe := by
  intro B H x y v u Q Qp hK rx ry h k
  subst hK
  exact .inr ⟨_, _, dat_dp 8 rx h.1, dat_dp 8 ry h.2.1, dat_sh h.1, dat_sh h.2.1, k _ _ H h.2.2 (.refl _ _) fun A => .bl _⟩
end Vl
namespace Vl
open PySem PySem.Spec L2 Lb
section
variable {X : Cx} {ks : List Kd} {a s a1 s1 a2 s2 : Bool} {e e1 e2 e3 : Expr} {es : List Expr} {p p1 p2 p3 : GE} {pa : GA} {pt pt1 pt2 : GT} {pos : Pos}
theorem and_l {a b : Bool} (h : (a && b) = true) : a = true := (Bool.and_eq_true _ _ ▸ h).1
theorem and_r {a b : Bool} (h : (a && b) = true) : b = true := (Bool.and_eq_true _ _ ▸ h).2
/-! tests -/
theorem truP_ok {B : Bg} {A : Addr → Prop} {H : Hp} {x : PV} {v : V} {Q : Bool → Prop} (r : Rp B A H x v) (h : truP x Q) : ∃ k, TruV B.K v H k ∧ Q k := by
  cases r <;> first | exact (h : False).elim | skip
  · exact ⟨_, rfl, h⟩
  · exact ⟨_, rfl, h⟩
  · exact ⟨_, rfl, h⟩
  · exact ⟨_, ⟨h.1, rfl⟩, h.2⟩
  · rename_i b vs xs n h1 r
    refine ⟨!xs.isEmpty, .inl ⟨vs, .inl (.inl h1), ?_⟩, h⟩
    cases r <;> rfl
  · rename_i b vs xs h1 r
    refine ⟨!xs.isEmpty, .inr (.inl ⟨vs, h1.sq, ?_⟩), h⟩
    cases r <;> rfl
theorem qt_tru (h : QE X ks a s e p) (he : ∀ whole, isTrue e X.env whole = (do let v ← whole; standAt e.pos; holding [v] (truthy v)) := by intro _; rfl) : QT X ks e (pTru p) :=
  PTi (pt_tru h he) fun σ H Q ⟨E, L, γ, Qp, hK, R, hp, k⟩ => by
    refine ⟨E, L, γ, _, hK, R, hp, fun x v H1 q1 x1 r1 => ?_⟩
    obtain ⟨b, hb, q⟩ := truP_ok r1 q1
    exact ⟨b, hK ▸ hb, k b H1 q x1⟩
theorem qt_w (h : QW X ks e pt) : QT X ks e pt := h.pt
theorem qw_and1 (h : QT X ks e pt) : QW X ks (.BoolOp .And [e] pos) pt := pw_and1 h
theorem qw_or1 (h : QT X ks e pt) : QW X ks (.BoolOp .Or [e] pos) pt := pw_or1 h
theorem qw_and {rest : List Expr} (h1 : QT X ks e1 pt1) (h2 : QW X ks (.BoolOp .And (e2 :: rest) pos) pt2) : QW X ks (.BoolOp .And (e1 :: e2 :: rest) pos) (pAnd pt1 pt2) :=
  PWi (pw_and h1 h2) fun σ H Q ⟨E, L, γ, Qp, hK, R, hp, k⟩ => by
    refine ⟨E, L, γ, _, hK, R, hp, fun b H1 q1 x1 => ?_⟩
    cases b with
    | true => rw [if_pos rfl]; exact ⟨E, L, γ, _, hK, R.ex x1, q1, fun b H2 q2 x2 => k b H2 q2 (x1.trans x2)⟩
    | false => exact k false H1 q1 x1
theorem qw_or {rest : List Expr} (h1 : QT X ks e1 pt1) (h2 : QW X ks (.BoolOp .Or (e2 :: rest) pos) pt2) : QW X ks (.BoolOp .Or (e1 :: e2 :: rest) pos) (pOr pt1 pt2) :=
  PWi (pw_or h1 h2) fun σ H Q ⟨E, L, γ, Qp, hK, R, hp, k⟩ => by
    refine ⟨E, L, γ, _, hK, R, hp, fun b H1 q1 x1 => ?_⟩
    cases b with
    | false => exact ⟨E, L, γ, _, hK, R.ex x1, q1, fun b H2 q2 x2 => k b H2 q2 (x1.trans x2)⟩
    | true => rw [if_pos rfl]; exact k true H1 q1 x1
theorem qt_not (h : QT X ks e pt) : QT X ks (.UnaryOp .Not e pos) (pNot pt) :=
  PTi (pt_not h) fun σ H Q ⟨E, L, γ, Qp, hK, R, hp, k⟩ => ⟨E, L, γ, _, hK, R, hp, fun b H1 q1 x1 => k _ H1 q1 x1⟩
theorem qe_andV {rest : List Expr} (h1 : QE X ks a1 s1 e1 p1) (h2 : QE X ks a2 s2 (.BoolOp .And (e2 :: rest) pos) p2) (ha : a = (a1 && a2) := by rfl) (hb : s = (s1 && s2) := by rfl) : QE X ks a s (.BoolOp .And (e1 :: e2 :: rest) pos) (pAndV p1 p2) := by
  subst ha hb
  exact PEi (pe_andT h1 h2) fun σ H Q ⟨E, L, γ, Qp, hK, R, hp, k⟩ => by
    refine ⟨E, L, γ, _, hK, R, hp, fun x v H1 q1 x1 r1 => ?_⟩
    obtain ⟨b, hb, q⟩ := truP_ok r1 q1
    refine ⟨b, hK ▸ hb, ?_⟩
    cases b with
    | true => rw [if_pos rfl]; exact ⟨E, L, γ, _, hK, R.ex x1, q, fun y u H2 q2 x2 r2 => k y u H2 q2 (x1.trans x2) (r2.anti fun c z => av_mono and_r and_r z)⟩
    | false => exact k x v H1 q x1 (r1.anti fun c z => av_mono and_l and_l z)
theorem qe_orV {rest : List Expr} (h1 : QE X ks a1 s1 e1 p1) (h2 : QE X ks a2 s2 (.BoolOp .Or (e2 :: rest) pos) p2) (ha : a = (a1 && a2) := by rfl) (hb : s = (s1 && s2) := by rfl) : QE X ks a s (.BoolOp .Or (e1 :: e2 :: rest) pos) (pOrV p1 p2) := by
  subst ha hb
  exact PEi (pe_orT h1 h2) fun σ H Q ⟨E, L, γ, Qp, hK, R, hp, k⟩ => by
    refine ⟨E, L, γ, _, hK, R, hp, fun x v H1 q1 x1 r1 => ?_⟩
    obtain ⟨b, hb, q⟩ := truP_ok r1 q1
    refine ⟨b, hK ▸ hb, ?_⟩
    cases b with
    | false => exact ⟨E, L, γ, _, hK, R.ex x1, q, fun y u H2 q2 x2 r2 => k y u H2 q2 (x1.trans x2) (r2.anti fun c z => av_mono and_r and_r z)⟩
    | true => rw [if_pos rfl]; exact k x v H1 q x1 (r1.anti fun c z => av_mono and_l and_l z)
theorem qe_one {op} (h : QE X ks a s e p) : QE X ks a s (.BoolOp op [e] pos) p := pe_one h
theorem qe_notV (h : QE X ks a s e p) : QE X ks true true (.UnaryOp .Not e pos) (pNotV p) :=
  PEi (pe_notT h) fun σ H Q ⟨E, L, γ, Qp, hK, R, hp, k⟩ => by
    refine ⟨E, L, γ, _, hK, R, hp, fun x v H1 q1 x1 r1 => ?_⟩
    obtain ⟨b, hb, q⟩ := truP_ok r1 q1
    exact ⟨b, hK ▸ hb, k _ _ H1 q x1 (.bl _)⟩
theorem qe_ifE (ht : QT X ks e pt) (h1 : QE X ks a1 s1 e1 p1) (h2 : QE X ks a2 s2 e2 p2) (ha : a = (a1 && a2) := by rfl) (hb : s = (s1 && s2) := by rfl) : QE X ks a s (.IfExp e e1 e2 pos) (pIfE pt p1 p2) := by
  subst ha hb
  exact PEi (pe_ifExp ht h1 h2) fun σ H Q ⟨E, L, γ, Qp, hK, R, hp, k⟩ => by
    refine ⟨E, L, γ, _, hK, R, hp, fun b H1 q1 x1 => ?_⟩
    cases b with
    | true => rw [if_pos rfl]; exact ⟨E, L, γ, _, hK, R.ex x1, q1, fun y u H2 q2 x2 r2 => k y u H2 q2 (x1.trans x2) (r2.anti fun c z => av_mono and_l and_l z)⟩
    | false => exact ⟨E, L, γ, _, hK, R.ex x1, q1, fun y u H2 q2 x2 r2 => k y u H2 q2 (x1.trans x2) (r2.anti fun c z => av_mono and_r and_r z)⟩
def oNeg : PV → (PV → Prop) → Prop
  | .int i, Q => Q (.int (-i))
  | _, _ => False
theorem qe_neg (h : QE X ks a s e p) : QE X ks true true (.UnaryOp .USub e pos) (pUn oNeg p) :=
  PEi (pe_un un_negA h) fun σ H Q ⟨E, L, γ, Qp, hK, R, hp, k⟩ => by
    refine ⟨E, L, γ, _, hK, R, hp, fun x v H1 q1 x1 r1 => ?_⟩
    cases r1 <;> first | exact (q1 : False).elim | skip
    exact ⟨_, rfl, k _ _ H1 q1 x1 (.int _)⟩
/-! chains of comparisons -/
def pChain (o o' : PO2) (a b c : GE) : GE := fun γ Q => a γ fun x => b γ fun y => o x y fun z => match z with | .bl k => bfi k (c γ fun w => o' y w Q) (Q (.bl false)) | _ => False
theorem chain_ok {r r' : R2} {o o' : PO2} (ho : OpS X.K r o) (ho' : OpS X.K r' o') {E : Ac} {L : List Addr} {γ : G} {σ : St} {H : Hp} {Q : VK} {Qp : PV → Prop} (hK : E.B.K = X.K) (R : Rel E L ks γ σ H) (hp : pChain o o' p1 p2 p3 γ Qp)
    (k : ∀ z t H', Qp z → Ex E.B H H' → (∀ A, Rp E.B A H' z t) → Q t H') : tChain r r' (tE X.K ks a1 s1 p1) (tE X.K ks a2 s2 p2) (tE X.K ks a s p3) σ H Q := by
  refine ⟨E, L, γ, _, hK, R, hp, fun x v H1 q1 x1 r1 => ⟨E, L, γ, _, hK, R.ex x1, q1, fun y u H2 q2 x2 r2 => ?_⟩⟩
  refine ho E.B H2 x y v u _ _ hK (r1.ex x2 av_q).q r2.q q2 fun z t H3 qz x3 rz => ?_
  have := rz fun _ => False
  cases this <;> first | exact qz.elim | skip
  rename_i b
  refine ⟨b, rfl, ?_⟩
  cases b with
  | true =>
    rw [if_pos rfl]
    refine ⟨E, L, γ, _, hK, ((R.ex x1).ex x2).ex x3, qz, fun w m H4 q4 x4 r4 => ?_⟩
    exact ho' E.B H4 y w u m Q Qp hK ((r2.ex x3 av_q).ex x4 av_q).q r4.q q4 fun z t H' qz x5 rz => k z t H' qz (x1.trans (x2.trans (x3.trans (x4.trans x5)))) rz
  | false => exact k _ _ H3 qz (x1.trans (x2.trans x3)) fun A => .bl _
theorem qe_chain {op op' : CmpOp} {r r' : R2} {o o' : PO2} (hr : OpR X (compareOp op) r) (hr' : OpR X (compareOp op') r') (ho : OpS X.K r o) (ho' : OpS X.K r' o') (h1 : QE X ks a1 s1 e1 p1) (h2 : QE X ks a2 s2 e2 p2) (h3 : QE X ks a s e3 p3)
    (hm : lastMarks [op, op'] [e2, e3] = false := by with_unfolding_all rfl) : QE X ks true true (.Compare e1 [op, op'] [e2, e3] pos) (pChain o o' p1 p2 p3) :=
  PEi (pe_chain hr hr' h1 h2 h3 hm) fun σ H Q ⟨E, L, γ, Qp, hK, R, hp, k⟩ => chain_ok ho ho' hK R hp fun z t H' qz x rz => k z t H' qz x (rz _)
theorem qt_chain {op op' : CmpOp} {r r' : R2} {o o' : PO2} (hr : OpR X (compareOp op) r) (hr' : OpR X (compareOp op') r') (ho : OpS X.K r o) (ho' : OpS X.K r' o') (h1 : QE X ks a1 s1 e1 p1) (h2 : QE X ks a2 s2 e2 p2) (h3 : QE X ks a s e3 p3)
    (hm : lastMarks [op, op'] [e2, e3] = false := by with_unfolding_all rfl) : QT X ks (.Compare e1 [op, op'] [e2, e3] pos) (pTest (pChain o o' p1 p2 p3)) :=
  PTi (pt_chain hr hr' h1 h2 h3 hm) fun σ H Q ⟨E, L, γ, Qp, hK, R, hp, k⟩ => by
    refine chain_ok ho ho' hK R hp fun z t H' qz x rz => ?_
    have := rz fun _ => False
    cases this <;> first | exact qz.elim | exact ⟨_, rfl, k _ H' qz x⟩
/-! in, is -/
def feq : PV → PV → Bool
  | .non, .non => true
  | .bl a, .bl b => a == b
  | .bl a, .int b => (if a then 1 else 0) == b
  | .int a, .bl b => a == (if b then 1 else 0)
  | .int a, .int b => a == b
  | .str a, .str b => a == b
  | _, _ => false
theorem flat_ok {B : Bg} {A : Addr → Prop} {H : Hp} {x : PV} {v : V} (r : Rp B A H x v) (h : flat1 x = true) : flatV v = true := by
  cases r <;> first | rfl | exact (Bool.false_ne_true h).elim
theorem feq_ok {B : Bg} {A : Addr → Prop} {H : Hp} {x y : PV} {v u : V} (r : Rp B A H x v) (t : Rp B A H y u) (h : flat1 x = true) (h' : flat1 y = true) : eqV v u = feq x y := by
  cases r <;> first | exact (Bool.false_ne_true h).elim | (cases t <;> first | rfl | exact (Bool.false_ne_true h').elim)
theorem feqs_ok {B : Bg} {A : Addr → Prop} {H : Hp} {x : PV} {v : V} (r : Rp B A H x v) (h : flat1 x = true) : ∀ {ys : List PV} {us : List V}, RpL B A H ys us → ys.all flat1 = true → us.all flatV = true ∧ inV v us = ys.any fun y => feq y x
  | _, _, .nil, _ => ⟨rfl, rfl⟩
  | _, _, .cons a b, h' => by
    rw [List.all_cons, Bool.and_eq_true] at h'
    have := feqs_ok r h b h'.2
    refine ⟨by rw [List.all_cons, flat_ok a h'.1, this.1]; rfl, ?_⟩
    show List.any _ _ = _
    rw [List.any_cons, List.any_cons, feq_ok a r h'.1 h, ← this.2]; rfl
def oIn (neg : Bool) : PO2
  | .str c, .str z, Q => c.cps.size = 1 ∧ Q (.bl (if neg then !decide (c.cps.toList.headD 0 ∈ z.cps.toList) else decide (c.cps.toList.headD 0 ∈ z.cps.toList)))
  | x, .lst ys, Q => flat1 x = true ∧ ys.all flat1 = true ∧ Q (.bl (if neg then !ys.any (fun y => feq y x) else ys.any fun y => feq y x))
  | x, .tup ys, Q => flat1 x = true ∧ ys.all flat1 = true ∧ Q (.bl (if neg then !ys.any (fun y => feq y x) else ys.any fun y => feq y x))
  | _, _, _ => False
theorem one_sign {c : Str} (h : c.cps.size = 1) : c = ⟨#[c.cps.toList.headD 0]⟩ := by
  obtain ⟨⟨l⟩⟩ := c
  match l, h with
  | [x], _ => rfl
theorem in_seq {K : Fg} {neg : Bool} {B : Bg} {H : Hp} {x : PV} {v : V} {ys : List PV} {us : List V} {b : Addr} {A : Addr → Prop} {Q : VK} {Qp : PV → Prop} (hK : B.K = K) (rx : Rp B A H x v) (r : RpL B A H ys us) (hs : SqL K H b us ∨ SqT K H b us)
    (h : flat1 x = true ∧ ys.all flat1 = true ∧ Qp (.bl (if neg then !ys.any (fun y => feq y x) else ys.any fun y => feq y x))) (k : ∀ z t H', Qp z → Ex B H H' → (∀ A, Rp B A H' z t) → Q t H') : rIn K neg v (.ref b) H Q := by
  obtain ⟨h1, h2, h3⟩ := h
  have := feqs_ok rx h1 r h2
  refine ⟨b, us, rfl, hs, flat_ok rx h1, this.1, ?_⟩
  rw [this.2]; exact k _ _ H h3 (.refl _ _) fun A => .bl _
theorem in_ok {K : Fg} : OpS K (rInA K) (oIn false) := by
  intro B H x y v u Q Qp hK rx ry h k
  cases ry with
  | lst n h1 r => exact .inr (in_seq hK rx r (.inl (.inl (.inl h1))) (by cases rx <;> exact h) k)
  | tup h1 r => exact .inr (in_seq hK rx r (.inr (hK ▸ h1.sq)) (by cases rx <;> exact h) k)
  | str z =>
    cases rx <;> first | exact (h : False).elim | skip
    exact .inl ⟨_, _, congrArg _ (one_sign h.1), rfl, k _ _ H h.2 (.refl _ _) fun A => .bl _⟩
  | _ => cases rx <;> exact (h : False).elim
theorem notIn_ok {K : Fg} : OpS K (rNotInA K) (oIn true) := by
  intro B H x y v u Q Qp hK rx ry h k
  cases ry with
  | lst n h1 r => exact .inr (in_seq hK rx r (.inl (.inl (.inl h1))) (by cases rx <;> exact h) k)
  | tup h1 r => exact .inr (in_seq hK rx r (.inr (hK ▸ h1.sq)) (by cases rx <;> exact h) k)
  | str z =>
    cases rx <;> first | exact (h : False).elim | skip
    exact .inl ⟨_, _, congrArg _ (one_sign h.1), rfl, k _ _ H h.2 (.refl _ _) fun A => .bl _⟩
  | _ => cases rx <;> exact (h : False).elim
def isN : PV → Bool
  | .non => true
  | _ => false
def oIs (neg : Bool) : PO2
  | x, .non, Q => Q (.bl (if neg then !isN x else isN x))
  | _, _, _ => False
theorem isN_ok {B : Bg} {A : Addr → Prop} {H : Hp} {x : PV} {v : V} (r : Rp B A H x v) : decide (v = .non) = isN x := by
  cases r <;> first | rfl | exact decide_eq_false (fun z => nomatch z)
theorem is_ok {K : Fg} : OpS K rIsA (oIs false) := by
  intro B H x y v u Q Qp hK rx ry h k
  cases ry with
  | non => refine ⟨rfl, ?_⟩; rw [isN_ok rx]; exact k _ _ H (by cases rx <;> exact h) (.refl _ _) fun A => .bl _
  | _ => cases rx <;> exact (h : False).elim
theorem isNot_ok {K : Fg} : OpS K rIsNotA (oIs true) := by
  intro B H x y v u Q Qp hK rx ry h k
  cases ry with
  | non => refine ⟨rfl, ?_⟩; rw [isN_ok rx]; exact k _ _ H (by cases rx <;> exact h) (.refl _ _) fun A => .bl _
  | _ => cases rx <;> exact (h : False).elim
/-! arguments, displays -/
theorem qa_nil : QA X ks true true [] pNil := PAi pa_nil fun σ H Q ⟨E, L, γ, Qp, hK, R, hp, k⟩ => k [] [] H hp (.refl _ _) .nil rfl
theorem qa_cons (h : QE X ks a1 s1 e p) (t : QA X ks a2 s2 es pa) (hs : starEach (e :: es) X.env = (false, eval e X.env) :: starEach es X.env := by rfl) (ha : a = (a1 && a2) := by rfl) (hb : s = (s1 && s2) := by rfl) : QA X ks a s (e :: es) (pCons p pa) := by
  subst ha hb
  exact PAi (pa_cons h t hs) fun σ H Q ⟨E, L, γ, Qp, hK, R, hp, k⟩ => by
    refine ⟨E, L, γ, _, hK, R, hp, fun x v H1 q1 x1 r1 => ⟨E, L, γ, _, hK, R.ex x1, q1, fun xs vs H2 q2 x2 r2 l2 => ?_⟩⟩
    exact k _ _ H2 q2 (x1.trans x2) (.cons ((r1.ex x2 av_q).anti fun c z => av_mono and_l and_l z) (r2.anti fun c z => av_mono and_r and_r z)) (by simp [l2])
def pTup (t : GA) : GE := fun γ Q => t γ fun xs => Q (.tup xs)
def pLst (t : GA) : GE := fun γ Q => t γ fun xs => Q (.lst xs)
theorem few {n : Nat} (h : n ≤ 1000) : n ≤ sizeLine := by rw [sizeLine_eq]; omega
theorem qe_tup {x1} (h : QA X ks a s es pa) (hn : es.length ≤ 1000 := by decide) : QE X ks a s (.Tuple es x1 pos) (pTup pa) :=
  PEi (pe_tup h) fun σ H Q ⟨E, L, γ, Qp, hK, R, hp, k⟩ => by
    refine ⟨E, L, γ, _, hK, R, hp, fun xs vs H1 q1 x1 r1 l1 => ⟨by rw [← r1.length, l1]; exact few hn, fun b nb => ?_⟩⟩
    exact k _ _ _ q1 (x1.trans (.new nb)) (Rp.newT r1 av_q nb)
theorem qe_lst (h : QA X ks a s es pa) (hn : es.length ≤ 1000 := by decide) : QE X ks a s (.List es pos) (pLst pa) :=
  PEi (pe_lst h) fun σ H Q ⟨E, L, γ, Qp, hK, R, hp, k⟩ => by
    refine ⟨E, L, γ, _, hK, R, hp, fun xs vs H1 q1 x1 r1 l1 => ⟨by rw [← r1.length, l1]; exact few hn, fun b nb => ?_⟩⟩
    exact k _ _ _ q1 (x1.trans (.new nb)) (Rp.new r1 av_q nb fun c z => av_nn (R.ex x1) z)
/-- what is new is held by nobody -/
theorem noNew {E : Ac} {L : List Addr} {γ : G} {σ : St} {H : Hp} (R : Rel E L ks γ σ H) {b : Addr} (n : H b = none) : ¬ av E L true true b := fun z => av_nn R z n
theorem RpL.more {B : Bg} {A : Addr → Prop} {H : Hp} {x : List PV} {v : List V} {b : Addr} (h : RpL B A H x v) (n : H b = none) : RpL B (fun c => A c ∨ c = b) H x v :=
  h.mv (fun _ _ h _ => h) (fun _ _ h => h) fun c z m => z.elim id fun z => absurd (z ▸ n) m
theorem Rp.more {B : Bg} {A : Addr → Prop} {H : Hp} {x : PV} {v : V} {b : Addr} (h : Rp B A H x v) (n : H b = none) : Rp B (fun c => A c ∨ c = b) H x v :=
  h.mv (fun _ _ h _ => h) (fun _ _ h => h) fun c z m => z.elim id fun z => absurd (z ▸ n) m
theorem qn_lst (h : QA X ks true true es pa) (hn : es.length ≤ 1000 := by decide) : QN X ks (.List es pos) (pLst pa) :=
  PEi (pe_lst h) fun σ H Q ⟨E, L, γ, Qp, hK, R, hp, k⟩ => by
    refine ⟨E, L, γ, _, hK, R, hp, fun xs vs H1 q1 x1 r1 l1 => ⟨by rw [← r1.length, l1]; exact few hn, fun b nb => ?_⟩⟩
    exact k _ _ _ q1 (x1.trans (.new nb)) (x1.free nb) ⟨vs, upd_same, (r1.more nb).ex (.new nb) (.inl av_q)⟩
/-! attributes, items, slices -/
def pFld (c j : Nat) (p : GE) : GE := fun γ Q => p γ fun x => match x with | .ins c' fs => c' = c ∧ getS (fs.map some) j Q | _ => False
theorem lookup_at {ws : List (Str × V)} : ∀ {ns : List Str} {j : Nat} {f : Str} {v : V}, ws.map (·.1) = ns → ns[j]? = some f → (∀ i, i < j → ns[i]? ≠ some f) → (ws.map (·.2))[j]? = some v → ws.lookup f = some v := by
  induction ws with
  | nil => intro ns j f v e h1 h2 h3; simp at h3
  | cons w ws ih =>
    intro ns j f v e h1 h2 h3
    subst e
    obtain ⟨g, u⟩ := w
    cases j with
    | zero =>
      simp at h1 h3; subst h1; subst h3
      simp [List.lookup]
    | succ j =>
      have hne : f ≠ g := fun z => h2 0 (by omega) (by simp [z])
      have : (f == g) = false := by simpa using hne
      simp only [List.lookup, this]
      exact ih rfl (by simpa using h1) (fun i hi => by simpa using h2 (i + 1) (by omega)) (by simpa using h3)
theorem getS_map {xs : List PV} {j : Nat} {Q : PV → Prop} (h : getS (xs.map some) j Q) : ∃ x, xs[j]? = some x ∧ Q x := by
  obtain ⟨x, h1, h2⟩ := getS_of h
  rw [List.getElem?_map] at h1
  cases e : xs[j]? with
  | none => rw [e] at h1; cases h1
  | some y => rw [e] at h1; simp at h1; exact ⟨x, by rw [h1], h2⟩
theorem fldn {c j : Nat} {f : Str} (h : (clsT c).2[j]? = some f ∧ ((clsT c).2.take j).all (fun g => !decide (g = f)) = true) : ∀ i, i < j → (clsT c).2[i]? ≠ some f := by
  intro i hi e
  have h3 : f ∈ (clsT c).2.take j := List.mem_of_getElem? (i := i) (by rw [List.getElem?_take, if_pos hi]; exact e)
  have := List.all_eq_true.mp h.2 f h3
  simp at this
theorem qe_fld (c j : Nat) {f : Str} (cl : Cls X.K (He.ga X.K (clsT c).1)) (na : NoAttr X.K (He.ga X.K (clsT c).1) f) (h : QE X ks a s e p) (hb : attributeBase e f X.env (eval e X.env) = eval e X.env := by rfl)
    (hf : (clsT c).2[j]? = some f ∧ ((clsT c).2.take j).all (fun g => !decide (g = f)) = true := by decide +kernel) : QE X ks a s (.Attribute e f pos) (pFld c j p) :=
  PEi (pe_fld h hb) fun σ H Q ⟨E, L, γ, Qp, hK, R, hp, k⟩ => by
    refine ⟨E, L, γ, _, hK, R, hp, fun x v H1 q1 x1 r1 => ?_⟩
    cases r1 <;> first | exact q1.elim | skip
    rename_i b dx c' ws xs vs n h1 h2 h3 r
    obtain ⟨rfl, q1⟩ := q1
    obtain ⟨y, hy, q⟩ := getS_map q1
    obtain ⟨u, hu, ru⟩ := r.get hy
    have f1 := hf.1
    have f2 := fldn hf
    have hj : j < xs.length := (List.getElem?_eq_some_iff.mp hy).1
    refine ⟨b, _, dx, ws, u, rfl, by rw [← hK]; exact h1, cl, na, lookup_at (j := j) h2 (by rw [List.getElem?_take, if_pos hj]; exact f1) (fun i hi => by rw [List.getElem?_take, if_pos (by omega)]; exact f2 i hi) (by rw [h3]; exact hu), k y u H1 q x1 ru⟩
def oIx : PO2
  | .lst xs, .int i, Q => match atI xs i with | some x => Q x | none => False
  | .tup xs, .int i, Q => match atI xs i with | some x => Q x | none => False
  | .str z, .int i, Q => z.length ≤ sizeLine ∧ match atI z.cps.toList i with | some c => Q (.str ⟨#[c]⟩) | none => False
  | _, _, _ => False
theorem RpL.atI {B : Bg} {A : Addr → Prop} {H : Hp} {x : List PV} {v : List V} (r : RpL B A H x v) {i : Int} {p : PV} (h : atI x i = some p) : ∃ u, atI v i = some u ∧ Rp B A H p u := by
  unfold L2.atI at h ⊢
  rw [r.length] at h
  cases e : ixN v.length i with
  | none => rw [e] at h; cases h
  | some j => rw [e] at h; exact r.get h
theorem ix_ok {K : Fg} : OpP K (rIx K) oIx := by
  intro B A H x y v u Q Qp hK aq nn rx ry h k
  subst hK
  cases rx <;> cases ry <;> first | exact (h : False).elim | skip
  · rename_i z i
    obtain ⟨h1, h2⟩ := h
    cases e : atI z.cps.toList i with
    | none => rw [e] at h2; exact h2.elim
    | some c => rw [e] at h2; exact .inr (.inr ⟨_, _, c, rfl, rfl, h1, e, k _ _ H h2 (.refl _ _) (.str _)⟩)
  · rename_i b vs xs n h1 r i
    cases e : atI xs i with
    | none => simp only [oIx, e] at h
    | some c =>
      simp only [oIx, e] at h
      obtain ⟨u, hu, ru⟩ := r.atI e
      exact .inl ⟨_, _, _, u, rfl, rfl, .inl (.inl h1), hu, k _ _ H h (.refl _ _) ru⟩
  · rename_i b vs xs h1 r i
    cases e : atI xs i with
    | none => simp only [oIx, e] at h
    | some c =>
      simp only [oIx, e] at h
      obtain ⟨u, hu, ru⟩ := r.atI e
      exact .inr (.inl ⟨_, _, _, u, rfl, rfl, h1.sq, hu, k _ _ H h (.refl _ _) ru⟩)
/-! slices -/
abbrev GO := G → (Option Int → Prop) → Prop
def tO (K : Fg) (ks : List Kd) (p : GO) : TO := fun σ H Q => ∃ (E : Ac) (L : List Addr) (γ : G) (Qp : Option Int → Prop), E.B.K = K ∧ Rel E L ks γ σ H ∧ p γ Qp ∧ ∀ i H', Qp i → Ex E.B H H' → Q i H'
def pNoPart : GO := fun _ Q => Q none
def pPart (p : GE) : GO := fun γ Q => p γ fun x => match x with | .int i => Q (some i) | _ => False
theorem POi {o : Option Expr} {t t' : TO} (h : PO X o t) (i : ∀ σ H Q, t' σ H Q → t σ H Q) : PO X o t' := ⟨fun pins s σ H Q I q => h.run pins s σ H Q I (i _ _ _ q)⟩
abbrev QO (X : Cx) (ks : List Kd) (o : Option Expr) (p : GO) : Prop := PO X o (tO X.K ks p)
theorem qo_none : QO X ks none pNoPart := POi po_none fun σ H Q ⟨E, L, γ, Qp, hK, R, hp, k⟩ => k none H hp (.refl _ _)
theorem qo_some (h : QE X ks a s e p) : QO X ks (some e) (pPart p) := POi (po_some h) fun σ H Q ⟨E, L, γ, Qp, hK, R, hp, k⟩ => by
  refine ⟨E, L, γ, _, hK, R, hp, fun x v H1 q1 x1 r1 => ?_⟩
  cases r1 <;> first | exact q1.elim | exact ⟨_, rfl, k _ H1 q1 x1⟩
def cutP (xs : List PV) (lo hi : Option Int) : List PV := (xs.drop (HT.sIx xs.length 0 lo)).take (HT.sIx xs.length xs.length hi - HT.sIx xs.length 0 lo)
def pSl (p : GE) (l u : GO) : GE := fun γ Q => p γ fun x => l γ fun i => u γ fun j => match x with
  | .lst xs => Q (.lst (cutP xs i j))
  | .str z => z.length ≤ sizeLine ∧ Q (.str (cutS z i j))
  | _ => False
theorem RpL.cut {B : Bg} {A : Addr → Prop} {H : Hp} {x : List PV} {v : List V} (r : RpL B A H x v) (i j : Option Int) : RpL B A H (cutP x i j) (cutV v i j) := by
  unfold cutP cutV; rw [r.length]; exact (r.drop _).take _
def rSlA (K : Fg) : V → Option Int → Option Int → Hp → VK → Prop := fun x i j H Q => rSlL K x i j H Q ∨ rSlS x i j H Q
theorem sl_A : SlR X (rSlA X.K) := SlR.or sl_list sl_str
theorem qe_sl {lo hi : Option Expr} {pl pu : GO} {q2 : Pos} (h : QE X ks a s e p) (hl : QO X ks lo pl) (hu : QO X ks hi pu) : QE X ks a s (.Subscript e (.Slice lo hi none q2) pos) (pSl p pl pu) :=
  PEi (pe_slice sl_A h hl hu) fun σ H Q ⟨E, L, γ, Qp, hK, R, hp, k⟩ => by
    refine ⟨E, L, γ, _, hK, R, hp, fun x v H1 q1 x1 r1 => ⟨E, L, γ, _, hK, R.ex x1, q1, fun i H2 q2 x2 => ⟨E, L, γ, _, hK, (R.ex x1).ex x2, q2, fun j H3 q3 x3 => ?_⟩⟩⟩
    have r3 := (r1.ex x2 av_q).ex x3 av_q
    cases r3 <;> first | exact q3.elim | skip
    · exact .inr ⟨_, rfl, q3.1, k _ _ H3 q3.2 (x1.trans (x2.trans x3)) (.str _)⟩
    · rename_i b vs xs n h1 r
      exact .inl ⟨_, _, rfl, .inl (.inl h1), fun c nc => k _ _ _ q3 (x1.trans (x2.trans (x3.trans (.new nc)))) (Rp.new (r.cut i j) av_q nc fun d z => av_nn (((R.ex x1).ex x2).ex x3) z)⟩
end
end Vl
namespace Vl
open PySem PySem.Spec L2 Lb
abbrev PCl := List PV → (PV → Prop) → Prop
def CallP (K : Fg) (r : List V → Hp → VK → Prop) (o : PCl) : Prop := ∀ (B : Bg) (A : Addr → Prop) (H : Hp) (xs : List PV) (vs : List V) (Q : VK) (Qp : PV → Prop), B.K = K → A B.q → (∀ b, A b → H b ≠ none) → RpL B A H xs vs → o xs Qp →
  (∀ z t H', Qp z → Ex B H H' → Rp B A H' z t → Q t H') → r vs H Q
def CallS (K : Fg) (r : List V → Hp → VK → Prop) (o : PCl) : Prop := ∀ (B : Bg) (H : Hp) (xs : List PV) (vs : List V) (Q : VK) (Qp : PV → Prop), B.K = K → RpL B (fun b => b = B.q) H xs vs → o xs Qp →
  (∀ z t H', Qp z → Ex B H H' → (∀ A, A B.q → (∀ b, A b → H b ≠ none) → Rp B A H' z t) → Q t H') → r vs H Q
section
variable {X : Cx} {ks : List Kd} {a s a1 s1 a2 s2 : Bool} {e e1 e2 e3 : Expr} {es : List Expr} {p p1 p2 p3 : GE} {pa : GA} {pt pt1 pt2 : GT} {pos : Pos}
theorem cbP {r : List V → Hp → VK → Prop} {o : PCl} (ho : CallP X.K r o) {e : Expr} (pe : ∀ {t : TA}, PA X es t → PE X e (tCB r t)) (h : QA X ks a s es pa) : QE X ks a s e (pCB o pa) :=
  PEi (pe h) fun σ H Q ⟨E, L, γ, Qp, hK, R, hp, k⟩ => by
    refine ⟨E, L, γ, _, hK, R, hp, fun xs vs H1 q1 x1 r1 l1 => ?_⟩
    exact ho E.B _ H1 xs vs Q Qp hK av_q (fun b z => av_nn (R.ex x1) z) r1 q1 fun z t H' qz x2 rz => k z t H' qz (x1.trans x2) rz
theorem cbS {r : List V → Hp → VK → Prop} {o : PCl} (ho : CallS X.K r o) {e : Expr} (pe : ∀ {t : TA}, PA X es t → PE X e (tCB r t)) (h : QA X ks a s es pa) : QE X ks true true e (pCB o pa) :=
  PEi (pe h) fun σ H Q ⟨E, L, γ, Qp, hK, R, hp, k⟩ => by
    refine ⟨E, L, γ, _, hK, R, hp, fun xs vs H1 q1 x1 r1 l1 => ?_⟩
    exact ho E.B H1 xs vs Q Qp hK r1.q q1 fun z t H' qz x2 rz => k z t H' qz (x1.trans x2) (rz _ av_q fun b z => av_nn (R.ex x1) z)
/-! lists of one kind -/
def pBools : List PV → Option (List Bool)
  | [] => some []
  | .bl b :: t => (pBools t).map (b :: ·)
  | _ => none
def pInts : List PV → Option (List Int)
  | [] => some []
  | .int b :: t => (pInts t).map (b :: ·)
  | _ => none
def pStrs : List PV → Option (List Str)
  | [] => some []
  | .str b :: t => (pStrs t).map (b :: ·)
  | _ => none
theorem bools_ok {B : Bg} {A : Addr → Prop} {H : Hp} : ∀ {xs : List PV} {vs : List V}, RpL B A H xs vs → ∀ {bs : List Bool}, pBools xs = some bs → vs = bs.map V.bl
  | _, _, .nil, _, e => by cases e; rfl
  | _, _, .cons (x := x) (xs := xs) r t, bs, e => by
    cases r <;> first | (cases e; done) | skip
    rw [pBools] at e
    cases q : pBools xs with
    | none => rw [q] at e; cases e
    | some cs => rw [q] at e; cases e; rw [bools_ok t q]; rfl
theorem ints_ok {B : Bg} {A : Addr → Prop} {H : Hp} : ∀ {xs : List PV} {vs : List V}, RpL B A H xs vs → ∀ {bs : List Int}, pInts xs = some bs → vs = bs.map V.int
  | _, _, .nil, _, e => by cases e; rfl
  | _, _, .cons (x := x) (xs := xs) r t, bs, e => by
    cases r <;> first | (cases e; done) | skip
    rw [pInts] at e
    cases q : pInts xs with
    | none => rw [q] at e; cases e
    | some cs => rw [q] at e; cases e; rw [ints_ok t q]; rfl
theorem strs_ok {B : Bg} {A : Addr → Prop} {H : Hp} : ∀ {xs : List PV} {vs : List V}, RpL B A H xs vs → ∀ {bs : List Str}, pStrs xs = some bs → vs = bs.map V.str
  | _, _, .nil, _, e => by cases e; rfl
  | _, _, .cons (x := x) (xs := xs) r t, bs, e => by
    cases r <;> first | (cases e; done) | skip
    rw [pStrs] at e
    cases q : pStrs xs with
    | none => rw [q] at e; cases e
    | some cs => rw [q] at e; cases e; rw [strs_ok t q]; rfl
theorem bools_map {α : Type} {f : α → Bool} : ∀ l : List α, pBools (l.map fun x => .bl (f x)) = some (l.map f)
  | [] => rfl
  | x :: l => by simp [pBools, bools_map l]
theorem ints_map {α : Type} {f : α → Int} : ∀ l : List α, pInts (l.map fun x => .int (f x)) = some (l.map f)
  | [] => rfl
  | x :: l => by simp [pInts, ints_map l]
theorem strs_map {α : Type} {f : α → Str} : ∀ l : List α, pStrs (l.map fun x => .str (f x)) = some (l.map f)
  | [] => rfl
  | x :: l => by simp [pStrs, strs_map l]
theorem RpL.ofInts {B : Bg} {A : Addr → Prop} {H : Hp} : ∀ ns : List Int, RpL B A H (ns.map .int) (ns.map .int)
  | [] => .nil
  | n :: ns => .cons (.int n) (RpL.ofInts ns)
theorem RpL.ofStrs {B : Bg} {A : Addr → Prop} {H : Hp} : ∀ ns : List Str, RpL B A H (ns.map .str) (ns.map .str)
  | [] => .nil
  | n :: ns => .cons (.str n) (RpL.ofStrs ns)
/-! the built-ins -/
def bLen : PCl
  | [.str z], Q => z.length ≤ sizeLine ∧ Q (.int z.length)
  | [.lst xs], Q => Q (.int xs.length)
  | [.tup xs], Q => Q (.int xs.length)
  | _, _ => False
theorem len_ok {K : Fg} : CallS K (rLen K) bLen := by
  intro B H xs vs Q Qp hK r h k
  subst hK
  match xs, r, h with
  | [_], .cons r .nil, h =>
    cases r <;> first | exact (h : False).elim | skip
    · exact ⟨_, _, rfl, ⟨h.1, rfl⟩, k _ _ H h.2 (.refl _ _) fun A _ _ => .int _⟩
    · rename_i b vs xs n h1 r
      exact ⟨_, vs.length, rfl, .inl ⟨vs, .inl (.inl h1), rfl⟩, k (.int xs.length) _ H h (.refl _ _) fun A _ _ => by rw [r.length]; exact .int _⟩
    · rename_i b vs xs h1 r
      exact ⟨_, vs.length, rfl, .inr ⟨vs, h1.sq, rfl⟩, k (.int xs.length) _ H h (.refl _ _) fun A _ _ => by rw [r.length]; exact .int _⟩
  | [], _, h => exact (h : False).elim
  | _ :: _ :: _, _, h => simp [bLen] at h
def isK : Kn → PV → Option Bool
  | .int, .int _ => some true
  | .int, .bl _ => some true
  | .bool, .bl _ => some true
  | .str, .str _ => some true
  | .list, .lst _ => some true
  | .tuple, .tup _ => some true
  | .dict, .dK _ => some true
  | .dict, .dT _ => some true
  | _, .non => some false
  | _, .bl _ => some false
  | _, .int _ => some false
  | _, .str _ => some false
  | _, .lst _ => some false
  | _, .tup _ => some false
  | _, .dK _ => some false
  | _, .dT _ => some false
  | _, _ => none
def bIs : PCl
  | [x, .ty t], Q => match isK t x with | some b => Q (.bl b) | none => False
  | _, _ => False
def tyn : PV → String
  | .non => "NoneType"
  | .bl _ => "bool"
  | .int _ => "int"
  | .str _ => "str"
  | .lst _ => "list"
  | .tup _ => "tuple"
  | _ => "dict"
theorem kit_ok (t : Kn) (x : PV) (b : Bool) (h : isK t x = some b) : kitB (tyn x) (knS t) = some b := by
  cases t <;> cases x <;> first | (cases h; done) | (cases h; simp only [tyn, knS]; decide +kernel)
theorem isB_ok {K : Fg} : CallS K (rIsB K) bIs := by
  intro B H xs vs Q Qp hK r h k
  subst hK
  match xs, r, h with
  | [], _, h => exact (h : False).elim
  | [_], .cons r .nil, h => cases r <;> exact (h : False).elim
  | _ :: _ :: _ :: _, .cons _ (.cons r _), h => cases r <;> exact (h : False).elim
  | [x, _], .cons rx (.cons ry .nil), h =>
    cases ry <;> first | exact (h : False).elim | skip
    rename_i t
    cases e : isK t x with
    | none => simp only [bIs, e] at h
    | some b =>
      simp only [bIs, e] at h
      have kb := kit_ok t x b e
      refine ⟨_, knS t, tyn x, b, rfl, ?_, kb, k _ _ H h (.refl _ _) fun A _ _ => .bl _⟩
      cases rx with
      | non => exact .base .non
      | bl b => exact .base (.bl b)
      | int i => exact .base (.int i)
      | str x => exact .base (.str x)
      | lst n h r => exact .base (.lst h)
      | tup h r =>
        rcases h with h | ⟨o, its, n, h, c, _⟩
        · exact .base (.tup h)
        · exact .kTuple h c
      | dK n h => exact .base (.dK h)
      | dT n h => exact .base (.dT h)
      | _ => cases t <;> cases e
def bIsC (c : Nat) : PCl
  | [.ins c' _, .cls d], Q => c' = c ∧ d = (clsT c).1 ∧ Q (.bl true)
  | _, _ => False
theorem isC_ok {K : Fg} (c : Nat) : CallS K (rIsC (He.ga K (clsT c).1)) (bIsC c) := by
  intro B H xs vs Q Qp hK r h k
  subst hK
  match xs, r, h with
  | [], _, h => exact (h : False).elim
  | [_], .cons r .nil, h => cases r <;> exact (h : False).elim
  | _ :: _ :: _ :: _, .cons r1 (.cons r _), h => cases r1 <;> cases r <;> exact (h : False).elim
  | [x, _], .cons rx (.cons ry .nil), h =>
    cases rx <;> cases ry <;> first | exact (h : False).elim | skip
    rename_i b dx c' ws xs vs n h1 h2 h3 r d
    obtain ⟨rfl, rfl, h⟩ := h
    exact ⟨b, dx, ws, rfl, h1, k _ _ H h (.refl _ _) fun A _ _ => .bl _⟩
def bAbs : PCl
  | [.int i], Q => Q (.int (if i < 0 then -i else i))
  | _, _ => False
theorem abs_ok {K : Fg} : CallS K rAbs bAbs := by
  intro B H xs vs Q Qp hK r h k
  match xs, r, h with
  | [_], .cons r .nil, h =>
    cases r <;> first | exact (h : False).elim | exact ⟨_, rfl, k _ _ H h (.refl _ _) fun A _ _ => .int _⟩
  | [], _, h => exact (h : False).elim
  | _ :: _ :: _, .cons r _, h => cases r <;> exact (h : False).elim
def bInt : PCl
  | [.int i], Q => Q (.int i)
  | [.bl b], Q => Q (.int (if b = true then 1 else 0))
  | _, _ => False
theorem int_ok {K : Fg} : CallS K rInt1 bInt := by
  intro B H xs vs Q Qp hK r h k
  match xs, r, h with
  | [_], .cons r .nil, h =>
    cases r <;> first | exact (h : False).elim | skip
    · exact .inr ⟨_, rfl, k _ _ H h (.refl _ _) fun A _ _ => .int _⟩
    · exact .inl ⟨_, rfl, k _ _ H h (.refl _ _) fun A _ _ => .int _⟩
  | [], _, h => exact (h : False).elim
  | _ :: _ :: _, .cons r _, h => cases r <;> exact (h : False).elim
def bMax2 : PCl
  | [.int i, .int j], Q => Q (.int (if j > i then j else i))
  | _, _ => False
def bMin2 : PCl
  | [.int i, .int j], Q => Q (.int (if j < i then j else i))
  | _, _ => False
theorem max2_ok {K : Fg} : CallS K rMax2 bMax2 := by
  intro B H xs vs Q Qp hK r h k
  match xs, r, h with
  | [], _, h => exact (h : False).elim
  | [_], .cons r .nil, h => cases r <;> exact (h : False).elim
  | _ :: _ :: _ :: _, .cons r1 (.cons r _), h => cases r1 <;> cases r <;> exact (h : False).elim
  | [x, _], .cons rx (.cons ry .nil), h =>
    cases rx <;> cases ry <;> first | exact (h : False).elim | exact ⟨_, _, rfl, k _ _ H h (.refl _ _) fun A _ _ => .int _⟩
theorem min2_ok {K : Fg} : CallS K rMin2 bMin2 := by
  intro B H xs vs Q Qp hK r h k
  match xs, r, h with
  | [], _, h => exact (h : False).elim
  | [_], .cons r .nil, h => cases r <;> exact (h : False).elim
  | _ :: _ :: _ :: _, .cons r1 (.cons r _), h => cases r1 <;> cases r <;> exact (h : False).elim
  | [x, _], .cons rx (.cons ry .nil), h =>
    cases rx <;> cases ry <;> first | exact (h : False).elim | exact ⟨_, _, rfl, k _ _ H h (.refl _ _) fun A _ _ => .int _⟩
def bBs (f : List Bool → Bool) : PCl
  | [.lst xs], Q => match pBools xs with | some bs => Q (.bl (f bs)) | none => False
  | _, _ => False
theorem bs_ok {K : Fg} {f : List Bool → Bool} : CallS K (fun vs H Q => ∃ (a : Addr) (bs : List Bool), vs = [V.ref a] ∧ SqL K H a (bs.map V.bl) ∧ Q (.bl (f bs)) H) (bBs f) := by
  intro B H xs vs Q Qp hK r h k
  match xs, r, h with
  | [_], .cons r .nil, h =>
    cases r <;> first | exact (h : False).elim | skip
    rename_i b vs xs n h1 r
    cases e : pBools xs with
    | none => simp only [bBs, e] at h
    | some bs =>
      simp only [bBs, e] at h
      exact ⟨b, bs, rfl, .inl (.inl (by rw [h1, bools_ok r e])), k _ _ H h (.refl _ _) fun A _ _ => .bl _⟩
  | [], _, h => exact (h : False).elim
  | _ :: _ :: _, .cons r _, h => cases r <;> exact (h : False).elim
def allB (bs : List Bool) : Bool := bs.all id
def anyB (bs : List Bool) : Bool := bs.any id
theorem all_ok {K : Fg} : CallS K (rAll K) (bBs allB) := bs_ok
theorem any_ok {K : Fg} : CallS K (rAny K) (bBs anyB) := bs_ok
def bIn (C : List Int → Prop) (f : List Int → Int) : PCl
  | [.lst xs], Q => match pInts xs with | some bs => C bs ∧ Q (.int (f bs)) | none => False
  | _, _ => False
def maxL : List Int → Int
  | [] => 0
  | [x] => x
  | x :: y :: t => if maxL (y :: t) < x then x else maxL (y :: t)
def minL : List Int → Int
  | [] => 0
  | [x] => x
  | x :: y :: t => if x < minL (y :: t) then x else minL (y :: t)
theorem maxL_spec : ∀ l : List Int, l ≠ [] → maxL l ∈ l ∧ ∀ y ∈ l, y ≤ maxL l
  | [], h => absurd rfl h
  | [x], _ => by simp [maxL]
  | x :: y :: t, _ => by
    obtain ⟨h1, h2⟩ := maxL_spec (y :: t) (by simp)
    rw [maxL]
    split
    · rename_i h
      refine ⟨by simp, fun z hz => ?_⟩
      rcases List.mem_cons.mp hz with rfl | hz
      · exact Int.le_refl _
      · exact Int.le_of_lt (Int.lt_of_le_of_lt (h2 z hz) h)
    · rename_i h
      refine ⟨List.mem_cons_of_mem _ h1, fun z hz => ?_⟩
      rcases List.mem_cons.mp hz with rfl | hz
      · exact Int.not_lt.mp h
      · exact h2 z hz
theorem minL_spec : ∀ l : List Int, l ≠ [] → minL l ∈ l ∧ ∀ y ∈ l, minL l ≤ y
  | [], h => absurd rfl h
  | [x], _ => by simp [minL]
  | x :: y :: t, _ => by
    obtain ⟨h1, h2⟩ := minL_spec (y :: t) (by simp)
    rw [minL]
    split
    · rename_i h
      refine ⟨by simp, fun z hz => ?_⟩
      rcases List.mem_cons.mp hz with rfl | hz
      · exact Int.le_refl _
      · exact Int.le_of_lt (Int.lt_of_lt_of_le h (h2 z hz))
    · rename_i h
      refine ⟨List.mem_cons_of_mem _ h1, fun z hz => ?_⟩
      rcases List.mem_cons.mp hz with rfl | hz
      · exact Int.not_lt.mp h
      · exact h2 z hz
theorem in_ints {K : Fg} {C : List Int → Prop} {f : List Int → Int} {r : List V → Hp → VK → Prop} (hr : ∀ (a : Addr) (ns : List Int) (H : Hp) (Q : VK), SqL K H a (ns.map V.int) → C ns → Q (.int (f ns)) H → r [.ref a] H Q) : CallS K r (bIn C f) := by
  intro B H xs vs Q Qp hK r h k
  match xs, r, h with
  | [_], .cons r .nil, h =>
    cases r <;> first | exact (h : False).elim | skip
    rename_i b vs xs n h1 r
    cases e : pInts xs with
    | none => simp only [bIn, e] at h
    | some bs =>
      simp only [bIn, e] at h
      exact hr b bs H Q (.inl (.inl (by rw [h1, ints_ok r e]))) h.1 (k _ _ H h.2 (.refl _ _) fun A _ _ => .int _)
  | [], _, h => exact (h : False).elim
  | _ :: _ :: _, .cons r _, h => cases r <;> exact (h : False).elim
theorem sum_ok {K : Fg} : CallS K (rSum K) (bIn (fun _ => True) List.sum) := in_ints fun a ns H Q hs _ q => ⟨a, ns, rfl, hs, q⟩
theorem max_ok {K : Fg} : CallS K (rMax K) (bIn (fun l => l ≠ []) maxL) := in_ints fun a ns H Q hs c q => ⟨a, ns, rfl, hs, List.length_pos_iff.mpr c, fun m hm hy => by
  have h1 := maxL_spec ns c
  have : m = maxL ns := Int.le_antisymm (h1.2 m hm) (hy _ h1.1)
  rw [this]; exact q⟩
theorem min_ok {K : Fg} : CallS K (rMin K) (bIn (fun l => l ≠ []) minL) := in_ints fun a ns H Q hs c q => ⟨a, ns, rfl, hs, List.length_pos_iff.mpr c, fun m hm hy => by
  have h1 := minL_spec ns c
  have : m = minL ns := Int.le_antisymm (hy _ h1.1) (h1.2 m hm)
  rw [this]; exact q⟩
def bListOf : PCl
  | [.lst xs], Q => Q (.lst xs)
  | [.tup xs], Q => Q (.lst xs)
  | _, _ => False
theorem listOf_ok {K : Fg} : CallP K (rListOf K) bListOf := by
  intro B A H xs vs Q Qp hK aq nn r h k
  subst hK
  match xs, r, h with
  | [_], .cons r .nil, h =>
    cases r <;> first | exact (h : False).elim | skip
    · rename_i b vs xs n h1 r
      exact ⟨_, _, rfl, .inl (.inl (.inl h1)), fun p np => k _ _ _ h (.new np) (Rp.new r aq np nn)⟩
    · rename_i b vs xs h1 r
      exact ⟨_, _, rfl, .inr h1.sq, fun p np => k _ _ _ h (.new np) (Rp.new r aq np nn)⟩
  | [], _, h => exact (h : False).elim
  | _ :: _ :: _, .cons r _, h => cases r <;> exact (h : False).elim
def bTupOf : PCl
  | [.lst xs], Q => Q (.tup xs)
  | [.tup xs], Q => Q (.tup xs)
  | _, _ => False
theorem tupOf_ok {K : Fg} : CallP K (rTupOf K) bTupOf := by
  intro B A H xs vs Q Qp hK aq nn r h k
  subst hK
  match xs, r, h with
  | [_], .cons r .nil, h =>
    cases r <;> first | exact (h : False).elim | skip
    · rename_i b vs xs n h1 r
      exact ⟨_, _, rfl, .inl ⟨.inl (.inl h1), fun p np => k _ _ _ h (.new np) (Rp.newT r aq np)⟩⟩
    · rename_i b vs xs h1 r
      exact ⟨_, _, rfl, .inr ⟨h1.sq, k _ _ _ h (.refl _ _) (.tup h1 r)⟩⟩
  | [], _, h => exact (h : False).elim
  | _ :: _ :: _, .cons r _, h => cases r <;> exact (h : False).elim
/-! methods of built-in types -/
def pJoin (p1 p2 : GE) : GE := fun γ Q => p1 γ fun x => match x with
  | .str a => p2 γ fun y => match y with
    | .lst ys => match pStrs ys with | some l => (l.map (·.length)).sum + l.length * a.length ≤ 16777216 ∧ Q (.str (Txt.join a l)) | none => False
    | _ => False
  | _ => False
theorem qe_join {apos : Pos} (h1 : QE X ks a1 s1 e1 p1) (h2 : QE X ks a2 s2 e2 p2) (hs : starEach [e2] X.env = [(false, eval e2 X.env)] := by rfl) (hbase : attributeBase e1 "join" X.env (eval e1 X.env) = eval e1 X.env := by rfl) (hline : (apos.endLine == pos.line) = true := by rfl) :
    QE X ks true true (.Call (.Attribute e1 "join" apos) [e2] [] pos) (pJoin p1 p2) :=
  PEi (pe_join h1 h2 hs hbase hline) fun σ H Q ⟨E, L, γ, Qp, hK, R, hp, k⟩ => by
    refine ⟨E, L, γ, _, hK, R, hp, fun x v H1 q1 x1 r1 => ?_⟩
    cases r1 <;> first | exact q1.elim | skip
    refine ⟨⟨_, rfl⟩, E, L, γ, _, hK, R.ex x1, q1, fun y u H2 q2 x2 r2 => ?_⟩
    cases r2 <;> first | exact q2.elim | skip
    rename_i b vs xs n h1 r
    cases e : pStrs xs with
    | none => simp only [e] at q2
    | some l =>
      simp only [e] at q2
      exact ⟨_, _, l, rfl, rfl, .inl (.inl (.inl (by rw [h1, strs_ok r e]))), q2.1, k _ _ H2 q2.2 (x1.trans x2) (.str _)⟩
/-! values of the written part -/
mutual
def ckV (K : Fg) : PV → Value → Bool
  | .non, u => decide (u = .none)
  | .bl b, u => decide (u = .bool b)
  | .int i, u => match u with | .int j _ => decide (i = j) | _ => false
  | .str x, u => match u with | .str y _ => decide (x = y) | _ => false
  | .tup xs, u => match u with
    | .ref a => (match K.lookup a with
      | some o => decide (o.cls = .type "tuple") && decide (o.dict = none) && (match o.data with | .seq its _ => decide (its.size ≤ 1000) && ckL K xs its.toList | _ => false)
      | none => false)
    | _ => false
  | _, _ => false
def ckL (K : Fg) : List PV → List Value → Bool
  | [], us => us.isEmpty
  | x :: xs, us => match us with | u :: us => ckV K x u && ckL K xs us | [] => false
end
theorem ck_tup {K : Fg} {xs : List PV} {a : Addr} (h : ckV K (.tup xs) (.ref a) = true) : ∃ (o : Obj) (its : Array Value) (n : Nat), K.lookup a = some o ∧ o.cls = .type "tuple" ∧ o.dict = none ∧ o.data = .seq its n ∧ its.size ≤ sizeLine ∧ ckL K xs its.toList = true := by
  rw [ckV] at h
  cases e : K.lookup a with
  | none => rw [e] at h; cases h
  | some o =>
    rw [e] at h
    simp only [Bool.and_eq_true, decide_eq_true_eq] at h
    obtain ⟨⟨h1, h2⟩, h3⟩ := h
    cases q : o.data with
    | seq its n =>
      rw [q] at h3
      simp only [Bool.and_eq_true, decide_eq_true_eq] at h3
      exact ⟨o, its, n, rfl, h1, h2, q, few h3.1, h3.2⟩
    | _ => rw [q] at h3; cases h3
mutual
theorem ckV_ok {K : Fg} {q r : Addr} {A : Addr → Prop} {H : Hp} : ∀ (x : PV) (u : Value), ckV K x u = true → ∃ v, RelV v u ∧ Rp ⟨K, q, r⟩ A H x v
  | .non, u, h => by
    rw [ckV] at h; have := of_decide_eq_true h; subst this
    exact ⟨.non, rfl, .non⟩
  | .bl b, u, h => by
    rw [ckV] at h; have := of_decide_eq_true h; subst this
    exact ⟨.bl b, rfl, .bl b⟩
  | .int i, u, h => by
    cases u <;> first | (simp [ckV] at h; done) | skip
    simp [ckV] at h; subst h
    exact ⟨.int _, ⟨_, rfl⟩, .int _⟩
  | .str x, u, h => by
    cases u <;> first | (simp [ckV] at h; done) | skip
    simp [ckV] at h; subst h
    exact ⟨.str _, ⟨_, rfl⟩, .str _⟩
  | .tup xs, u, h => by
    cases u <;> first | (simp [ckV] at h; done) | skip
    obtain ⟨o, its, n, h1, h2, _, h3, h4, h5⟩ := ck_tup h
    obtain ⟨vs, hv, hr⟩ := ckL_ok xs its.toList h5
    exact ⟨.ref _, rfl, .tup (.inr ⟨o, its, n, h1, h2, h3, h4, hv⟩) hr⟩
  | .lst _, u, h => by simp [ckV] at h
  | .dK _, u, h => by simp [ckV] at h
  | .dT _, u, h => by simp [ckV] at h
  | .ins _ _, u, h => by simp [ckV] at h
  | .cls _, u, h => by simp [ckV] at h
  | .bag, u, h => by simp [ckV] at h
  | .ty _, u, h => by simp [ckV] at h
theorem ckL_ok {K : Fg} {q r : Addr} {A : Addr → Prop} {H : Hp} : ∀ (x : List PV) (u : List Value), ckL K x u = true → ∃ v, Vals v u ∧ RpL ⟨K, q, r⟩ A H x v
  | [], [], _ => ⟨[], .nil, .nil⟩
  | [], _ :: _, h => by rw [ckL] at h; cases h
  | _ :: _, [], h => by rw [ckL] at h; cases h
  | x :: xs, u :: us, h => by
    rw [ckL, Bool.and_eq_true] at h
    obtain ⟨v, h1, h2⟩ := ckV_ok x u h.1
    obtain ⟨vs, h3, h4⟩ := ckL_ok xs us h.2
    exact ⟨v :: vs, .cons h1 h3, .cons h2 h4⟩
end
/-- a written name's value: x at K's globals -/
def GV (K : Fg) (mg : Str → Option Value) (n : Str) (x : PV) : Prop := ∃ u, mg n = some u ∧ ckV K x u = true
theorem qe_g {n : Str} {x : PV} (h : GV X.K X.mg n x) (hg : Gl X n) (hd : (n == ("__debug__" : Str)) = false := by decide) : QE X ks true true (.Name n pos) (pC x) := by
  obtain ⟨u, h1, h2⟩ := h
  obtain ⟨v, hv, _⟩ := ckV_ok (q := 0) (r := 0) (A := fun _ => False) (H := fun _ => none) x u h2
  refine qe_c (v := v) (pe_glob hg h1 hv hd) fun q r A H => ?_
  obtain ⟨v', hv', hr⟩ := ckV_ok (q := q) (r := r) (A := A) (H := H) x u h2
  have : v = v' := by
    cases hr <;> cases u <;> first | (simp [ckV] at h2; done) | skip
    all_goals (cases v <;> first | (cases hv; done) | skip)
    all_goals (simp [RelV] at hv hv' <;> simp_all)
  rw [this]; exact hr
/-- t.index(x), t a written tuple of texts -/
def pIdxT (ys : List Str) (p : GE) : GE := fun γ Q => p γ fun x => match x with | .str y => y ∈ ys ∧ Q (.int (ys.idxOf y : Nat)) | _ => False
theorem qe_idxT {apos : Pos} {n : Str} {np : Pos} {ys : List Str} (h : GV X.K X.mg n (.tup (ys.map .str))) (hg : Gl X n) (h2 : QE X ks a s e p)
    (pe : ∀ {to : TE} {t : TA}, PE X (.Name n np) to → PA X [e] t → PE X (.Call (.Attribute (.Name n np) "index" apos) [e] [] pos) (tBM X.K "tuple" (rIdxT X.K) to t)) (hs : starEach [e] X.env = [(false, eval e X.env)] := by rfl) (hd : (n == ("__debug__" : Str)) = false := by decide) :
    QE X ks true true (.Call (.Attribute (.Name n np) "index" apos) [e] [] pos) (pIdxT ys p) := by
  obtain ⟨u, h1, hc⟩ := h
  cases u <;> first | (simp [ckV] at hc; done) | skip
  rename_i b
  obtain ⟨o, its, m, e1, e2, e3, e4, e5, e6⟩ := ck_tup hc
  refine PEi (pe (pe_glob (v := .ref b) hg h1 rfl hd) (pa_cons h2 pa_nil hs)) fun σ H Q ⟨E, L, γ, Qp, hK, R, hp, k⟩ => ?_
  refine ⟨.inr (.inl ⟨rfl, o, e1, e2, e3⟩), E, L, γ, _, hK, R, hp, fun x v H1 q1 x1 r1 => ?_⟩
  cases r1 <;> first | exact q1.elim | skip
  refine ⟨b, ys, _, rfl, rfl, .inr ⟨o, its, m, e1, e2, e4, e5, ?_⟩, q1.1, k _ _ H1 q1.2 x1 (.int _)⟩
  obtain ⟨vs, hv, hr⟩ := ckL_ok (q := 0) (r := 0) (A := fun _ => False) (H := fun _ => none) _ _ e6
  have : vs = ys.map V.str := strs_ok hr (by simpa using strs_map (f := id) ys)
  rw [← this]; exact hv
end
end Vl
namespace Vl
open PySem PySem.Spec L2 Lb
/-! ### slots stored -/
section
variable {E : Ac} {L L' : List Addr} {H H' : Hp} {ks : List Kd} {γ : G} {σ : St}
/-- a store to slot i, all else as it stands; the heap may have gone on -/
theorem Rel.put {i : Nat} {k : Kd} {x : PV} {v : V} {O' : List Addr} (R : Rel E L ks γ σ H) (f : Fw E.B L H L' H') (fl : ∀ a ∈ L, a ∉ O' → ∀ o, H a = some o → H' a = some o) (old : ∀ a o, E.H0 a = some o → a ≠ E.B.q → H' a = some o) (bag : BagOk E.B H')
    (ll : ∀ a ∈ L', a ∈ L ∨ E.H0 a = none) (ln : ∀ a ∈ L', H' a ≠ none) (lL : ∀ a ∈ L, a ∈ L')
    (hk : Kr E L' H' k x v O') (hO : ∀ a ∈ O', a ∈ L') (hn : O'.Nodup) (hd : ∀ (O : Nat → List Addr), (∀ j a, a ∈ O j → a ∈ L) → (∀ j j' a, a ∈ O j → a ∈ O j' → j = j') → (∀ j y, γ[j]? = some (some y) → ∃ w, σ[j]? = some (some w) ∧ Kr E L H (kd ks j) y w (O j)) → ∀ j a, j ≠ i → a ∈ O' → a ∉ O j)
    (hi : i < ks.length) : Rel E L' (ks.set i k) (γ.set i (some x)) (σ.set i (some v)) H' where
  old := old
  onn := fun a h => f.nn a (R.onn a h)
  bag := bag
  a0 := R.a0
  aq := R.aq
  ar := R.ar
  lf := fun a h => ⟨(ll a h).elim (fun z => (R.lf a z).1) id, ln a h⟩
  len := by simp [R.len]
  sl := by
    obtain ⟨O, h1, h2, h3, h4⟩ := R.sl
    have hd' := hd O h2 h3 h1
    refine ⟨fun j => if j = i then O' else O j, fun j y hy => ?_, fun j a m => ?_, fun j j' a m m' => ?_, fun j => ?_⟩
    · by_cases hj : j = i
      · subst hj
        have hl : j < γ.length := by
          have := (List.getElem?_eq_some_iff.mp hy).1; simpa using this
        rw [List.getElem?_set_self hl] at hy
        cases hy
        refine ⟨v, by rw [List.getElem?_set_self (by rw [← R.len]; exact hl)], ?_⟩
        show Kr E L' H' _ _ _ (if j = j then O' else O j)
        rw [if_pos rfl]
        have : kd (ks.set j k) j = k := by unfold kd; simp [List.getD, hi]
        rw [this]; exact hk
      · rw [List.getElem?_set_ne (fun z => hj z.symm)] at hy
        obtain ⟨w, hw, kw⟩ := h1 j y hy
        refine ⟨w, by rw [List.getElem?_set_ne (fun z => hj z.symm)]; exact hw, ?_⟩
        show Kr E L' H' _ _ _ (if j = i then O' else O j)
        rw [if_neg hj]
        have : kd (ks.set i k) j = kd ks j := by unfold kd; simp [List.getD, List.getElem?_set_ne (fun z => hj z.symm)]
        rw [this]
        exact kw.mv (fun a o e n nl => f.st a o e nl n) f.tp f.ls fun a m o e => fl a (h2 j a m) (fun z => hd' j a hj z m) o e
    · by_cases hj : j = i
      · simp only [if_pos hj] at m; exact hO a m
      · simp only [if_neg hj] at m; exact lL a (h2 j a m)
    · by_cases hj : j = i <;> by_cases hj' : j' = i
      · rw [hj, hj']
      · simp only [if_pos hj, if_neg hj'] at m m'; exact absurd m' (hd' j' a hj' m)
      · simp only [if_neg hj, if_pos hj'] at m m'; exact absurd m (hd' j a hj m')
      · simp only [if_neg hj, if_neg hj'] at m m'; exact h3 j j' a m m'
    · by_cases hj : j = i
      · simp only [if_pos hj]; exact hn
      · simp only [if_neg hj]; exact h4 j
/-- a plain value to a slot -/
theorem Rel.set {i : Nat} {k : Kd} {x : PV} {v : V} (R : Rel E L ks γ σ H) (hk : Kr E L H k x v []) (hi : i < ks.length) : Rel E L (ks.set i k) (γ.set i (some x)) (σ.set i (some v)) H :=
  R.put (.refl _ _ _) (fun _ _ _ _ h => h) R.old R.bag (fun _ h => .inl h) (fun a h => (R.lf a h).2) (fun _ h => h) hk (fun _ h => nomatch h) List.nodup_nil (fun _ _ _ _ _ _ _ h => nomatch h) hi
theorem set_same {ks : List Kd} {i : Nat} {k : Kd} (h : ks[i]? = some k) : ks.set i k = ks := by
  apply List.ext_getElem?
  intro j
  by_cases hj : i = j
  · subst hj; rw [List.getElem?_set_self (List.getElem?_eq_some_iff.mp h).1, h]
  · rw [List.getElem?_set_ne hj]
/-- slots forgotten -/
def wipeG (γ : G) : List Nat → G
  | [] => γ
  | v :: vs => (wipeG γ vs).set v none
theorem wipeG_some {γ : G} {i : Nat} {x : PV} : ∀ {vs : List Nat}, (wipeG γ vs)[i]? = some (some x) → γ[i]? = some (some x) ∧ i ∉ vs
  | [], h => ⟨h, by simp⟩
  | v :: vs, h => by
    unfold wipeG at h
    by_cases hi : v = i
    · subst hi
      by_cases hv : v < (wipeG γ vs).length
      · rw [List.getElem?_set_self hv] at h; cases h
      · rw [List.getElem?_eq_none (by simpa using hv)] at h; cases h
    · rw [List.getElem?_set_ne hi] at h
      obtain ⟨h1, h2⟩ := wipeG_some h
      exact ⟨h1, by simp only [List.mem_cons, not_or]; exact ⟨fun e => hi e.symm, h2⟩⟩
theorem wipeG_length (γ : G) : ∀ vs : List Nat, (wipeG γ vs).length = γ.length
  | [] => rfl
  | v :: vs => by unfold wipeG; rw [List.length_set, wipeG_length γ vs]
theorem wipe_at {σ : St} {i : Nat} : ∀ {vs : List Nat}, i ∉ vs → (wipe σ vs)[i]? = σ[i]?
  | [], _ => rfl
  | v :: vs, h => by
    simp only [List.mem_cons, not_or] at h
    unfold wipe
    rw [List.getElem?_set_ne (fun z => h.1 z.symm)]
    exact wipe_at h.2
theorem wipe_in {σ : St} {i : Nat} : ∀ {vs : List Nat}, i ∈ vs → i < σ.length → (wipe σ vs)[i]? = some none
  | [], h, _ => nomatch h
  | v :: vs, h, hl => by
    unfold wipe
    by_cases hi : v = i
    · subst hi; rw [List.getElem?_set_self (by rw [wipe_length]; exact hl)]
    · rw [List.getElem?_set_ne hi]
      exact wipe_in ((List.mem_cons.mp h).elim (fun z => absurd z.symm hi) id) hl
theorem Rel.wipe (R : Rel E L ks γ σ H) (vs : List Nat) : Rel E L ks (wipeG γ vs) (wipe σ vs) H where
  old := R.old
  onn := R.onn
  bag := R.bag
  a0 := R.a0
  aq := R.aq
  ar := R.ar
  lf := R.lf
  len := by rw [wipeG_length, wipe_length]; exact R.len
  sl := by
    obtain ⟨O, h1, h2, h3, h4⟩ := R.sl
    refine ⟨O, fun j y hy => ?_, h2, h3, h4⟩
    obtain ⟨e, n⟩ := wipeG_some hy
    obtain ⟨v, hv, k⟩ := h1 j y e
    exact ⟨v, by rw [wipe_at n]; exact hv, k⟩
def SameS (js : List Nat) (σ σ' : St) : Prop := σ'.length = σ.length ∧ ∀ i, i ∉ js → σ'[i]? = σ[i]?
theorem SameS.refl (js : List Nat) (σ : St) : SameS js σ σ := ⟨rfl, fun _ _ => rfl⟩
theorem SameS.trans {js : List Nat} {σ σ1 σ2 : St} (a : SameS js σ σ1) (b : SameS js σ1 σ2) : SameS js σ σ2 := ⟨b.1.trans a.1, fun i h => (b.2 i h).trans (a.2 i h)⟩
theorem SameS.set {js : List Nat} {σ : St} {i : Nat} {v : Option V} (h : i ∈ js) : SameS js σ (σ.set i v) := ⟨by simp, fun j n => List.getElem?_set_ne (fun z => n (by rw [← z]; exact h))⟩
theorem SameS.wipe {js vs : List Nat} {σ σ' : St} (h : SameS js (L2.wipe σ vs) σ') (s : ∀ j ∈ js, j ∈ vs) : L2.wipe σ' vs = L2.wipe σ vs := by
  have hl : σ'.length = σ.length := by rw [h.1, wipe_length]
  apply List.ext_getElem?
  intro i
  by_cases hi : i ∈ vs
  · by_cases hn : i < σ.length
    · rw [wipe_in hi hn, wipe_in hi (by omega)]
    · rw [List.getElem?_eq_none (by rw [wipe_length]; omega), List.getElem?_eq_none (by rw [wipe_length]; omega)]
  · rw [wipe_at hi, h.2 i (fun z => hi (s i z)), wipe_at hi]
end
/-! ### targets -/
abbrev GG := PV → G → (G → Prop) → Prop
abbrev GGs := List PV → G → (G → Prop) → Prop
def tG (K : Fg) (ks : List Kd) (a s : Bool) (js : List Nat) (g : GG) : TG := fun v σ H Q => ∃ (E : Ac) (L : List Addr) (γ : G) (x : PV) (Qp : G → Prop), E.B.K = K ∧ Rel E L ks γ σ H ∧ Rp E.B (av E L a s) H x v ∧ g x γ Qp ∧
  ∀ γ' σ', Qp γ' → Rel E L ks γ' σ' H → SameS js σ σ' → Q σ' H
def tGs (K : Fg) (ks : List Kd) (a s : Bool) (js : List Nat) (g : GGs) : TGs := fun v σ H Q => ∃ (E : Ac) (L : List Addr) (γ : G) (x : List PV) (Qp : G → Prop), E.B.K = K ∧ Rel E L ks γ σ H ∧ RpL E.B (av E L a s) H x v ∧ g x γ Qp ∧
  ∀ γ' σ', Qp γ' → Rel E L ks γ' σ' H → SameS js σ σ' → Q σ' H
def pgName (i : Nat) : GG := fun x γ Q => Q (γ.set i (some x))
def pgImm (g : GG) : GG := fun x γ Q => imm x = true ∧ g x γ Q
def pgsNil : GGs := fun xs γ Q => match xs with | [] => Q γ | _ => False
def pgsCons (g : GG) (t : GGs) : GGs := fun xs γ Q => match xs with | x :: xs => g x γ fun γ1 => t xs γ1 Q | [] => False
def pgTup (t : GGs) : GG := fun x γ Q => match x with | .tup xs => t xs γ Q | _ => False
def pgLst (t : GGs) : GG := fun x γ Q => match x with | .lst xs => t xs γ Q | _ => False
section
variable {X : Cx} {ks : List Kd} {a s : Bool} {js : List Nat} {tg e : Expr} {es : List Expr} {g : GG} {gs : GGs} {pos : Pos}
theorem PGi {t t' : TG} (h : PG X tg t) (i : ∀ v σ H Q, t' v σ H Q → t v σ H Q) : PG X tg t' := ⟨fun pins s σ H v u Q I r q => h.run pins s σ H v u Q I r (i _ _ _ _ q)⟩
theorem PGsi {t t' : TGs} (h : PGs X es t) (i : ∀ v σ H Q, t' v σ H Q → t v σ H Q) : PGs X es t' := ⟨fun pins s σ H v u Q I r q => h.run pins s σ H v u Q I r (i _ _ _ _ q)⟩
abbrev QG (X : Cx) (ks : List Kd) (a s : Bool) (js : List Nat) (tg : Expr) (g : GG) : Prop := PG X tg (tG X.K ks a s js g)
abbrev QGs (X : Cx) (ks : List Kd) (a s : Bool) (js : List Nat) (es : List Expr) (g : GGs) : Prop := PGs X es (tGs X.K ks a s js g)
/-- what a slot of a kind takes -/
def takes (k : Kd) (a s : Bool) : Bool := match k with
  | .sh => a && s
  | .bor => s
  | _ => false
theorem takes_ok {E : Ac} {L : List Addr} {H : Hp} {k : Kd} {x : PV} {v : V} (h : takes k a s = true) (r : Rp E.B (av E L a s) H x v) : Kr E L H k x v [] := by
  cases k with
  | sh => rw [takes, Bool.and_eq_true] at h; exact ⟨rfl, by rw [h.1, h.2] at r; exact r⟩
  | bor => have h : s = true := h; subst h; exact ⟨rfl, r.anti fun c z => av_mono (a' := false) (s' := true) (fun z => nomatch z) (fun _ => rfl) z⟩
  | _ => cases h
theorem getElem?_kd {ks : List Kd} {i : Nat} {k : Kd} (h : ks[i]? = some k) : kd ks i = k := by unfold kd; simp [List.getD, h]
theorem qg_name {i : Nat} {k : Kd} (hg : PG X tg (gName i)) (hk : ks[i]? = some k := by rfl) (ht : takes k a s = true := by rfl) (hj : i ∈ js := by decide) : QG X ks a s js tg (pgName i) :=
  PGi hg fun v σ H Q ⟨E, L, γ, x, Qp, hK, R, r, hp, q⟩ => q _ _ hp (by
    have := R.set (i := i) (takes_ok ht r) (List.getElem?_eq_some_iff.mp hk).1
    rw [set_same hk] at this; exact this) (.set hj)
theorem qg_imm (h : QG X ks true true js tg g) : QG X ks a s js tg (pgImm g) :=
  PGi h fun v σ H Q ⟨E, L, γ, x, Qp, hK, R, r, hp, q⟩ => ⟨E, L, γ, x, Qp, hK, R, r.im hp.1, hp.2, q⟩
theorem qgs_nil : QGs X ks a s js [] pgsNil :=
  PGsi pgs_nil fun v σ H Q ⟨E, L, γ, x, Qp, hK, R, r, hp, q⟩ => by
    cases r with
    | nil => exact ⟨rfl, q _ _ hp R (.refl _ _)⟩
    | cons _ _ => exact (hp : False).elim
theorem qgs_cons (h : QG X ks a s js e g) (t : QGs X ks a s js es gs) (hs : (assignEach (e :: es) X.env).map (·.2) = assign e X.env :: (assignEach es X.env).map (·.2) := by rfl) : QGs X ks a s js (e :: es) (pgsCons g gs) :=
  PGsi (pgs_cons h t hs) fun v σ H Q ⟨E, L, γ, x, Qp, hK, R, r, hp, q⟩ => by
    cases r with
    | nil => exact (hp : False).elim
    | cons r1 r2 => exact ⟨_, _, rfl, E, L, γ, _, _, hK, R, r1, hp, fun γ1 σ1 q1 R1 s1 => ⟨E, L, γ1, _, _, hK, R1, r2, q1, fun γ2 σ2 q2 R2 s2 => q _ _ q2 R2 (s1.trans s2)⟩⟩
theorem pgs_len {gs : GGs} {n : Nat} : True := trivial
theorem qg_tup {k : Nat} {n : Nat} (hc : X.calm = true) (h : QGs X ks a s js es gs) (hl : ∀ xs γ Q, gs xs γ Q → xs.length = n) (hn : (assignEach es X.env).length = n := by rfl) (hst : (assignEach es X.env).findIdx? (·.1) = none := by rfl) : QG X ks a s js (.Tuple es k pos) (pgTup gs) :=
  PGi (pg_tup hc h hn hst) fun v σ H Q ⟨E, L, γ, x, Qp, hK, R, r, hp, q⟩ => by
    cases r with
    | tup h1 r => exact ⟨_, _, rfl, hK ▸ h1.sq, by rw [← r.length]; exact hl _ _ _ hp, E, L, γ, _, Qp, hK, R, r, hp, q⟩
    | _ => exact (hp : False).elim
theorem qg_lst {k : Nat} {n : Nat} (hc : X.calm = true) (h : QGs X ks a s js es gs) (hl : ∀ xs γ Q, gs xs γ Q → xs.length = n) (hn : (assignEach es X.env).length = n := by rfl) (hst : (assignEach es X.env).findIdx? (·.1) = none := by rfl) : QG X ks a s js (.Tuple es k pos) (pgLst gs) :=
  PGi (pg_lst hc h hn hst) fun v σ H Q ⟨E, L, γ, x, Qp, hK, R, r, hp, q⟩ => by
    cases r with
    | lst _ h1 r => exact ⟨_, _, rfl, .inl (.inl h1), by rw [← r.length]; exact hl _ _ _ hp, E, L, γ, _, Qp, hK, R, r, hp, q⟩
    | _ => exact (hp : False).elim
theorem gl0 : ∀ xs γ Q, pgsNil xs γ Q → xs.length = 0
  | [], _, _, _ => rfl
  | _ :: _, _, _, h => (h : False).elim
/-- a pure target asks for its continuation -/
def Mono (gs : GGs) (n : Nat) : Prop := ∀ xs γ Q, gs xs γ Q → xs.length = n
def MonoG (g : GG) : Prop := ∀ x γ (Q : G → Prop), g x γ Q → ∃ γ', Q γ'
theorem mg_name {i : Nat} : MonoG (pgName i) := fun _ _ _ h => ⟨_, h⟩
theorem mg_imm (h : MonoG g) : MonoG (pgImm g) := fun x γ Q k => h x γ Q k.2
theorem ml_nil : Mono pgsNil 0 := gl0
theorem ml_cons {n : Nat} (h : MonoG g) (t : Mono gs n) : Mono (pgsCons g gs) (n + 1) := fun xs γ Q k => by
  cases xs with
  | nil => exact (k : False).elim
  | cons x xs =>
    obtain ⟨γ', q⟩ := h _ _ _ (show g x γ _ from k)
    simp [t _ _ _ q]
theorem mg_tup {n : Nat} (h : Mono gs n) (hh : ∀ xs γ (Q : G → Prop), gs xs γ Q → ∃ γ', Q γ') : MonoG (pgTup gs) := fun x γ Q k => by
  cases x <;> first | exact (k : False).elim | exact hh _ _ _ k
theorem me_nil : ∀ xs γ (Q : G → Prop), pgsNil xs γ Q → ∃ γ', Q γ'
  | [], γ, _, h => ⟨γ, h⟩
  | _ :: _, _, _, h => (h : False).elim
theorem me_cons (h : MonoG g) (t : ∀ xs γ (Q : G → Prop), gs xs γ Q → ∃ γ', Q γ') : ∀ xs γ (Q : G → Prop), pgsCons g gs xs γ Q → ∃ γ', Q γ'
  | [], _, _, k => (k : False).elim
  | x :: xs, γ, Q, k => by
    obtain ⟨γ1, q⟩ := h _ _ _ (show g x γ _ from k)
    exact t _ _ _ q
end
/-! ### what is walked -/
structure ItOk (E : Ac) (L : List Addr) (H : Hp) (a : Bool) (xs : List PV) (J : It) : Prop where
  ex : ∃ P : List Addr → Hp → Prop, P L H ∧ (∀ L H L' H', P L H → Fw E.B L H L' H' → P L' H') ∧
    (∀ i L H, P L H → i < xs.length → J.go i H ∧ ∀ v H', J.yld i H v H' → Ex E.B H H' ∧ ∃ x, xs[i]? = some x ∧ Rp E.B (av E L a true) H' x v) ∧ ∀ i L H, P L H → xs.length ≤ i → J.stop i H
def tI (K : Fg) (ks : List Kd) (a : Bool) (p : GA) : TI := fun σ H R => ∃ (E : Ac) (L : List Addr) (γ : G) (Qp : List PV → Prop), E.B.K = K ∧ Rel E L ks γ σ H ∧ p γ Qp ∧ ∀ xs J H', Qp xs → Ex E.B H H' → ItOk E L H' a xs J → R J H'
abbrev QI (X : Cx) (ks : List Kd) (a : Bool) (tg e : Expr) (p : GA) : Prop := PI X tg e (tI X.K ks a p)
section
variable {X : Cx} {ks : List Kd} {a s a1 a2 : Bool} {tg e e1 e2 : Expr} {es : List Expr} {p p1 p2 : GE} {pa : GA} {pos : Pos}
theorem PIi {t t' : TI} (h : PI X tg e t) (i : ∀ σ H R, t' σ H R → t σ H R) : PI X tg e t' := ⟨fun pins s σ H R I q => h.run pins s σ H R I (i _ _ _ q)⟩
def pItL (p : GE) : GA := fun γ Q => p γ fun x => match x with | .lst xs => Q xs | _ => False
def pItT (p : GE) : GA := fun γ Q => p γ fun x => match x with | .tup xs => Q xs | _ => False
def chars (z : Str) : List PV := z.cps.toList.map fun c => .str ⟨#[c]⟩
def pItS (p : GE) : GA := fun γ Q => p γ fun x => match x with | .str z => Q (chars z) | _ => False
def upTo (i : Int) (n : Nat) : List PV := (List.range n).map fun k => .int (i + (k : Nat))
def pRng (p : GE) : GA := fun γ Q => p γ fun x => match x with | .int j => (-(2 ^ 62) ≤ j ∧ j < 2 ^ 62) ∧ Q (upTo 0 j.toNat) | _ => False
def downTo (n : Nat) : List PV := (List.range n).map fun k => .int ((n : Int) - 1 - (k : Nat))
def pRevR (p : GE) : GA := fun γ Q => p γ fun x => match x with | .int j => (-(2 ^ 62) ≤ j ∧ j < 2 ^ 62) ∧ Q (downTo j.toNat) | _ => False
/-- a list that is not changed meanwhile -/
def LstP (E : Ac) (a : Bool) (b : Addr) (xs : List PV) (vs : List V) : List Addr → Hp → Prop := fun L H => H b = some (.lst vs) ∧ b ∉ L ∧ b ≠ E.B.q ∧ RpL E.B (av E L a true) H xs vs
theorem LstP.fw {E : Ac} {a : Bool} {b : Addr} {xs : List PV} {vs : List V} {L L' : List Addr} {H H' : Hp} (h : LstP E a b xs vs L H) (f : Fw E.B L H L' H') : LstP E a b xs vs L' H' :=
  ⟨f.st _ _ h.1 h.2.1 h.2.2.1, fun z => (f.ls b z).elim h.2.1 (fun e => by rw [h.1] at e; cases e), h.2.2.1, h.2.2.2.fw f⟩
def TupP (E : Ac) (a : Bool) (b : Addr) (xs : List PV) (vs : List V) : List Addr → Hp → Prop := fun L H => STp E.B.K H b vs ∧ RpL E.B (av E L a true) H xs vs
theorem TupP.fw {E : Ac} {a : Bool} {b : Addr} {xs : List PV} {vs : List V} {L L' : List Addr} {H H' : Hp} (h : TupP E a b xs vs L H) (f : Fw E.B L H L' H') : TupP E a b xs vs L' H' :=
  ⟨h.1.elim (fun h => .inl (f.tp _ _ h)) .inr, h.2.fw f⟩
theorem nav {E : Ac} {L : List Addr} {a : Bool} {b : Addr} (n : ¬ av E L a true b) : b ∉ L ∧ b ≠ E.B.q := ⟨fun z => n (.inr (.inr ⟨rfl, z⟩)), fun z => n (.inl z)⟩
theorem sq_fun {K : Fg} {H : Hp} {b : Addr} {vs ws : List V} (h : H b = some (.lst vs)) (hK : True) (k : SqL K H b ws) (nk : K.lookup b = none) : vs = ws := by
  rcases k with (k | ⟨o, k⟩) | ⟨o, its, n, k, _⟩
  · rw [h] at k; cases k; rfl
  · rw [h] at k; cases k
  · rw [nk] at k; cases k
theorem qi_lst (h : QE X ks a true e p) : QI X ks a tg e (pItL p) :=
  PIi (pi_list h) fun σ H R ⟨E, L, γ, Qp, hK, Rl, hp, k⟩ => by
    refine ⟨E, L, γ, _, hK, Rl, hp, fun x v H1 q1 x1 r1 => ?_⟩
    cases r1 <;> first | exact q1.elim | skip
    rename_i b vs xs n h1 r
    refine ⟨b, rfl, ⟨vs, .inl (.inl h1)⟩, k xs _ H1 q1 x1 ⟨LstP E a b xs vs, ⟨h1, (nav n).1, (nav n).2, r⟩, fun _ _ _ _ h f => h.fw f, fun i L H h hi => ?_, fun i L H h hi => ?_⟩⟩
    · obtain ⟨u, hu, ru⟩ := h.2.2.2.get (List.getElem?_eq_getElem hi)
      refine ⟨⟨vs, u, .inl (.inl h.1), hu⟩, fun v H' ⟨e1, e2⟩ => ?_⟩
      subst e1
      have := e2 vs (.inl (.inl h.1))
      rw [hu] at this; cases this
      exact ⟨.refl _ _, _, List.getElem?_eq_getElem hi, ru⟩
    · exact ⟨vs, .inl (.inl h.1), by rw [← h.2.2.2.length]; exact hi⟩
theorem qi_tup (h : QE X ks a true e p) : QI X ks a tg e (pItT p) :=
  PIi (pi_tup h) fun σ H R ⟨E, L, γ, Qp, hK, Rl, hp, k⟩ => by
    refine ⟨E, L, γ, _, hK, Rl, hp, fun x v H1 q1 x1 r1 => ?_⟩
    cases r1 <;> first | exact q1.elim | skip
    rename_i b vs xs h1 r
    refine ⟨b, rfl, ⟨vs, hK ▸ h1.sq⟩, k xs _ H1 q1 x1 ⟨TupP E a b xs vs, ⟨h1, r⟩, fun _ _ _ _ h f => h.fw f, fun i L H h hi => ?_, fun i L H h hi => ?_⟩⟩
    · obtain ⟨u, hu, ru⟩ := h.2.get (List.getElem?_eq_getElem hi)
      refine ⟨⟨vs, u, hK ▸ h.1.sq, hu⟩, fun v H' ⟨e1, e2⟩ => ?_⟩
      subst e1
      have := e2 vs (hK ▸ h.1.sq)
      rw [hu] at this; cases this
      exact ⟨.refl _ _, _, List.getElem?_eq_getElem hi, ru⟩
    · exact ⟨vs, hK ▸ h.1.sq, by rw [← h.2.length]; exact hi⟩
theorem qi_str (h : QE X ks a s e p) : QI X ks true tg e (pItS p) :=
  PIi (pi_str h) fun σ H R ⟨E, L, γ, Qp, hK, Rl, hp, k⟩ => by
    refine ⟨E, L, γ, _, hK, Rl, hp, fun x v H1 q1 x1 r1 => ?_⟩
    cases r1 <;> first | exact q1.elim | skip
    rename_i z
    have hl : (chars z).length = z.cps.size := by simp [chars]
    refine ⟨z, rfl, k _ _ H1 q1 x1 ⟨fun _ _ => True, trivial, fun _ _ _ _ _ _ => trivial, fun i L H _ hi => ⟨by show i < z.cps.size; omega, fun v H' ⟨e1, c, e2, e3⟩ => ?_⟩, fun i L H _ hi => by show z.cps.size ≤ i; omega⟩⟩
    subst e1; subst e3
    exact ⟨.refl _ _, .str ⟨#[c]⟩, by simp [chars, e2], .str _⟩
theorem qi_rng {q1 : Pos} (hg : Gl X "range") (hm : X.mg "range" = none) (h : QE X ks a s e p) (hs : starEach [e] X.env = [(false, eval e X.env)] := by rfl) : QI X ks true tg (.Call (.Name "range" q1) [e] [] pos) (pRng p) :=
  PIi (pi_range1 hg hm (pa_cons h pa_nil hs) hs) fun σ H R ⟨E, L, γ, Qp, hK, Rl, hp, k⟩ => by
    refine ⟨E, L, γ, _, hK, Rl, hp, fun x v H1 q1 x1 r1 => ?_⟩
    cases r1 <;> first | exact q1.elim | skip
    rename_i j
    have hl : (upTo 0 j.toNat).length = j.toNat := by simp [upTo]
    refine ⟨j, rfl, q1.1.1, q1.1.2, k _ _ H1 q1.2 x1 ⟨fun _ _ => True, trivial, fun _ _ _ _ _ _ => trivial, fun i L H _ hi => ⟨by show i < j.toNat; omega, fun v H' ⟨e1, e2⟩ => ?_⟩, fun i L H _ hi => by show j.toNat ≤ i; omega⟩⟩
    subst e1; subst e2
    exact ⟨.refl _ _, .int (0 + (i : Nat)), by simp [upTo, List.getElem?_map, List.getElem?_range (show i < j.toNat by omega)], .int _⟩
theorem qi_revR {q1 q2 p2 : Pos} (hg : Gl X "reversed") (hm : X.mg "reversed" = none) (hg' : Gl X "range") (hm' : X.mg "range" = none) (h : QE X ks a s e p)
    (hi : ∀ {t : TE}, PE X e t → PI X tg (.Call (.Name "reversed" q1) [.Call (.Name "range" q2) [e] [] p2] [] pos) (iRevR (tRg1 t))) : QI X ks true tg (.Call (.Name "reversed" q1) [.Call (.Name "range" q2) [e] [] p2] [] pos) (pRevR p) :=
  PIi (hi h) fun σ H R ⟨E, L, γ, Qp, hK, Rl, hp, k⟩ => by
    refine ⟨E, L, γ, _, hK, Rl, hp, fun x v H1 q1 x1 r1 => ?_⟩
    cases r1 <;> first | exact q1.elim | skip
    rename_i j
    have hl : (downTo j.toNat).length = j.toNat := by simp [downTo]
    refine ⟨j, rfl, by decide, by decide, q1.1.1, q1.1.2, ?_⟩
    have e0 : (j - 0).toNat = j.toNat := by simp
    rw [e0]
    refine k _ _ H1 q1.2 x1 ⟨fun _ _ => True, trivial, fun _ _ _ _ _ _ => trivial, fun i L H _ hi => ⟨by show i < j.toNat; omega, fun v H' ⟨e1, e2⟩ => ?_⟩, fun i L H _ hi => by show j.toNat ≤ i; omega⟩
    subst e1; subst e2
    refine ⟨.refl _ _, .int ((j.toNat : Int) - 1 - (i : Nat)), by simp [downTo, List.getElem?_map, List.getElem?_range (show i < j.toNat by omega)], ?_⟩
    have e3 : (0 : Int) + ((j.toNat : Nat) : Int) - 1 + ((i : Nat) : Int) * -1 = (j.toNat : Int) - 1 - (i : Nat) := by omega
    rw [e3]; exact .int _
end
end Vl
namespace Vl
open PySem PySem.Spec L2 Lb
/-! ### comprehensions -/
def pYes : GT := fun _ Q => Q true
def lcP (g : GG) (t : GT) (e : GE) (γ : G) : List PV → (List PV → Prop) → Prop
  | [], Q => Q []
  | x :: xs, Q => g x γ fun γ2 => t γ2 fun b => bfi b (e γ2 fun y => lcP g t e γ xs fun ys => Q (y :: ys)) (lcP g t e γ xs Q)
def pLc (vs : List Nat) (it : GA) (g : GG) (t : GT) (e : GE) : GE := fun γ Q => it γ fun xs => xs.length ≤ sizeLine ∧ lcP g t e (wipeG γ vs) xs fun ys => Q (.lst ys)
section
variable {X : Cx} {ks : List Kd} {a s a1 a2 : Bool} {tg e : Expr} {ifs : List Expr} {p : GE} {pa : GA} {g : GG} {pt : GT} {pos : Pos} {js vs : List Nat}
abbrev QTs (X : Cx) (ks : List Kd) (ifs : List Expr) (p : GT) : Prop := PTs X ifs (tT X.K ks p)
theorem qts_nil : QTs X ks [] pYes := ⟨fun pins s σ H Q I ⟨E, L, γ, Qp, hK, R, hp, k⟩ => pts_nil.run pins s σ H Q I (k true H hp (.refl _ _))⟩
theorem qts_one (h : QT X ks e pt) : QTs X ks [e] pt := pts_one h
/-- a new object's address joins the own ones -/
theorem Rel.more {E : Ac} {L : List Addr} {γ : G} {σ : St} {H H' : Hp} {D : Addr} (R : Rel E L ks γ σ H) (x : Ex E.B H H') (n : H D = none) (m : H' D ≠ none) : Rel E (D :: L) ks γ σ H' where
  old := (R.ex x).old
  onn := (R.ex x).onn
  bag := (R.ex x).bag
  a0 := R.a0
  aq := R.aq
  ar := R.ar
  lf := fun a h => by
    rcases List.mem_cons.mp h with rfl | h
    · refine ⟨?_, m⟩
      cases q : E.H0 a with
      | none => rfl
      | some o => exact absurd n (R.onn a (by rw [q]; exact nofun))
    · exact ⟨(R.lf a h).1, x.nn a (R.lf a h).2⟩
  len := R.len
  sl := by
    obtain ⟨O, h1, h2, h3, h4⟩ := R.sl
    refine ⟨O, fun i y hx => ?_, fun i a m => List.mem_cons_of_mem _ (h2 i a m), h3, h4⟩
    obtain ⟨v, hv, k⟩ := h1 i y hx
    exact ⟨v, hv, k.mv (fun a u e n _ => x.st a u e n) x.tp (fun a m => (List.mem_cons.mp m).elim (fun z => .inr (by rw [z]; exact n)) .inl) fun a m u e => x.st a u e (R.lq (h2 i a m))⟩
theorem Fw.more {B : Bg} {L : List Addr} {H H' : Hp} {D : Addr} (x : Ex B H H') (n : H D = none) : Fw B L H (D :: L) H' where
  st := fun a u e _ m => x.st a u e m
  tp := x.tp
  nn := x.nn
  ls := fun a m => (List.mem_cons.mp m).elim (fun z => .inr (by rw [z]; exact n)) .inl
theorem Ex.inner {B : Bg} {H H' : Hp} {D : Addr} {o : HO} (x : Ex B H H') (n : H D = none) (b : BagOk B H) : Ex B H (upd H' D o) := by
  have k : ∀ a u, H a = some u → a ≠ D := fun a u e => ne_of_none e n
  refine ⟨fun a u e m => by rw [upd_ne (k a u e)]; exact x.st a u e m, fun a u e => by rw [upd_ne (k a _ e)]; exact x.tp a u e, fun a h => ?_, fun _ => ?_⟩
  · by_cases z : a = D
    · rw [z, upd_same]; exact nofun
    · rw [upd_ne z]; exact x.nn a h
  · have hb := x.bg b
    obtain ⟨_, _, _, _, h1, h2, _⟩ := b
    exact hb.stay (fun u e => by rw [upd_ne (k _ _ h1)]; exact e) fun u e => by rw [upd_ne (k _ _ h2)]; exact e
theorem RpL.inner {E : Ac} {L : List Addr} {a : Bool} {H : Hp} {D : Addr} {o : HO} {x : List PV} {v : List V} (h : RpL E.B (av E (D :: L) a true) H x v) (nt : ∀ vs, H D ≠ some (.tup vs)) : RpL E.B (av E (D :: L) a true) (upd H D o) x v :=
  h.mv (fun b u e n => by rw [upd_ne (fun z => n (.inr (.inr ⟨rfl, by rw [z]; simp⟩)))]; exact e) (fun b u e => by rw [upd_ne (fun z => nt u (by rw [← z]; exact e))]; exact e) fun _ z _ => z
theorem Rp.inner {E : Ac} {L : List Addr} {a : Bool} {H : Hp} {D : Addr} {o : HO} {x : PV} {v : V} (h : Rp E.B (av E (D :: L) a true) H x v) (nt : ∀ vs, H D ≠ some (.tup vs)) : Rp E.B (av E (D :: L) a true) (upd H D o) x v :=
  h.mv (fun b u e n => by rw [upd_ne (fun z => n (.inr (.inr ⟨rfl, by rw [z]; simp⟩)))]; exact e) (fun b u e => by rw [upd_ne (fun z => nt u (by rw [← z]; exact e))]; exact e) fun _ z _ => z
/-- the loop of a list comprehension by plain values -/
theorem lc_ok {E : Ac} {L : List Addr} {γ : G} {σ : St} {H : Hp} {Q : VK} {Qp : PV → Prop} (hK : E.B.K = X.K) (R : Rel E L ks γ σ H) (hp : pLc vs pa g pt p γ Qp) (hj : ∀ j ∈ js, j ∈ vs)
    (k : ∀ ys acc D H', Qp (.lst ys) → Ex E.B H H' → H D = none → H' D = some (.lst acc) → RpL E.B (av E (D :: L) a true) H' ys acc → Q (.ref D) H') :
    tLc (tI X.K ks a1 pa) (tG X.K ks a1 true js g) (tT X.K ks pt) (tE X.K ks a true p) vs σ H Q := by
  refine ⟨E, L, γ, _, hK, R, hp, fun xs J H1 ⟨hz, hq⟩ x1 ⟨P, p0, pf, pg, ps⟩ D nD => ?_⟩
  have R1 := R.ex x1
  have nH : H D = none := x1.free nD
  refine ⟨fun i m H => m = xs.length - i ∧ ∃ acc ys Qk, Ex E.B H1 H ∧ H D = some (.lst acc) ∧ RpL E.B (av E (D :: L) a true) H ys acc ∧ ys.length ≤ i ∧ lcP g pt p (wipeG γ vs) (xs.drop i) Qk ∧ ∀ zs, Qk zs → Qp (.lst (ys ++ zs)), ⟨_, rfl, [], [], _, .new nD, upd_same, .nil, by simp, hq, fun zs q => q⟩, ?_⟩
  rintro i m H2 ⟨rfl, acc, ys, Qk, x2, hD, ra, hl, hk, hQ⟩
  have Rm : Rel E (D :: L) ks γ σ H2 := R1.more x2 nD (by rw [hD]; exact nofun)
  have f2 : Fw E.B L H1 (D :: L) H2 := .more x2 nD
  by_cases hi : i < xs.length
  · right
    obtain ⟨go, yl⟩ := pg i (D :: L) H2 (pf _ _ _ _ p0 f2) hi
    refine ⟨go, fun H' => ∃ m', m' < xs.length - i ∧ (m' = xs.length - (i + 1) ∧ ∃ acc ys Qk, Ex E.B H1 H' ∧ H' D = some (.lst acc) ∧ RpL E.B (av E (D :: L) a true) H' ys acc ∧ ys.length ≤ i + 1 ∧ lcP g pt p (wipeG γ vs) (xs.drop (i + 1)) Qk ∧ ∀ zs, Qk zs → Qp (.lst (ys ++ zs))), fun H' h => h, fun v H3 hy => ?_⟩
    obtain ⟨x3, y, hy, ry⟩ := yl v H3 hy
    have hd : xs.drop i = y :: xs.drop (i + 1) := by
      rw [List.drop_eq_getElem_cons hi]
      rw [List.getElem?_eq_getElem hi] at hy; cases hy; rfl
    rw [hd] at hk
    have R3 := (Rm.ex x3).wipe vs
    refine ⟨E, D :: L, wipeG γ vs, y, _, hK, R3, ry, hk, fun γ2 σ2 q2 R4 ss => ⟨ss.wipe hj, E, D :: L, γ2, _, hK, R4, q2, fun b H4 q4 x4 => ?_⟩⟩
    have hDl : D ∈ D :: L := by simp
    cases b with
    | false =>
      refine ⟨_, by omega, rfl, acc, ys, Qk, x2.trans (x3.trans x4), x4.st _ _ (x3.st _ _ hD (Rm.lq hDl)) (Rm.lq hDl), (ra.ex x3 av_q).ex x4 av_q, by omega, q4, hQ⟩
    | true =>
      show if true = true then _ else _
      rw [if_pos rfl]
      refine ⟨E, D :: L, γ2, _, hK, R4.ex x4, q4, fun z t H5 q5 x5 r5 => ?_⟩
      have x6 := x3.trans (x4.trans x5)
      have hD5 := x6.st _ _ hD (Rm.lq hDl)
      have nt : ∀ vs, H5 D ≠ some (.tup vs) := fun vs => by rw [hD5]; exact nofun
      have ra5 := ra.ex x6 av_q
      refine ⟨acc, hD5, by rw [← ra.length]; omega, _, by omega, rfl, acc ++ [t], ys ++ [z], _, (x2.trans x6).inner nD R1.bag, upd_same, (ra5.inner nt).append (.cons (r5.inner nt) .nil), by simp; omega, q5, fun zs q => by simpa using hQ _ q⟩
  · left
    have hi := Nat.not_lt.mp hi
    refine ⟨ps i (D :: L) H2 (pf _ _ _ _ p0 f2) hi, ?_⟩
    rw [List.drop_eq_nil_of_le hi] at hk
    exact k ys acc D H2 (by simpa using hQ [] hk) (x1.trans x2) nH hD ra
theorem av_cons {E : Ac} {L : List Addr} {a s : Bool} {D c : Addr} (h : av E L a s c) : av E (D :: L) a s c := by
  rcases h with h | h | ⟨h, m⟩
  · exact .inl h
  · exact .inr (.inl h)
  · exact .inr (.inr ⟨h, List.mem_cons_of_mem _ m⟩)
theorem qe_lc {elt iter : Expr} {scope : Scope} {own : List (Str × Nat)} (pe : ∀ {wi : TI} {g : TG} {tt : TT} {te : TE}, PI X tg iter wi → (∀ (s : Shared) (H : Hp) (C : Addr) (cl : List (Str × Addr)) (fp : List Addr), PG (X.blk s H scope (compEnvC scope cl C X.env) fp) tg g) →
      (∀ (s : Shared) (H : Hp) (C : Addr) (cl : List (Str × Addr)) (fp : List Addr), PTs (X.blk s H scope (compEnvC scope cl C X.env) fp) ifs tt) → (∀ (s : Shared) (H : Hp) (C : Addr) (cl : List (Str × Addr)) (fp : List Addr), PE (X.blk s H scope (compEnvC scope cl C X.env) fp) elt te) → PE X e (tLc wi g tt te (own.map (·.2))))
    (hi : QI X ks a1 tg iter pa) (hg : ∀ (s : Shared) (H : Hp) (C : Addr) (cl : List (Str × Addr)) (fp : List Addr), QG (X.blk s H scope (compEnvC scope cl C X.env) fp) ks a1 true (own.map (·.2)) tg g)
    (ht : ∀ (s : Shared) (H : Hp) (C : Addr) (cl : List (Str × Addr)) (fp : List Addr), QTs (X.blk s H scope (compEnvC scope cl C X.env) fp) ks ifs pt) (he : ∀ (s : Shared) (H : Hp) (C : Addr) (cl : List (Str × Addr)) (fp : List Addr), QE (X.blk s H scope (compEnvC scope cl C X.env) fp) ks a true elt p) :
    QE X ks a true e (pLc (own.map (·.2)) pa g pt p) :=
  PEi (pe hi hg ht he) fun σ H Q ⟨E, L, γ, Qp, hK, R, hp, k⟩ => lc_ok hK R hp (fun _ h => h) fun ys acc D H' q x n h r => k _ _ H' q x (.lst (fun z => av_nn R z n) h (r.anti fun c z => av_cons z))
theorem qn_lc {elt iter : Expr} {scope : Scope} {own : List (Str × Nat)} (pe : ∀ {wi : TI} {g : TG} {tt : TT} {te : TE}, PI X tg iter wi → (∀ (s : Shared) (H : Hp) (C : Addr) (cl : List (Str × Addr)) (fp : List Addr), PG (X.blk s H scope (compEnvC scope cl C X.env) fp) tg g) →
      (∀ (s : Shared) (H : Hp) (C : Addr) (cl : List (Str × Addr)) (fp : List Addr), PTs (X.blk s H scope (compEnvC scope cl C X.env) fp) ifs tt) → (∀ (s : Shared) (H : Hp) (C : Addr) (cl : List (Str × Addr)) (fp : List Addr), PE (X.blk s H scope (compEnvC scope cl C X.env) fp) elt te) → PE X e (tLc wi g tt te (own.map (·.2))))
    (hi : QI X ks a1 tg iter pa) (hg : ∀ (s : Shared) (H : Hp) (C : Addr) (cl : List (Str × Addr)) (fp : List Addr), QG (X.blk s H scope (compEnvC scope cl C X.env) fp) ks a1 true (own.map (·.2)) tg g)
    (ht : ∀ (s : Shared) (H : Hp) (C : Addr) (cl : List (Str × Addr)) (fp : List Addr), QTs (X.blk s H scope (compEnvC scope cl C X.env) fp) ks ifs pt) (he : ∀ (s : Shared) (H : Hp) (C : Addr) (cl : List (Str × Addr)) (fp : List Addr), QE (X.blk s H scope (compEnvC scope cl C X.env) fp) ks true true elt p) :
    QN X ks e (pLc (own.map (·.2)) pa g pt p) :=
  PEi (pe hi hg ht he) fun σ H Q ⟨E, L, γ, Qp, hK, R, hp, k⟩ => lc_ok hK R hp (fun _ h => h) fun ys acc D H' q x n h r => k _ _ H' q x n ⟨acc, h, r.anti fun c z => z.elim av_cons fun z => .inr (.inr ⟨rfl, by rw [z]; simp⟩)⟩
end
end Vl
namespace Vl
open PySem PySem.Spec L2 Lb
def pNext : GS := fun D γ => D.nx γ
def pSeq (p q : GS) : GS := fun D γ => p { D with nx := q D } γ
def pRet (e : GE) : GS := fun D γ => e γ fun x => D.rt x γ
def pRetN : GS := fun D γ => D.rt .non γ
def pIf (t : GT) (p q : GS) : GS := fun D γ => t γ fun b => bfi b (p D γ) (q D γ)
def pNever : GS := fun _ _ => False
def pBreak : GS := fun D γ => D.bk γ
def pCont : GS := fun D γ => D.ct γ
def pDrop (e : GE) : GS := fun D γ => e γ fun _ => D.nx γ
def pSet (i : Nat) (e : GE) : GS := fun D γ => e γ fun x => D.nx (γ.set i (some x))
def pAsg (e : GE) (g : GG) : GS := fun D γ => e γ fun x => g x γ D.nx
def pAsg2 (e : GE) (g g' : GG) : GS := fun D γ => e γ fun x => g x γ fun γ1 => g' x γ1 D.nx
def pPar (i j : Nat) (t : GA) : GS := fun D γ => t γ fun xs => match xs with | [x, y] => D.nx ((γ.set i (some x)).set j (some y)) | _ => False
def pPar3 (i j l : Nat) (t : GA) : GS := fun D γ => t γ fun xs => match xs with | [x, y, z] => D.nx (((γ.set i (some x)).set j (some y)).set l (some z)) | _ => False
def pAug (i : Nat) (o : PO2) (e : GE) : GS := fun D γ => getS γ i fun x => e γ fun y => o x y fun z => D.nx (γ.set i (some z))
def forP (g : GG) (b : GS) (D : GD) : List PV → G → Prop
  | [], γ => D.nx γ
  | x :: xs, γ => g x γ fun γ1 => b { D with nx := forP g b D xs, ct := forP g b D xs, bk := D.nx } γ1
def pFor (it : GA) (g : GG) (b : GS) : GS := fun D γ => it γ fun xs => forP g b D xs γ
def pWhile (c : GT) (b : GS) : GS := fun D γ => ∃ W : Nat → G → Prop, (∃ m, W m γ) ∧ ∀ m γ, W m γ → c γ fun k => bfi k (b { D with nx := fun γ' => ∃ m', m' < m ∧ W m' γ', ct := fun γ' => ∃ m', m' < m ∧ W m' γ', bk := D.nx } γ) (D.nx γ)
def pApp (i : Nat) (e : GE) : GS := fun D γ => getS γ i fun x => match x with | .lst xs => e γ fun y => xs.length < sizeLine ∧ D.nx (γ.set i (some (.lst (xs ++ [y])))) | _ => False
def pSetIx (i : Nat) (k e : GE) : GS := fun D γ => e γ fun y => getS γ i fun x => k γ fun n => match x, n with
  | .lst xs, .int n => (match ixN xs.length n with | some j => D.nx (γ.set i (some (.lst (xs.set j y)))) | none => False)
  | _, _ => False
def pFldS (c j : Nat) (e : GE) : GS := fun D γ => e γ fun y => getS γ 0 fun x => match x with
  | .ins c' fs => c' = c ∧ j ≤ fs.length ∧ D.nx (γ.set 0 (some (.ins c' (if j = fs.length then fs ++ [y] else fs.set j y))))
  | _ => False
section
variable {X : Cx} {ks ks' ks1 kl : List Kd} {a s a1 s1 a2 s2 : Bool} {e e1 e2 tg : Expr} {es : List Expr} {st : Stmt} {sts sts' : List Stmt} {p p1 p2 : GE} {pa : GA} {pt : GT} {ps q : GS} {g g' : GG} {pos : Pos} {js js' : List Nat}
theorem qb_nil : QB X ks ks kl [] pNext := PSsi pss_nil fun D σ H ⟨E, L, γ, Dp, hK, R, hp, nx, rt, bk, ct⟩ => nx L γ σ H (.refl _ _ _) R hp
theorem qb_one (h : QS X ks ks' kl st ps) : QB X ks ks' kl [st] ps := pss_one h
theorem qb_cons (h1 : QS X ks ks1 kl st ps) (h2 : QB X ks1 ks' kl sts q) : QB X ks ks' kl (st :: sts) (pSeq ps q) :=
  PSsi (pss_cons h1 h2) fun D σ H ⟨E, L, γ, Dp, hK, R, hp, nx, rt, bk, ct⟩ =>
    ⟨E, L, γ, { Dp with nx := q Dp }, hK, R, hp, fun L1 γ1 σ1 H1 f1 R1 q1 => ⟨E, L1, γ1, Dp, hK, R1, q1, fun L2 γ2 σ2 H2 f2 R2 q2 => nx L2 γ2 σ2 H2 (f1.trans f2) R2 q2, rt, fun L2 γ2 σ2 H2 f2 R2 q2 => bk L2 γ2 σ2 H2 (f1.trans f2) R2 q2, fun L2 γ2 σ2 H2 f2 R2 q2 => ct L2 γ2 σ2 H2 (f1.trans f2) R2 q2⟩, rt, bk, ct⟩
/-- a block that never ends behind its last statement may stand for any kinds -/
theorem qs_ret (h : QE X ks true s e p) : QS X ks ks' kl (.Return (some e) pos) (pRet p) :=
  PSi (ps_ret h) fun D σ H ⟨E, L, γ, Dp, hK, R, hp, nx, rt, bk, ct⟩ => ⟨E, L, γ, _, hK, R, hp, fun x v H1 q1 x1 r1 =>
    rt x γ v H1 ⟨r1.anti fun c z => .inr (.inl ⟨rfl, z⟩), (R.ex x1).old, (R.ex x1).onn, (R.ex x1).bag⟩ q1⟩
theorem qs_retN : QS X ks ks' kl (.Return none pos) pRetN :=
  PSi ps_retN fun D σ H ⟨E, L, γ, Dp, hK, R, hp, nx, rt, bk, ct⟩ => rt .non γ .non H ⟨.non, R.old, R.onn, R.bag⟩ hp
theorem qs_never : QS X ks ks' kl st pNever := PSi ps_never fun D σ H ⟨E, L, γ, Dp, hK, R, hp, _⟩ => hp
theorem qs_pass : QS X ks ks kl (.Pass pos) pNext := PSi ps_pass fun D σ H ⟨E, L, γ, Dp, hK, R, hp, nx, rt, bk, ct⟩ => nx L γ σ H (.refl _ _ _) R hp
theorem qs_break : QS X ks ks' ks (.Break pos) pBreak := PSi ps_break fun D σ H ⟨E, L, γ, Dp, hK, R, hp, nx, rt, bk, ct⟩ => bk L γ σ H (.refl _ _ _) R hp
theorem qs_expr (h : QE X ks a s e p) (hs : swapsWith e none pos.line X.env = pure false := by rfl) : QS X ks ks kl (.Expr e pos) (pDrop p) :=
  PSi (ps_expr h hs) fun D σ H ⟨E, L, γ, Dp, hK, R, hp, nx, rt, bk, ct⟩ => ⟨E, L, γ, _, hK, R, hp, fun x v H1 q1 x1 r1 => nx L γ σ H1 x1.fw (R.ex x1) q1⟩
theorem qs_if (ht : QT X ks e pt) (h1 : QB X ks ks' kl sts ps) (h2 : QB X ks ks' kl sts' q) : QS X ks ks' kl (.If e sts sts' pos) (pIf pt ps q) :=
  PSi (ps_if ht h1 h2) fun D σ H ⟨E, L, γ, Dp, hK, R, hp, nx, rt, bk, ct⟩ => by
    refine ⟨E, L, γ, _, hK, R, hp, fun b H1 q1 x1 => ?_⟩
    have f : ∀ {L' H'}, Fw E.B L H1 L' H' → Fw E.B L H L' H' := fun f => Fw.trans x1.fw f
    cases b with
    | true => show if true = true then _ else _; rw [if_pos rfl]; exact ⟨E, L, γ, Dp, hK, R.ex x1, q1, fun L2 γ2 σ2 H2 f2 R2 q2 => nx L2 γ2 σ2 H2 (f f2) R2 q2, rt, fun L2 γ2 σ2 H2 f2 R2 q2 => bk L2 γ2 σ2 H2 (f f2) R2 q2, fun L2 γ2 σ2 H2 f2 R2 q2 => ct L2 γ2 σ2 H2 (f f2) R2 q2⟩
    | false => exact ⟨E, L, γ, Dp, hK, R.ex x1, q1, fun L2 γ2 σ2 H2 f2 R2 q2 => nx L2 γ2 σ2 H2 (f f2) R2 q2, rt, fun L2 γ2 σ2 H2 f2 R2 q2 => bk L2 γ2 σ2 H2 (f f2) R2 q2, fun L2 γ2 σ2 H2 f2 R2 q2 => ct L2 γ2 σ2 H2 (f f2) R2 q2⟩
/-- x = e -/
theorem qs_setG {i : Nat} {k : Kd} (pe : ∀ {t : TE}, PE X e t → PS X st (tAsg t (gName i))) (h : QE X ks a s e p) (hk : ks[i]? = some k := by rfl) (ht : takes k a s = true := by rfl) : QS X ks ks kl st (pSet i p) :=
  PSi (pe h) fun D σ H ⟨E, L, γ, Dp, hK, R, hp, nx, rt, bk, ct⟩ => ⟨E, L, γ, _, hK, R, hp, fun x v H1 q1 x1 r1 => nx L _ _ H1 x1.fw (by
    have := (R.ex x1).set (i := i) (takes_ok ht r1) (List.getElem?_eq_some_iff.mp hk).1
    rw [set_same hk] at this; exact this) q1⟩
/-- x = a new list or dict of one's own -/
theorem qs_setN {i : Nat} (pe : ∀ {t : TE}, PE X e t → PS X st (tAsg t (gName i))) (h : QN X ks e p) (hi : i < ks.length := by decide) : QS X ks (ks.set i .own) kl st (pSet i p) :=
  PSi (pe h) fun D σ H ⟨E, L, γ, Dp, hK, R, hp, nx, rt, bk, ct⟩ => ⟨E, L, γ, _, hK, R, hp, fun x b H1 q1 x1 nb ob => by
    have hb : H1 b ≠ none := by cases x <;> first | exact (ob : False).elim | (obtain ⟨_, h, _⟩ := ob; rw [h]; exact nofun) | (obtain ⟨_, _, h, _⟩ := ob; rw [h]; exact nofun)
    have R1 := R.more x1 nb hb
    have nL : b ∉ L := fun z => (R.lf b z).2 nb
    refine nx (b :: L) _ _ H1 (.more x1 nb) (R.put (i := i) (k := .own) (x := x) (v := .ref b) (O' := [b]) (.more x1 nb) (fun c m _ o e => x1.st c o e (R.lq m)) R1.old R1.bag (fun c h => (List.mem_cons.mp h).elim (fun z => .inr (by rw [z]; exact (R1.lf b (by simp)).1)) .inl) (fun a h => (R1.lf a h).2) (fun _ h => List.mem_cons_of_mem _ h) ⟨b, rfl, rfl, ?_⟩ (fun c m => by simp at m; simp [m]) (by simp) ?_ hi) q1
    · exact ob.mv (fun _ _ h _ => h) (fun _ _ h => h) (fun c z _ => by
        rcases z with z | z | ⟨_, z⟩
        · exact .inl (.inl z)
        · exact .inl (.inr (.inl z))
        · exact (List.mem_cons.mp z).elim .inr fun z => .inl (.inr (.inr ⟨rfl, z⟩))) fun _ h => h
    · intro O h2 h3 h1 j c hj hc m
      simp at hc; subst hc
      exact nL (h2 j c m)⟩
/-- targets -/
theorem qs_asg (pe : ∀ {t : TE} {g : TG}, PE X e t → PG X tg g → PS X st (tAsg t g)) (h : QE X ks a s e p) (hg : QG X ks a s js tg g) : QS X ks ks kl st (pAsg p g) :=
  PSi (pe h hg) fun D σ H ⟨E, L, γ, Dp, hK, R, hp, nx, rt, bk, ct⟩ => ⟨E, L, γ, _, hK, R, hp, fun x v H1 q1 x1 r1 => ⟨E, L, γ, x, _, hK, R.ex x1, r1, q1, fun γ' σ' q' R' _ => nx L γ' σ' H1 x1.fw R' q'⟩⟩
theorem qs_asg2 {tg' : Expr} (pe : ∀ {t : TE} {g g' : TG}, PE X e t → PG X tg g → PG X tg' g' → PS X st (tAsg2 t g g')) (h : QE X ks a s e p) (hg : QG X ks a s js tg g) (hg' : QG X ks a s js' tg' g') : QS X ks ks kl st (pAsg2 p g g') :=
  PSi (pe h hg hg') fun D σ H ⟨E, L, γ, Dp, hK, R, hp, nx, rt, bk, ct⟩ => ⟨E, L, γ, _, hK, R, hp, fun x v H1 q1 x1 r1 => ⟨E, L, γ, x, _, hK, R.ex x1, r1, q1, fun γ' σ' q' R' _ => ⟨E, L, γ', x, _, hK, R', r1, q', fun γ2 σ2 q2 R2 _ => nx L γ2 σ2 H1 x1.fw R2 q2⟩⟩⟩
theorem qs_par {i j : Nat} {k k' : Kd} (pe : ∀ {t : TA}, PA X es t → PS X st (tPar i j t)) (h : QA X ks a s es pa) (hk : ks[i]? = some k := by rfl) (ht : takes k a s = true := by rfl) (hk' : ks[j]? = some k' := by rfl) (ht' : takes k' a s = true := by rfl) : QS X ks ks kl st (pPar i j pa) :=
  PSi (pe h) fun D σ H ⟨E, L, γ, Dp, hK, R, hp, nx, rt, bk, ct⟩ => ⟨E, L, γ, _, hK, R, hp, fun xs vs H1 q1 x1 r1 _ => by
    match xs, vs, r1, q1 with
    | [x, y], _, .cons (v := v) r1 (.cons (v := w) r2 .nil), q1 =>
      refine ⟨v, w, rfl, nx L _ _ H1 x1.fw ?_ q1⟩
      have h1 := (R.ex x1).set (i := i) (takes_ok ht r1) (List.getElem?_eq_some_iff.mp hk).1
      rw [set_same hk] at h1
      have h2 := h1.set (i := j) (takes_ok ht' r2) (List.getElem?_eq_some_iff.mp hk').1
      rw [set_same hk'] at h2; exact h2⟩
theorem qs_par3 {i j l : Nat} {k k' k2 : Kd} (pe : ∀ {t : TA}, PA X es t → PS X st (tPar3 i j l t)) (h : QA X ks a s es pa) (hk : ks[i]? = some k := by rfl) (ht : takes k a s = true := by rfl) (hk' : ks[j]? = some k' := by rfl) (ht' : takes k' a s = true := by rfl) (hk2 : ks[l]? = some k2 := by rfl) (ht2 : takes k2 a s = true := by rfl) : QS X ks ks kl st (pPar3 i j l pa) :=
  PSi (pe h) fun D σ H ⟨E, L, γ, Dp, hK, R, hp, nx, rt, bk, ct⟩ => ⟨E, L, γ, _, hK, R, hp, fun xs vs H1 q1 x1 r1 _ => by
    match xs, vs, r1, q1 with
    | [x, y, z], _, .cons (v := v) r1 (.cons (v := w) r2 (.cons (v := u) r3 .nil)), q1 =>
      refine ⟨v, w, u, rfl, nx L _ _ H1 x1.fw ?_ q1⟩
      have h1 := (R.ex x1).set (i := i) (takes_ok ht r1) (List.getElem?_eq_some_iff.mp hk).1
      rw [set_same hk] at h1
      have h2 := h1.set (i := j) (takes_ok ht' r2) (List.getElem?_eq_some_iff.mp hk').1
      rw [set_same hk'] at h2
      have h3 := h2.set (i := l) (takes_ok ht2 r3) (List.getElem?_eq_some_iff.mp hk2).1
      rw [set_same hk2] at h3; exact h3⟩
/-- x += e, ints and texts -/
def IpS (K : Fg) (r : TIp) (o : PO2) : Prop := OpS K r o
def oIAdd : PO2
  | .int i, .int j, Q => Q (.int (i + j))
  | .str x, .str y, Q => x.length + y.length ≤ sizeLine ∧ Q (.str (x ++ y))
  | _, _, _ => False
theorem iadd_ok {K : Fg} : OpS K ipAddA oIAdd := by
  intro B H x y v u Q Qp hK rx ry h k
  cases rx <;> cases ry <;> first | exact (h : False).elim | skip
  · exact .inl ⟨_, _, rfl, rfl, k _ _ H h (.refl _ _) fun A => .int _⟩
  · exact .inr ⟨_, _, rfl, rfl, h.1, k _ _ H h.2 (.refl _ _) fun A => .str _⟩
theorem qs_aug {i : Nat} {k : Kd} {r : TIp} {o : PO2} (ho : OpS X.K r o) (pe : ∀ {t : TE}, PE X e t → PS X st (tAug i t r)) (h : QE X ks a s e p) (hk : ks[i]? = some k := by rfl) (ht : takes k true true = true := by rfl) : QS X ks ks kl st (pAug i o p) :=
  PSi (pe h) fun D σ H ⟨E, L, γ, Dp, hK, R, hp, nx, rt, bk, ct⟩ => by
    obtain ⟨x, hx, q⟩ := getS_of hp
    obtain ⟨v, hv, rv⟩ := R.read hx
    refine ⟨v, hv, E, L, γ, _, hK, R, q, fun y u H1 q1 x1 r1 => ?_⟩
    refine ho E.B H1 x y v u _ _ hK (rv.ex x1 av_q).q r1.q q1 fun z t H2 qz x2 rz => nx L _ _ H2 (x1.trans x2).fw ?_ qz
    have := ((R.ex x1).ex x2).set (i := i) (takes_ok ht (rz (av E L true true))) (List.getElem?_eq_some_iff.mp hk).1
    rw [set_same hk] at this; exact this
/-! loops -/
theorem qs_for {iter : Expr} (pe : ∀ {wi : TI} {g : TG} {tb : TS}, PI X tg iter wi → PG X tg g → PSs X sts tb → PS X st (tFor wi g tb)) (hi : QI X ks a tg iter pa) (hg : QG X ks a true js tg g) (hb : QB X ks ks ks sts ps) : QS X ks ks kl st (pFor pa g ps) :=
  PSi (pe hi hg hb) fun D σ H ⟨E, L, γ, Dp, hK, R, hp, nx, rt, bk, ct⟩ => by
    refine ⟨E, L, γ, _, hK, R, hp, fun xs J H1 hq x1 ⟨P, p0, pf, pg, pst⟩ => ?_⟩
    refine ⟨fun i m σ H2 => m = xs.length - i ∧ ∃ L' γ', Fw E.B L H1 L' H2 ∧ Rel E L' ks γ' σ H2 ∧ forP g ps Dp (xs.drop i) γ', ⟨_, rfl, L, γ, .refl _ _ _, R.ex x1, hq⟩, ?_⟩
    rintro i m σ2 H2 ⟨rfl, L2, γ2, f2, R2, h2⟩
    by_cases hi : i < xs.length
    · right
      obtain ⟨go, yl⟩ := pg i L2 H2 (pf _ _ _ _ p0 f2) hi
      refine ⟨go, fun σ' H' => ∃ m', m' < xs.length - i ∧ (m' = xs.length - (i + 1) ∧ ∃ L' γ', Fw E.B L H1 L' H' ∧ Rel E L' ks γ' σ' H' ∧ forP g ps Dp (xs.drop (i + 1)) γ'), fun _ _ h => h, fun v H3 hy => ?_⟩
      obtain ⟨x3, y, hy, ry⟩ := yl v H3 hy
      have hd : xs.drop i = y :: xs.drop (i + 1) := by
        rw [List.drop_eq_getElem_cons hi]
        rw [List.getElem?_eq_getElem hi] at hy; cases hy; rfl
      rw [hd] at h2
      refine ⟨E, L2, γ2, y, _, hK, R2.ex x3, ry, h2, fun γ3 σ3 q3 R3 _ => ⟨E, L2, γ3, _, hK, R3, q3, ?_, rt, ?_, ?_⟩⟩
      · intro L4 γ4 σ4 H4 f4 R4 q4
        exact ⟨_, by omega, rfl, L4, γ4, f2.trans (Fw.trans x3.fw f4), R4, q4⟩
      · intro L4 γ4 σ4 H4 f4 R4 q4
        exact nx L4 γ4 σ4 H4 (Fw.trans x1.fw (f2.trans (Fw.trans x3.fw f4))) R4 q4
      · intro L4 γ4 σ4 H4 f4 R4 q4
        exact ⟨_, by omega, rfl, L4, γ4, f2.trans (Fw.trans x3.fw f4), R4, q4⟩
    · left
      have hi := Nat.not_lt.mp hi
      refine ⟨pst i L2 H2 (pf _ _ _ _ p0 f2) hi, ?_⟩
      rw [List.drop_eq_nil_of_le hi] at h2
      exact nx L2 γ2 σ2 H2 (Fw.trans x1.fw f2) R2 h2
theorem qs_while (pe : ∀ {c : TT} {tb : TS}, PT X e c → PSs X sts tb → PS X st (tWhile c tb)) (hc : QT X ks e pt) (hb : QB X ks ks ks sts ps) : QS X ks ks kl st (pWhile pt ps) :=
  PSi (pe hc hb) fun D σ H ⟨E, L, γ, Dp, hK, R, ⟨W, ⟨m0, w0⟩, turn⟩, nx, rt, bk, ct⟩ => by
    refine ⟨fun m σ2 H2 => ∃ L' γ', Fw E.B L H L' H2 ∧ Rel E L' ks γ' σ2 H2 ∧ W m γ', ⟨m0, L, γ, .refl _ _ _, R, w0⟩, ?_⟩
    rintro m σ2 H2 ⟨L2, γ2, f2, R2, w2⟩
    refine ⟨E, L2, γ2, _, hK, R2, turn m γ2 w2, fun b H3 q3 x3 => ?_⟩
    cases b with
    | true =>
      show if true = true then _ else _
      rw [if_pos rfl]
      refine ⟨fun σ' H' => ∃ m', m' < m ∧ ∃ L' γ', Fw E.B L H L' H' ∧ Rel E L' ks γ' σ' H' ∧ W m' γ', fun _ _ h => h, E, L2, γ2, _, hK, R2.ex x3, q3, ?_, rt, ?_, ?_⟩
      · rintro L4 γ4 σ4 H4 f4 R4 ⟨m', hm, w'⟩
        exact ⟨m', hm, L4, γ4, f2.trans (Fw.trans x3.fw f4), R4, w'⟩
      · intro L4 γ4 σ4 H4 f4 R4 q4
        exact nx L4 γ4 σ4 H4 (f2.trans (Fw.trans x3.fw f4)) R4 q4
      · rintro L4 γ4 σ4 H4 f4 R4 ⟨m', hm, w'⟩
        exact ⟨m', hm, L4, γ4, f2.trans (Fw.trans x3.fw f4), R4, w'⟩
    | false => exact nx L2 γ2 σ2 H3 (f2.trans x3.fw) (R2.ex x3) q3
/-! own objects changed -/
theorem Ob.nt {B : Bg} {A : Addr → Prop} {H : Hp} {b : Addr} {x : PV} (h : Ob B A H b x) : ∀ vs, H b ≠ some (.tup vs) := fun vs z => by
  cases x <;> first | exact (h : False).elim | (obtain ⟨_, h, _⟩ := h; rw [h] at z; cases z) | (obtain ⟨_, _, h, _⟩ := h; rw [h] at z; cases z)
theorem Rp.upL {E : Ac} {L : List Addr} {c : Bool} {H : Hp} {D : Addr} {o : HO} {x : PV} {v : V} (h : Rp E.B (av E L c true) H x v) (m : D ∈ L) (nt : ∀ vs, H D ≠ some (.tup vs)) : Rp E.B (av E L c true) (upd H D o) x v :=
  h.mv (fun b u e n => by rw [upd_ne (fun z => n (.inr (.inr ⟨rfl, by rw [z]; exact m⟩)))]; exact e) (fun b u e => by rw [upd_ne (fun z => nt u (by rw [← z]; exact e))]; exact e) fun _ z _ => z
theorem RpL.upL {E : Ac} {L : List Addr} {c : Bool} {H : Hp} {D : Addr} {o : HO} {x : List PV} {v : List V} (h : RpL E.B (av E L c true) H x v) (m : D ∈ L) (nt : ∀ vs, H D ≠ some (.tup vs)) : RpL E.B (av E L c true) (upd H D o) x v :=
  h.mv (fun b u e n => by rw [upd_ne (fun z => n (.inr (.inr ⟨rfl, by rw [z]; exact m⟩)))]; exact e) (fun b u e => by rw [upd_ne (fun z => nt u (by rw [← z]; exact e))]; exact e) fun _ z _ => z
theorem set_self {α : Type} {l : List α} {i : Nat} {x : α} (h : l[i]? = some x) : l.set i x = l := by
  apply List.ext_getElem?
  intro j
  by_cases hj : i = j
  · subst hj; rw [List.getElem?_set_self (List.getElem?_eq_some_iff.mp h).1, h]
  · rw [List.getElem?_set_ne hj]
theorem Fw.upd {B : Bg} {L : List Addr} {H : Hp} {b : Addr} {o : HO} (m : b ∈ L) (nt : ∀ vs, H b ≠ some (.tup vs)) : Fw B L H L (L2.upd H b o) where
  st := fun c u e n _ => by rw [upd_ne (fun z => n (by rw [z]; exact m))]; exact e
  tp := fun c u e => by rw [upd_ne (fun z => nt u (by rw [← z]; exact e))]; exact e
  nn := fun c h => by
    by_cases z : c = b
    · rw [z, upd_same]; exact nofun
    · rw [upd_ne z]; exact h
  ls := fun c h => .inl h
/-- an own slot's object is changed -/
theorem Rel.upd1 {E : Ac} {L : List Addr} {γ : G} {σ : St} {H : Hp} {i : Nat} {x : PV} (R : Rel E L ks γ σ H) (hk : ks[i]? = some .own) (hx : γ[i]? = some (some x)) : ∃ b, σ[i]? = some (some (.ref b)) ∧ b ∈ L ∧ Ob E.B (av E L true true) H b x ∧
    ∀ o x', Ob E.B (av E L true true) (upd H b o) b x' → Rel E L ks (γ.set i (some x')) σ (upd H b o) := by
  obtain ⟨O, h1, h2, h3, h4⟩ := R.sl
  obtain ⟨v, hv, k⟩ := h1 i x hx
  rw [getElem?_kd hk] at k
  obtain ⟨b, rfl, ho, ob⟩ := k
  have hb : b ∈ L := h2 i b (by rw [ho]; simp)
  refine ⟨b, hv, hb, ob, fun o x' ob' => ?_⟩
  have hr : b ≠ E.B.r := fun z => R.ar (by rw [← z]; exact (R.lf b hb).1)
  have := R.put (i := i) (k := .own) (x := x') (v := .ref b) (O' := [b]) (.upd (o := o) hb ob.nt) (fun c m n u e => by rw [upd_ne (fun z => n (by simp [z]))]; exact e)
    (fun c u e n => by rw [upd_ne (fun z => by rw [z, (R.lf b hb).1] at e; cases e)]; exact R.old c u e n) (R.bag.stay (fun u e => by rw [upd_ne (R.lq hb).symm]; exact e) fun u e => by rw [upd_ne hr.symm]; exact e)
    (fun c m => .inl m) (fun c m => (Fw.upd (B := E.B) hb ob.nt).nn c (R.lf c m).2) (fun _ h => h) ⟨b, rfl, rfl, ob'⟩ (fun c m => by simp at m; rw [m]; exact hb) (by simp) (fun O' g2 g3 g1 j c hj hc m => by
      simp at hc; subst hc
      obtain ⟨w, hw, kw⟩ := g1 i x hx
      rw [hv] at hw; cases hw
      rw [getElem?_kd hk] at kw
      obtain ⟨d, e1, e2, _⟩ := kw
      cases e1
      exact hj (g3 j i c m (by rw [e2]; simp))) (List.getElem?_eq_some_iff.mp hk).1
  rw [set_same hk, set_self hv] at this
  exact this
theorem qs_app {i : Nat} (pe : ∀ {t : TE}, PE X e t → PS X st (tDrop (tBM X.K "list" rAppend (tVar i) (tCons t tNil)))) (h : QE X ks true true e p) (hk : ks[i]? = some .own := by rfl) : QS X ks ks kl st (pApp i p) :=
  PSi (pe h) fun D σ H ⟨E, L, γ, Dp, hK, R, hp, nx, rt, bk, ct⟩ => by
    obtain ⟨x, hx, q⟩ := getS_of hp
    obtain ⟨b, hv, hb, ob, _⟩ := R.upd1 hk hx
    cases x <;> first | exact (q : False).elim | skip
    rename_i xs
    obtain ⟨vs, h1, r1⟩ := ob
    refine ⟨.ref b, hv, .inl ⟨rfl, vs, .inl (.inl h1)⟩, E, L, γ, _, hK, R, q, fun y u H1 q1 x1 ry => ?_⟩
    have R1 := R.ex x1
    obtain ⟨b', hv', hb', ob', up⟩ := R1.upd1 hk hx
    rw [hv] at hv'; cases hv'
    obtain ⟨vs', h1', r1'⟩ := ob'
    have nt : ∀ vs, H1 b ≠ some (.tup vs) := fun z => by rw [h1']; exact nofun
    refine ⟨b, vs', u, rfl, rfl, h1', by rw [← r1'.length]; exact q1.1, nx L _ _ _ (Fw.trans x1.fw (.upd hb nt)) (up _ (.lst (xs ++ [y])) ⟨vs' ++ [u], upd_same, (r1'.upL hb nt).append (.cons (ry.upL hb nt) .nil)⟩) q1.2⟩
theorem qs_setIx {i : Nat} {e3 : Expr} {p3 : GE} (pe : ∀ {t t' : TE}, PE X e t → PE X e3 t' → PS X st (tAsg t (gSub (tVar i) t' rSetL))) (h : QE X ks true true e p) (h3 : QE X ks a s e3 p3) (hk : ks[i]? = some .own := by rfl) : QS X ks ks kl st (pSetIx i p3 p) :=
  PSi (pe h h3) fun D σ H ⟨E, L, γ, Dp, hK, R, hp, nx, rt, bk, ct⟩ => by
    refine ⟨E, L, γ, _, hK, R, hp, fun y u H1 q1 x1 ry => ?_⟩
    obtain ⟨x, hx, q⟩ := getS_of q1
    obtain ⟨b, hv, hb, -, -⟩ := (R.ex x1).upd1 hk hx
    refine ⟨.ref b, hv, E, L, γ, _, hK, R.ex x1, q, fun n w H2 q2 x2 rn => ?_⟩
    have R2 := (R.ex x1).ex x2
    obtain ⟨b', hv', hb', ob', up⟩ := R2.upd1 hk hx
    rw [hv] at hv'; cases hv'
    cases x <;> first | exact (q2 : False).elim | skip
    cases rn <;> first | exact (q2 : False).elim | skip
    rename_i xs i
    obtain ⟨vs, h1, r1⟩ := ob'
    have nt : ∀ vs, H2 b ≠ some (.tup vs) := fun z => by rw [h1]; exact nofun
    cases e : ixN xs.length i with
    | none => simp only [e] at q2
    | some j =>
      simp only [e] at q2
      refine ⟨b, vs, i, j, rfl, rfl, h1, by rw [← r1.length]; exact e, nx L _ _ _ (Fw.trans (x1.trans x2).fw (.upd hb nt)) (up _ (.lst (xs.set j y)) ⟨vs.set j u, upd_same, (r1.upL hb nt).set j ((ry.ex x2 av_q).upL hb nt)⟩) q2⟩
/-- an own list or dict is no more changed: it may be shared -/
theorem Rel.freeze {E : Ac} {L : List Addr} {γ : G} {σ : St} {H : Hp} {i : Nat} (R : Rel E L ks γ σ H) (hk : ks[i]? = some .own) : ∃ L', Fw E.B L H L' H ∧ Rel E L' (ks.set i .sh) γ σ H := by
  obtain ⟨O, h1, h2, h3, h4⟩ := R.sl
  refine ⟨L.filter (fun c => !decide (c ∈ O i)), ⟨fun c u e n m => e, fun _ _ h => h, fun _ h => h, fun c m => .inl (List.mem_filter.mp m).1⟩, ⟨R.old, R.onn, R.bag, R.a0, R.aq, R.ar, fun c m => R.lf c (List.mem_filter.mp m).1, R.len, ?_⟩⟩
  refine ⟨fun j => if j = i then [] else O j, fun j y hy => ?_, fun j c m => ?_, fun j j' c m m' => ?_, fun j => ?_⟩
  · obtain ⟨v, hv, k⟩ := h1 j y hy
    refine ⟨v, hv, ?_⟩
    have g : ∀ {bb : Bool} c, av E (L.filter (fun c => !decide (c ∈ O i))) bb true c → H c ≠ none → av E L bb true c := fun c z _ => by
      rcases z with z | z | ⟨_, z⟩
      · exact .inl z
      · exact .inr (.inl z)
      · exact .inr (.inr ⟨rfl, (List.mem_filter.mp z).1⟩)
    by_cases hj : j = i
    · subst hj
      show Kr E _ H _ _ _ (if j = j then [] else O j)
      rw [if_pos rfl]
      have e1 : kd (ks.set j .sh) j = .sh := by unfold kd; simp [List.getD, (List.getElem?_eq_some_iff.mp hk).1]
      rw [e1]
      rw [getElem?_kd hk] at k
      obtain ⟨b, rfl, ho, ob⟩ := k
      refine ⟨rfl, ?_⟩
      have n : ¬ av E (L.filter (fun c => !decide (c ∈ O j))) true true b := by
        rintro (z | ⟨_, z⟩ | ⟨_, z⟩)
        · exact R.lq (h2 j b (by rw [ho]; simp)) z
        · exact R.a0 b z (R.lf b (h2 j b (by rw [ho]; simp))).1
        · have := (List.mem_filter.mp z).2; rw [ho] at this; simp at this
      cases y with
      | lst xs => obtain ⟨vs, g1, g2⟩ := ob; exact .lst n g1 (g2.mv (fun _ _ h _ => h) (fun _ _ h => h) g)
      | dT kvs => obtain ⟨ws, g1, g2, g3⟩ := ob; exact .dT n g1 g2 rfl rfl rfl (g3.mv (fun _ _ h _ => h) (fun _ _ h => h) g)
      | dK kvs => obtain ⟨ws, g1, g2, g3⟩ := ob; exact .dK n g1 g2 rfl rfl rfl (g3.mv (fun _ _ h _ => h) (fun _ _ h => h) g)
      | ins c fs => obtain ⟨dx, ws, g1, g2, g3⟩ := ob; exact .ins n g1 g2 rfl (g3.mv (fun _ _ h _ => h) (fun _ _ h => h) g)
      | _ => exact ob.elim
    · show Kr E _ H _ _ _ (if j = i then [] else O j)
      rw [if_neg hj]
      have e1 : kd (ks.set i .sh) j = kd ks j := by unfold kd; simp [List.getD, List.getElem?_set_ne (fun z => hj z.symm)]
      rw [e1]
      exact k.mv (fun _ _ h _ _ => h) (fun _ _ h => h) (fun c m => .inl (List.mem_filter.mp m).1) fun _ _ _ h => h
  · by_cases hj : j = i
    · simp [hj] at m
    · simp only [if_neg hj] at m
      exact List.mem_filter.mpr ⟨h2 j c m, by simp; intro z; exact hj (h3 j i c m z)⟩
  · by_cases hj : j = i <;> by_cases hj' : j' = i
    · rw [hj, hj']
    · simp [hj] at m
    · simp [hj'] at m'
    · simp only [if_neg hj, if_neg hj'] at m m'; exact h3 j j' c m m'
  · by_cases hj : j = i
    · simp [hj]
    · simp only [if_neg hj]; exact h4 j
theorem qb_frz (i : Nat) (h : QB X (ks.set i .sh) ks' kl sts q) (hk : ks[i]? = some .own := by rfl) : QB X ks ks' kl sts q :=
  PSsi h fun D σ H ⟨E, L, γ, Dp, hK, R, hp, nx, rt, bk, ct⟩ => by
    obtain ⟨L1, f1, R1⟩ := R.freeze hk
    exact ⟨E, L1, γ, Dp, hK, R1, hp, fun L2 γ2 σ2 H2 f2 R2 q2 => nx L2 γ2 σ2 H2 (f1.trans f2) R2 q2, rt, fun L2 γ2 σ2 H2 f2 R2 q2 => bk L2 γ2 σ2 H2 (f1.trans f2) R2 q2, fun L2 γ2 σ2 H2 f2 R2 q2 => ct L2 γ2 σ2 H2 (f1.trans f2) R2 q2⟩
/-- self.f = e while the instance is one's own -/
theorem putF_at {f : Str} {v : V} : ∀ {ws : List (Str × V)} {ns : List Str} {j : Nat}, ws.map (·.1) = ns.take ws.length → ns.Nodup → ns[j]? = some f → j ≤ ws.length → putF f v ws = if j = ws.length then ws ++ [(f, v)] else ws.set j (f, v)
  | [], ns, j, _, _, _, hj => by
    have : j = 0 := by simpa using hj
    subst this; rfl
  | (g, x) :: r, [], j, h, _, e, _ => by simp at e
  | (g, x) :: r, n :: ns, j, h, nd, e, hj => by
    simp only [List.map_cons, List.length_cons, List.take_succ_cons, List.cons.injEq] at h
    obtain ⟨rfl, h⟩ := h
    rw [List.nodup_cons] at nd
    cases j with
    | zero =>
      simp at e; subst e
      simp [putF]
    | succ j =>
      have e' : ns[j]? = some f := by simpa using e
      have hg : ¬ g = f := fun z => nd.1 (by rw [z]; exact List.mem_of_getElem? e')
      rw [putF, if_neg hg, putF_at h nd.2 e' (by simpa using hj)]
      by_cases hjl : j = r.length
      · simp [hjl]
      · simp [hjl]
theorem qs_fld (c j : Nat) {f : Str} (cl : Cls X.K (He.ga X.K (clsT c).1)) (na : NoAttr X.K (He.ga X.K (clsT c).1) f) (pe : ∀ {t : TE}, PE X e t → PS X st (sFld X.K (tVar 0) t f)) (h : QE X ks true true e p) (hk : ks[0]? = some .slf := by rfl)
    (hf : (clsT c).2[j]? = some f ∧ (clsT c).2.Nodup := by decide +kernel) : QS X ks ks kl st (pFldS c j p) :=
  PSi (pe h) fun D σ H ⟨E, L, γ, Dp, hK, R, hp, nx, rt, bk, ct⟩ => by
    refine ⟨E, L, γ, _, hK, R, hp, fun y u H1 q1 x1 ry => ?_⟩
    have R1 := R.ex x1
    obtain ⟨x, hx, q⟩ := getS_of q1
    obtain ⟨O, h1, h2, h3, h4⟩ := R1.sl
    obtain ⟨v, hv, k⟩ := h1 0 x hx
    rw [getElem?_kd hk] at k
    obtain ⟨b, rfl, ho, ⟨⟨c', fs, rfl⟩, hme⟩, ob⟩ := k
    have nt := ob.nt
    obtain ⟨dx, ws, g1, g2, g3⟩ := ob
    obtain ⟨rfl, hj, q⟩ := q
    have hb : b ∈ L := h2 0 b (by rw [ho]; simp)
    have hl : fs.length = ws.length := by rw [g3.length]; simp
    have hr : b ≠ E.B.r := fun z => R.ar (by rw [← z]; exact (R.lf b hb).1)
    have hn : ws.length < 1000 := by
      have : ws.length ≤ (clsT c').2.length := by
        have := congrArg List.length g2; simp at this; omega
      have h10 : (clsT c').2.length ≤ 5 := by
        rcases c' with _ | _ | _ | _ | _ | _ | _ | _ | _ | _ | _ <;> simp [clsT]
      omega
    refine ⟨.ref b, hv, b, _, dx, ws, rfl, by rw [← hK]; exact g1, cl, na, hn, ?_⟩
    rw [← hK]
    have hp2 := putF_at (v := u) (by rw [← hl]; exact g2) hf.2 hf.1 (by rw [← hl]; exact hj)
    rw [hp2]
    have ob' : Ob E.B (av E L true true) (upd H1 b (.ins (He.ga E.B.K (clsT c').1) dx (if j = ws.length then ws ++ [(f, u)] else ws.set j (f, u)))) b (.ins c' (if j = fs.length then fs ++ [y] else fs.set j y)) := by
      refine ⟨dx, _, upd_same, ?_, ?_⟩
      · by_cases hjl : j = ws.length
        · rw [if_pos hjl, if_pos (by omega)]
          simp only [List.map_append, List.map_cons, List.map_nil, List.length_append, List.length_cons, List.length_nil, g2]
          rw [List.take_add_one, hl, ← hjl, hf.1]; rfl
        · rw [if_neg hjl, if_neg (by omega)]
          rw [List.map_set, g2, List.length_set]
          apply set_self
          rw [List.getElem?_take, if_pos (by omega)]; exact hf.1
      · by_cases hjl : j = ws.length
        · rw [if_pos hjl, if_pos (by omega), List.map_append]
          exact (g3.upL hb nt).append (.cons (ry.upL hb nt) .nil)
        · rw [if_neg hjl, if_neg (by omega), List.map_set]
          exact (g3.upL hb nt).set j (ry.upL hb nt)
    refine nx L _ _ _ (Fw.trans x1.fw (.upd hb nt)) ?_ q
    have := R1.put (i := 0) (k := .slf) (x := .ins c' (if j = fs.length then fs ++ [y] else fs.set j y)) (v := .ref b) (O' := [b]) (.upd (o := .ins (He.ga E.B.K (clsT c').1) dx (if j = ws.length then ws ++ [(f, u)] else ws.set j (f, u))) hb nt) (fun c m n u e => by rw [upd_ne (fun z => n (by simp [z]))]; exact e)
      (fun c u e n => by rw [upd_ne (fun z => by rw [z, (R.lf b hb).1] at e; cases e)]; exact R1.old c u e n) (R1.bag.stay (fun u e => by rw [upd_ne (R.lq hb).symm]; exact e) fun u e => by rw [upd_ne hr.symm]; exact e)
      (fun c m => .inl m) (fun c m => (Fw.upd (B := E.B) hb nt).nn c (R1.lf c m).2) (fun _ h => h) ⟨b, rfl, rfl, ⟨⟨_, _, rfl⟩, hme⟩, ob'⟩ (fun c m => by simp at m; rw [m]; exact hb) (by simp) (fun O' k2 k3 k1 j' c hj hc m => by
        simp at hc; subst hc
        obtain ⟨w, hw, kw⟩ := k1 0 _ hx
        rw [hv] at hw; cases hw
        rw [getElem?_kd hk] at kw
        obtain ⟨d, e1, e2, _⟩ := kw
        cases e1
        exact hj (k3 j' 0 c m (by rw [e2]; simp))) (List.getElem?_eq_some_iff.mp hk).1
    rw [set_same hk, set_self hv] at this
    exact this
end
end Vl
namespace Vl
open PySem PySem.Spec L2 Lb
abbrev PW := List PV → (PV → Prop) → Prop
/-- a def's promise by plain values: what it tells keeps off what its arguments keep off -/
def spN (n : Nat) (w : Vl.PW) (K : Fg) : Sp := fun vs H Q _ => ∃ (q r : Addr) (A : Addr → Prop) (xs : List PV) (Qp : PV → Prop), vs.length = n ∧ A q ∧ (∀ a, A a → H a ≠ none) ∧ BagOk ⟨K, q, r⟩ H ∧ RpL ⟨K, q, r⟩ A H xs vs ∧ w xs Qp ∧
  ∀ x v H', Qp x → Ex ⟨K, q, r⟩ H H' → Rp ⟨K, q, r⟩ A H' x v → Q v H'
/-- .. : all that it tells is new, whatever was handed in -/
def spF (n : Nat) (w : Vl.PW) (K : Fg) : Sp := fun vs H Q _ => ∃ (q r : Addr) (xs : List PV) (Qp : PV → Prop), vs.length = n ∧ BagOk ⟨K, q, r⟩ H ∧ RpL ⟨K, q, r⟩ (fun a => a = q) H xs vs ∧ w xs Qp ∧
  ∀ x v H', Qp x → Ex ⟨K, q, r⟩ H H' → Rp ⟨K, q, r⟩ (fun a => H a ≠ none) H' x v → Q v H'
/-- an __init__'s: the new instance -/
def spI (c n : Nat) (w : Vl.PW) (K : Fg) : Sp := fun vs H Q _ => ∃ (q r : Addr) (A : Addr → Prop) (xs : List PV) (Qp : PV → Prop) (x0 dx : Addr) (H1 : Hp) (us : List V), vs = .ref x0 :: us ∧ us.length = n ∧ H1 x0 = none ∧ H1 dx = none ∧ dx ≠ x0 ∧
  H = upd (upd H1 dx (.own x0)) x0 (.ins (He.ga K (clsT c).1) dx []) ∧ A q ∧ (∀ a, A a → H1 a ≠ none) ∧ BagOk ⟨K, q, r⟩ H1 ∧ RpL ⟨K, q, r⟩ A H1 xs us ∧ w xs Qp ∧ ∀ y H', Qp y → Ex ⟨K, q, r⟩ H1 H' → Rp ⟨K, q, r⟩ A H' y (.ref x0) → Q .non H'
/-- .. whose instance holds nothing of what was handed in -/
def spIF (c n : Nat) (w : Vl.PW) (K : Fg) : Sp := fun vs H Q _ => ∃ (q r : Addr) (xs : List PV) (Qp : PV → Prop) (x0 dx : Addr) (H1 : Hp) (us : List V), vs = .ref x0 :: us ∧ us.length = n ∧ H1 x0 = none ∧ H1 dx = none ∧ dx ≠ x0 ∧
  H = upd (upd H1 dx (.own x0)) x0 (.ins (He.ga K (clsT c).1) dx []) ∧ BagOk ⟨K, q, r⟩ H1 ∧ RpL ⟨K, q, r⟩ (fun a => a = q) H1 xs us ∧ w xs Qp ∧ ∀ y H', Qp y → Ex ⟨K, q, r⟩ H1 H' → Rp ⟨K, q, r⟩ (fun a => H1 a ≠ none) H' y (.ref x0) → Q .non H'
/-! what a body's reading says of the def -/
def startG (N : Nat) (xs : List PV) : G := xs.map some ++ List.replicate (N - xs.length) none
def wF (N : Nat) (p : GS) : Vl.PW := fun xs Q => p ⟨fun _ => Q .non, fun x _ => Q x, fun _ => False, fun _ => False⟩ (startG N xs)
def wI (N c : Nat) (p : GS) : Vl.PW := fun xs Q => p ⟨fun γ => getS γ 0 Q, fun _ _ => False, fun _ => False, fun _ => False⟩ (startG N (.ins c [] :: xs))
theorem start_get {N : List Str} {xs : List PV} {i : Nat} {x : PV} (h : (startG N.length xs)[i]? = some (some x)) : xs[i]? = some x := by
  unfold startG at h
  by_cases hi : i < xs.length
  · rw [List.getElem?_append_left (by simpa using hi), List.getElem?_map] at h
    cases e : xs[i]? with
    | none => rw [e] at h; cases h
    | some y => rw [e] at h; simp at h; rw [h]
  · rw [List.getElem?_append_right (by simpa using hi)] at h
    have := List.mem_of_getElem? h
    simp at this
theorem start_at {N : List Str} {vs : List V} {i : Nat} {v : V} (h : vs[i]? = some v) : (start N vs)[i]? = some (some v) := by
  unfold L2.start
  rw [List.getElem?_append_left (by simpa using (List.getElem?_eq_some_iff.mp h).1), List.getElem?_map, h]; rfl
theorem start_len {N : List Str} {xs : List PV} {vs : List V} (h : xs.length = vs.length) : (startG N.length xs).length = (start N vs).length := by
  simp [startG, L2.start, h]
theorem rel_start {B : Bg} {A : Addr → Prop} {H : Hp} {N : List Str} {xs : List PV} {vs : List V} {ks : List Kd} (aq : A B.q) (an : ∀ a, A a → H a ≠ none) (bg : BagOk B H) (r : RpL B A H xs vs) (hk : ∀ i, i < xs.length → kd ks i = .sh) (me : Addr) : Rel ⟨B, A, H, me⟩ [] ks (startG N.length xs) (start N vs) H where
  old := fun _ _ h _ => h
  onn := fun _ h => h
  bag := bg
  a0 := an
  aq := aq
  ar := by obtain ⟨_, _, _, _, _, h, _⟩ := bg; show H B.r ≠ none; rw [h]; exact nofun
  lf := fun _ h => nomatch h
  len := start_len r.length
  sl := by
    refine ⟨fun _ => [], fun i x h => ?_, by simp, by simp, by simp⟩
    have h1 := start_get h
    obtain ⟨v, hv, rv⟩ := r.get h1
    refine ⟨v, start_at hv, ?_⟩
    rw [hk i (List.getElem?_eq_some_iff.mp h1).1]
    exact ⟨rfl, rv.anti fun c z => by
      rcases z with z | ⟨_, z⟩ | ⟨_, z⟩
      · rw [z]; exact aq
      · exact z
      · cases z⟩
theorem rel_startF {B : Bg} {H : Hp} {N : List Str} {xs : List PV} {vs : List V} {ks : List Kd} (bg : BagOk B H) (r : RpL B (fun a => a = B.q) H xs vs) (hk : ∀ i, i < xs.length → kd ks i = .bor) (me : Addr) : Rel ⟨B, fun a => H a ≠ none, H, me⟩ [] ks (startG N.length xs) (start N vs) H where
  old := fun _ _ h _ => h
  onn := fun _ h => h
  bag := bg
  a0 := fun _ h => h
  aq := bg.q
  ar := by obtain ⟨_, _, _, _, _, h, _⟩ := bg; show H B.r ≠ none; rw [h]; exact nofun
  lf := fun _ h => nomatch h
  len := start_len r.length
  sl := by
    refine ⟨fun _ => [], fun i x h => ?_, by simp, by simp, by simp⟩
    have h1 := start_get h
    obtain ⟨v, hv, rv⟩ := r.get h1
    refine ⟨v, start_at hv, ?_⟩
    rw [hk i (List.getElem?_eq_some_iff.mp h1).1]
    exact ⟨rfl, rv.anti fun c z => by
      rcases z with z | ⟨z, _⟩ | ⟨_, z⟩
      · exact z
      · cases z
      · cases z⟩
theorem ex_of {B : Bg} {H H' : Hp} (bg : BagOk B H) (old : ∀ a o, H a = some o → a ≠ B.q → H' a = some o) (onn : ∀ a, H a ≠ none → H' a ≠ none) (bg' : BagOk B H') : Ex B H H' :=
  ⟨old, fun a vs h => old a _ h (fun z => by obtain ⟨_, _, _, _, hq, _⟩ := bg; rw [z, hq] at h; cases h), onn, fun _ => bg'⟩
theorem ksh {ks : List Kd} {n : Nat} {k : Kd} (h : (ks.take n).all (fun x => decide (x = k)) = true) (hn : n ≤ ks.length) : ∀ i, i < n → kd ks i = k := fun i hi => by
  have h1 : (ks.take n)[i]? = ks[i]? := by rw [List.getElem?_take, if_pos hi]
  have h2 : i < ks.length := by omega
  have := List.all_eq_true.mp h (ks[i]) (List.mem_of_getElem? (i := i) (by rw [h1, List.getElem?_eq_getElem h2]))
  unfold kd; simp [List.getD, List.getElem?_eq_getElem h2]; simpa using this
section
variable {X : Cx} {N : List Str} {ks ks' kl : List Kd} {sts : List Stmt} {p : GS} {n c : Nat} {vs : List V} {H : Hp} {Q : VK} {E : XK}
theorem body_N (h : QB X ks ks' kl sts p) (hk : (ks.take n).all (fun x => decide (x = Kd.sh)) = true) (hn : n ≤ ks.length) (hs : spN n (wF N.length p) X.K vs H Q E) : ∃ t, PSs X sts t ∧ t { nx := fun _ H' => Q .non H', rt := Q } (start N vs) H := by
  obtain ⟨q, r, A, xs, Qp, hl, aq, an, bg, rx, w, k⟩ := hs
  refine ⟨_, h, ⟨⟨X.K, q, r⟩, A, H, 0⟩, [], startG N.length xs, _, rfl, rel_start aq an bg rx (fun i hi => ksh hk hn i (by rw [rx.length, hl] at hi; exact hi)) 0, w, ?_, ?_, fun _ _ _ _ _ _ z => z.elim, fun _ _ _ _ _ _ z => z.elim⟩
  · intro L' γ' σ' H' _ R q1
    exact k .non .non H' q1 (ex_of bg R.old R.onn R.bag) .non
  · intro x γ' v H' ⟨r1, r2, r3, r4⟩ q1
    exact k x v H' q1 (ex_of bg r2 r3 r4) r1
theorem body_F (h : QB X ks ks' kl sts p) (hk : (ks.take n).all (fun x => decide (x = Kd.bor)) = true) (hn : n ≤ ks.length) (hs : spF n (wF N.length p) X.K vs H Q E) : ∃ t, PSs X sts t ∧ t { nx := fun _ H' => Q .non H', rt := Q } (start N vs) H := by
  obtain ⟨q, r, xs, Qp, hl, bg, rx, w, k⟩ := hs
  refine ⟨_, h, ⟨⟨X.K, q, r⟩, fun a => H a ≠ none, H, 0⟩, [], startG N.length xs, _, rfl, rel_startF bg rx (fun i hi => ksh hk hn i (by rw [rx.length, hl] at hi; exact hi)) 0, w, ?_, ?_, fun _ _ _ _ _ _ z => z.elim, fun _ _ _ _ _ _ z => z.elim⟩
  · intro L' γ' σ' H' _ R q1
    exact k .non .non H' q1 (ex_of bg R.old R.onn R.bag) .non
  · intro x γ' v H' ⟨r1, r2, r3, r4⟩ q1
    exact k x v H' q1 (ex_of bg r2 r3 r4) r1
theorem rel_init {B : Bg} {A0 A1 : Addr → Prop} {k0 : Kd} {H1 : Hp} {N : List Str} {xs : List PV} {vs : List V} {ks : List Kd} {x0 dx : Addr} (aq : A0 B.q) (an : ∀ a, A0 a → H1 a ≠ none) (bg : BagOk B H1) (n1 : H1 x0 = none) (n2 : H1 dx = none) (n3 : dx ≠ x0)
    (r : RpL B A1 H1 xs vs) (hk0 : kd ks 0 = .slf) (hk : ∀ i, i < xs.length → kd ks (i + 1) = k0) (hA : (k0 = .sh ∧ A1 = A0) ∨ (k0 = .bor ∧ A1 = fun a => a = B.q)) :
    Rel ⟨B, A0, H1, x0⟩ [x0] ks (startG N.length (.ins c [] :: xs)) (start N (.ref x0 :: vs)) (upd (upd H1 dx (.own x0)) x0 (.ins (He.ga B.K (clsT c).1) dx [])) := by
  have x1 : Ex B H1 (upd H1 dx (.own x0)) := .new n2
  have nx0 : upd H1 dx (.own x0) x0 = none := by rw [upd_ne (fun z => n3 z.symm)]; exact n1
  have x2 : Ex B H1 (upd (upd H1 dx (.own x0)) x0 (.ins (He.ga B.K (clsT c).1) dx [])) := x1.trans (.new nx0)
  have st : ∀ a o, H1 a = some o → upd (upd H1 dx (.own x0)) x0 (.ins (He.ga B.K (clsT c).1) dx []) a = some o := fun a o e => by
    rw [upd_ne (ne_of_none e n1), upd_ne (ne_of_none e n2)]; exact e
  refine ⟨fun a o h _ => st a o h, x2.nn, x2.bg bg, an, aq, ?_, fun a h => ?_, start_len (by simp [r.length]), ?_⟩
  · obtain ⟨_, _, _, _, _, h, _⟩ := bg; show H1 B.r ≠ none; rw [h]; exact nofun
  · simp at h; subst h; exact ⟨n1, by rw [upd_same]; exact nofun⟩
  · refine ⟨fun i => if i = 0 then [x0] else [], fun i y h => ?_, fun i a h => ?_, fun i j a h h' => ?_, fun i => ?_⟩
    · have h1 := start_get h
      cases i with
      | zero =>
        simp at h1; subst h1
        refine ⟨.ref x0, start_at rfl, ?_⟩
        rw [hk0]
        exact ⟨x0, rfl, rfl, ⟨⟨c, [], rfl⟩, rfl⟩, dx, [], upd_same, by simp, .nil⟩
      | succ i =>
        simp at h1
        obtain ⟨v, hv, rv⟩ := r.get h1
        refine ⟨v, start_at (by simpa using hv), ?_⟩
        rw [hk i (List.getElem?_eq_some_iff.mp h1).1]
        have rv' : ∀ A' : Addr → Prop, (∀ b, A' b → H1 b ≠ none → A1 b) → Rp B A' (upd (upd H1 dx (.own x0)) x0 (.ins (He.ga B.K (clsT c).1) dx [])) y v := fun A' g => rv.mv (fun a o e _ => st a o e) (fun a o e => st a _ e) g
        rcases hA with ⟨rfl, rfl⟩ | ⟨rfl, rfl⟩
        · refine ⟨by simp, rv' _ fun b z n => ?_⟩
          rcases z with z | ⟨_, z⟩ | ⟨_, z⟩
          · rw [z]; exact aq
          · exact z
          · simp at z; rw [z] at n; exact absurd n1 n
        · refine ⟨by simp, rv' _ fun b z n => ?_⟩
          rcases z with z | ⟨z, _⟩ | ⟨_, z⟩
          · exact z
          · cases z
          · simp at z; rw [z] at n; exact absurd n1 n
    · by_cases hi : i = 0
      · simp [hi] at h; simp [h]
      · simp [hi] at h
    · by_cases hi : i = 0 <;> by_cases hj : j = 0
      · rw [hi, hj]
      · simp [hj] at h'
      · simp [hi] at h
      · simp [hi] at h
    · by_cases hi : i = 0 <;> simp [hi]
theorem init_end {B : Bg} {A0 : Addr → Prop} {H1 H' : Hp} {x0 : Addr} {L : List Addr} {γ : G} {σ : St} {Qp : PV → Prop} (R : Rel ⟨B, A0, H1, x0⟩ L ks γ σ H') (hk : kd ks 0 = .slf) (h : getS γ 0 Qp) : ∃ y, Qp y ∧ Rp B A0 H' y (.ref x0) := by
  obtain ⟨y, hy, q⟩ := getS_of h
  obtain ⟨O, h1, h2, h3, h4⟩ := R.sl
  obtain ⟨v, hv, k⟩ := h1 0 y hy
  rw [hk] at k
  obtain ⟨b, rfl, ho, ⟨_, hme⟩, ob⟩ := k
  have hme : b = x0 := hme
  subst hme
  refine ⟨y, q, ?_⟩
  have := ob.rp (R.noA (h2 0 b (by rw [ho]; simp))) fun c z => av_mono (a' := true) (s' := false) id (fun _ => rfl) z
  exact this.anti fun c z => .inr (.inl ⟨rfl, z⟩)
theorem body_I (h : QB X ks ks' kl sts p) (hk0 : kd ks 0 = .slf) (hk1 : kd ks' 0 = .slf) (hk : ((ks.drop 1).take n).all (fun x => decide (x = Kd.sh)) = true) (hn : n + 1 ≤ ks.length) (hs : spI c n (wI N.length c p) X.K vs H Q E) : ∃ t, PSs X sts t ∧ t { nx := fun _ H' => Q .non H', rt := Q } (start N vs) H := by
  obtain ⟨q, r, A, xs, Qp, x0, dx, H1, us, rfl, hl, n1, n2, n3, rfl, aq, an, bg, rx, w, k⟩ := hs
  refine ⟨_, h, ⟨⟨X.K, q, r⟩, A, H1, x0⟩, [x0], startG N.length (.ins c [] :: xs), ⟨fun γ => getS γ 0 Qp, fun _ _ => False, fun _ => False, fun _ => False⟩, rfl, rel_init (k0 := .sh) aq an bg n1 n2 n3 rx hk0 (fun i hi => ?_) (.inl ⟨rfl, rfl⟩), w, ?_, ?_, fun _ _ _ _ _ _ z => z.elim, fun _ _ _ _ _ _ z => z.elim⟩
  · have := ksh hk (by simp; omega) i (by rw [rx.length, hl] at hi; exact hi)
    unfold kd at this ⊢; simpa [List.getD, Nat.add_comm] using this
  · intro L' γ' σ' H' _ R q1
    obtain ⟨y, qy, ry⟩ := init_end R hk1 q1
    exact k y H' qy (ex_of bg R.old R.onn R.bag) ry
  · intro _ _ _ _ _ z; exact z.elim
theorem body_IF (h : QB X ks ks' kl sts p) (hk0 : kd ks 0 = .slf) (hk1 : kd ks' 0 = .slf) (hk : ((ks.drop 1).take n).all (fun x => decide (x = Kd.bor)) = true) (hn : n + 1 ≤ ks.length) (hs : spIF c n (wI N.length c p) X.K vs H Q E) : ∃ t, PSs X sts t ∧ t { nx := fun _ H' => Q .non H', rt := Q } (start N vs) H := by
  obtain ⟨q, r, xs, Qp, x0, dx, H1, us, rfl, hl, n1, n2, n3, rfl, bg, rx, w, k⟩ := hs
  refine ⟨_, h, ⟨⟨X.K, q, r⟩, fun a => H1 a ≠ none, H1, x0⟩, [x0], startG N.length (.ins c [] :: xs), ⟨fun γ => getS γ 0 Qp, fun _ _ => False, fun _ => False, fun _ => False⟩, rfl, rel_init (k0 := .bor) bg.q (fun _ h => h) bg n1 n2 n3 rx hk0 (fun i hi => ?_) (.inr ⟨rfl, rfl⟩), w, ?_, ?_, fun _ _ _ _ _ _ z => z.elim, fun _ _ _ _ _ _ z => z.elim⟩
  · have := ksh hk (by simp; omega) i (by rw [rx.length, hl] at hi; exact hi)
    unfold kd at this ⊢; simpa [List.getD, Nat.add_comm] using this
  · intro L' γ' σ' H' _ R q1
    obtain ⟨y, qy, ry⟩ := init_end R hk1 q1
    exact k y H' qy (ex_of bg R.old R.onn R.bag) ry
  · intro _ _ _ _ _ z; exact z.elim
theorem len_N {w : Vl.PW} {K : Fg} (h : spN n w K vs H Q E) : vs.length = n := by obtain ⟨_, _, _, _, _, h, _⟩ := h; exact h
theorem len_F {w : Vl.PW} {K : Fg} (h : spF n w K vs H Q E) : vs.length = n := by obtain ⟨_, _, _, _, h, _⟩ := h; exact h
theorem len_I {w : Vl.PW} {K : Fg} (h : spI c n w K vs H Q E) : vs.length = n + 1 := by obtain ⟨_, _, _, _, _, _, _, _, _, rfl, h, _⟩ := h; simp [h]
theorem len_IF {w : Vl.PW} {K : Fg} (h : spIF c n w K vs H Q E) : vs.length = n + 1 := by obtain ⟨_, _, _, _, _, _, _, _, rfl, h, _⟩ := h; simp [h]
end
/-! ### calls -/
def pCall (w : Vl.PW) (ds : List PV) (t : GA) : GE := fun γ Q => t γ fun xs => w (xs ++ ds) Q
def pCallK (w : Vl.PW) (t t' : GA) : GE := fun γ Q => t γ fun xs => t' γ fun ys => w (xs ++ ys) Q
def pMeth (c : Nat) (w : Vl.PW) (ds : List PV) (o : GE) (t : GA) : GE := fun γ Q => o γ fun x => match x with | .ins c' fs => c' = c ∧ t γ fun xs => w (x :: (xs ++ ds)) Q | _ => False
section
variable {X : Cx} {ks : List Kd} {a s a1 s1 a2 s2 : Bool} {e o : Expr} {es : List Expr} {kws : List Keyword} {p : GE} {pa pk : GA} {pos : Pos} {n c m : Nat} {w : Vl.PW} {ds : List PV} {dvs : List V} {x : Str} {sp : Sp} {t : TE} {f : Str}
/-- values that stand whatever the heap: defaults -/
def Dfl (K : Fg) (ds : List PV) (dvs : List V) : Prop := ∀ q r A H, RpL ⟨K, q, r⟩ A H ds dvs
theorem dfl_nil {K : Fg} : Dfl K [] [] := fun _ _ _ _ => .nil
theorem Dfl.b {K : Fg} (h : Dfl K ds dvs) {B : Bg} (hK : B.K = K) (A : Addr → Prop) (H : Hp) : RpL B A H ds dvs := by subst hK; exact h _ _ _ _
abbrev QK (X : Cx) (ks : List Kd) (a s : Bool) (kws : List Keyword) (p : GA) : Prop := PK X kws (tA X.K ks a s kws.length p)
theorem PKi {t t' : TA} (h : PK X kws t) (i : ∀ σ H Q, t' σ H Q → t σ H Q) : PK X kws t' := ⟨fun pos pins s σ H Q I q => h.run pos pins s σ H Q I (i _ _ _ q)⟩
theorem qk_nil : QK X ks true true [] pNil := PKi pk_nil fun σ H Q ⟨E, L, γ, Qp, hK, R, hp, k⟩ => k [] [] H hp (.refl _ _) .nil rfl
theorem qk_cons {nm : Option Str} {kpos : Pos} (h : QE X ks a1 s1 e p) (t : QK X ks a2 s2 kws pa) (ha : a = (a1 && a2) := by rfl) (hb : s = (s1 && s2) := by rfl) : QK X ks a s (⟨nm, e, kpos⟩ :: kws) (pCons p pa) := by
  subst ha hb
  exact PKi (pk_cons h t) fun σ H Q ⟨E, L, γ, Qp, hK, R, hp, k⟩ => by
    refine ⟨E, L, γ, _, hK, R, hp, fun x v H1 q1 x1 r1 => ⟨E, L, γ, _, hK, R.ex x1, q1, fun xs vs H2 q2 x2 r2 l2 => ?_⟩⟩
    exact k _ _ H2 q2 (x1.trans x2) (.cons ((r1.ex x2 av_q).anti fun c z => av_mono and_l and_l z) (r2.anti fun c z => av_mono and_r and_r z)) (by simp [l2])
/-- a call by a promise, at the point where the arguments are there -/
theorem call_N {E : Ac} {L : List Addr} {γ : G} {σ : St} {H : Hp} {Q : VK} {XE : XK} {Qp : PV → Prop} {xs : List PV} {vs : List V} (hK : E.B.K = X.K) (R : Rel E L ks γ σ H) (r : RpL E.B (av E L a s) H xs vs) (hl : vs.length = n) (hw : w xs Qp)
    (k : ∀ z t H', Qp z → Ex E.B H H' → Rp E.B (av E L a s) H' z t → Q t H') : spN n w X.K vs H Q XE := by
  obtain ⟨⟨K, q, r0⟩, A0, H0, me⟩ := E
  cases hK
  exact ⟨q, r0, av ⟨⟨X.K, q, r0⟩, A0, H0, me⟩ L a s, xs, Qp, hl, av_q, fun b z => av_nn R z, R.bag, r, hw, k⟩
theorem call_F {E : Ac} {L : List Addr} {γ : G} {σ : St} {H : Hp} {Q : VK} {XE : XK} {Qp : PV → Prop} {xs : List PV} {vs : List V} (hK : E.B.K = X.K) (R : Rel E L ks γ σ H) (r : RpL E.B (av E L a s) H xs vs) (hl : vs.length = n) (hw : w xs Qp)
    (k : ∀ z t H', Qp z → Ex E.B H H' → Rp E.B (av E L true true) H' z t → Q t H') : spF n w X.K vs H Q XE := by
  obtain ⟨⟨K, q, r0⟩, A0, H0, me⟩ := E
  cases hK
  exact ⟨q, r0, xs, Qp, hl, R.bag, r.q, hw, fun z t H' qz x rz => k z t H' qz x (rz.anti fun b z => av_nn R z)⟩
theorem qe_callN {ps : List Str} (pe : ∀ {t : TA}, PA X es t → PE X e (tCall (spN n w X.K) dvs E0 t)) (hd : Dfl X.K ds dvs) (h : QA X ks a s es pa) (hn : es.length + dvs.length = n := by rfl) : QE X ks a s e (pCall w ds pa) :=
  PEi (pe h) fun σ H Q ⟨E, L, γ, Qp, hK, R, hp, k⟩ => by
    refine ⟨E, L, γ, _, hK, R, hp, fun xs vs H1 q1 x1 r1 l1 => ?_⟩
    exact call_N hK (R.ex x1) (r1.append (hd.b hK _ _)) (by rw [List.length_append, ← r1.length, l1]; exact hn) q1 fun z t H' qz x2 rz => k z t H' qz (x1.trans x2) rz
theorem qe_callF {ps : List Str} (pe : ∀ {t : TA}, PA X es t → PE X e (tCall (spF n w X.K) dvs E0 t)) (hd : Dfl X.K ds dvs) (h : QA X ks a s es pa) (hn : es.length + dvs.length = n := by rfl) : QE X ks true true e (pCall w ds pa) :=
  PEi (pe h) fun σ H Q ⟨E, L, γ, Qp, hK, R, hp, k⟩ => by
    refine ⟨E, L, γ, _, hK, R, hp, fun xs vs H1 q1 x1 r1 l1 => ?_⟩
    exact call_F hK (R.ex x1) (r1.append (hd.b hK _ _)) (by rw [List.length_append, ← r1.length, l1]; exact hn) q1 fun z t H' qz x2 rz => k z t H' qz (x1.trans x2) rz
theorem qe_callKN (pe : ∀ {t tk : TA}, PA X es t → PK X kws tk → PE X e (tCallN es.length kws.length (spN n w X.K) (fun vs zs => vs ++ zs) E0 t tk)) (h : QA X ks a1 s1 es pa) (h' : QK X ks a2 s2 kws pk) (hn : es.length + kws.length = n := by rfl) : QE X ks (a1 && a2) (s1 && s2) e (pCallK w pa pk) :=
  PEi (pe h h') fun σ H Q ⟨E, L, γ, Qp, hK, R, hp, k⟩ => by
    refine ⟨E, L, γ, _, hK, R, hp, fun xs vs H1 q1 x1 r1 l1 => ⟨E, L, γ, _, hK, R.ex x1, q1, fun ys us H2 q2 x2 r2 l2 => ⟨by rw [← r1.length, l1], by rw [← r2.length, l2], ?_⟩⟩⟩
    exact call_N hK ((R.ex x1).ex x2) (((r1.ex x2 av_q).anti fun c z => av_mono and_l and_l z).append (r2.anti fun c z => av_mono and_r and_r z)) (by rw [List.length_append, ← r1.length, ← r2.length, l1, l2]; exact hn) q2 fun z t H' qz x3 rz => k z t H' qz (x1.trans (x2.trans x3)) rz
theorem qe_callKF (pe : ∀ {t tk : TA}, PA X es t → PK X kws tk → PE X e (tCallN es.length kws.length (spF n w X.K) (fun vs zs => vs ++ zs) E0 t tk)) (h : QA X ks a1 s1 es pa) (h' : QK X ks a2 s2 kws pk) (hn : es.length + kws.length = n := by rfl) : QE X ks true true e (pCallK w pa pk) :=
  PEi (pe h h') fun σ H Q ⟨E, L, γ, Qp, hK, R, hp, k⟩ => by
    refine ⟨E, L, γ, _, hK, R, hp, fun xs vs H1 q1 x1 r1 l1 => ⟨E, L, γ, _, hK, R.ex x1, q1, fun ys us H2 q2 x2 r2 l2 => ⟨by rw [← r1.length, l1], by rw [← r2.length, l2], ?_⟩⟩⟩
    exact call_F (a := false) (s := false) hK ((R.ex x1).ex x2) (((r1.ex x2 av_q).anti fun c z => av_mono (a' := false) (s' := false) (fun z => nomatch z) (fun z => nomatch z) z).append (r2.anti fun c z => av_mono (a' := false) (s' := false) (fun z => nomatch z) (fun z => nomatch z) z)) (by rw [List.length_append, ← r1.length, ← r2.length, l1, l2]; exact hn) q2 fun z t H' qz x3 rz => k z t H' qz (x1.trans (x2.trans x3)) rz
theorem no_lookup {ws : List (Str × V)} {ns : List Str} {f : Str} {k : Nat} (h : ws.map (·.1) = ns.take k) (n : ns.all (fun g => !decide (g = f)) = true) : ws.lookup f = none := by
  rw [List.lookup_eq_none_iff]
  intro p hp
  have : p.1 ∈ ns := List.mem_of_mem_take (by rw [← h]; exact List.mem_map_of_mem hp)
  have := List.all_eq_true.mp n _ this
  simp at this
  simpa using fun z => this z.symm
theorem qe_methN (pe : ∀ {ta : TE} {t : TA}, PE X o ta → PA X es t → PE X e (tMeth (He.ga X.K (clsT c).1) f (spN n w X.K) dvs E0 ta t)) (hd : Dfl X.K ds dvs) (ho : QE X ks a1 s1 o p) (h : QA X ks a2 s2 es pa)
    (hm : (clsT c).2.all (fun g => !decide (g = f)) = true := by decide +kernel) (hn : es.length + dvs.length + 1 = n := by rfl) : QE X ks (a1 && a2) (s1 && s2) e (pMeth c w ds p pa) :=
  PEi (pe ho h) fun σ H Q ⟨E, L, γ, Qp, hK, R, hp, k⟩ => by
    refine ⟨E, L, γ, _, hK, R, hp, fun x v H1 q1 x1 r1 => ?_⟩
    have r1' := r1
    cases r1 <;> first | exact q1.elim | skip
    rename_i b dx c' ws xs vs n1 h1 h2 h3 r
    obtain ⟨rfl, q1⟩ := q1
    refine ⟨b, dx, ws, rfl, by rw [← hK]; exact h1, no_lookup h2 hm, E, L, γ, _, hK, R.ex x1, q1, fun ys us H2 q2 x2 r2 l2 => ?_⟩
    exact call_N hK ((R.ex x1).ex x2) (.cons ((r1'.ex x2 av_q).anti fun c z => av_mono and_l and_l z) ((r2.anti fun c z => av_mono and_r and_r z).append (hd.b hK _ _))) (by rw [List.length_cons, List.length_append, ← r2.length, l2]; exact hn) q2 fun z t H' qz x3 rz => k z t H' qz (x1.trans (x2.trans x3)) rz
theorem qe_methF (pe : ∀ {ta : TE} {t : TA}, PE X o ta → PA X es t → PE X e (tMeth (He.ga X.K (clsT c).1) f (spF n w X.K) dvs E0 ta t)) (hd : Dfl X.K ds dvs) (ho : QE X ks a1 s1 o p) (h : QA X ks a2 s2 es pa)
    (hm : (clsT c).2.all (fun g => !decide (g = f)) = true := by decide +kernel) (hn : es.length + dvs.length + 1 = n := by rfl) : QE X ks true true e (pMeth c w ds p pa) :=
  PEi (pe ho h) fun σ H Q ⟨E, L, γ, Qp, hK, R, hp, k⟩ => by
    refine ⟨E, L, γ, _, hK, R, hp, fun x v H1 q1 x1 r1 => ?_⟩
    have r1' := r1
    cases r1 <;> first | exact q1.elim | skip
    rename_i b dx c' ws xs vs n1 h1 h2 h3 r
    obtain ⟨rfl, q1⟩ := q1
    refine ⟨b, dx, ws, rfl, by rw [← hK]; exact h1, no_lookup h2 hm, E, L, γ, _, hK, R.ex x1, q1, fun ys us H2 q2 x2 r2 l2 => ?_⟩
    exact call_F (a := false) (s := false) hK ((R.ex x1).ex x2) (.cons ((r1'.ex x2 av_q).anti fun c z => av_mono (a' := false) (s' := false) (fun z => nomatch z) (fun z => nomatch z) z) ((r2.anti fun c z => av_mono (a' := false) (s' := false) (fun z => nomatch z) (fun z => nomatch z) z).append (hd.b hK _ _))) (by rw [List.length_cons, List.length_append, ← r2.length, l2]; exact hn) q2 fun z t H' qz x3 rz => k z t H' qz (x1.trans (x2.trans x3)) rz
theorem make_I {E : Ac} {L : List Addr} {γ : G} {σ : St} {H : Hp} {Q : VK} {XE : XK} {Qp : PV → Prop} {xs : List PV} {vs : List V} {x0 dx : Addr} (hK : E.B.K = X.K) (R : Rel E L ks γ σ H) (r : RpL E.B (av E L a s) H xs vs) (hl : vs.length = n) (hw : w xs Qp) (n1 : H x0 = none) (n2 : H dx = none) (n3 : dx ≠ x0)
    (k : ∀ z H', Qp z → Ex E.B H H' → Rp E.B (av E L a s) H' z (.ref x0) → Q (.ref x0) H') : spI c n w X.K (.ref x0 :: vs) (upd (upd H dx (.own x0)) x0 (.ins (He.ga X.K (clsT c).1) dx [])) (fun v H2 => v = .non ∧ Q (.ref x0) H2) XE := by
  obtain ⟨⟨K, q, r0⟩, A0, H0, me⟩ := E
  cases hK
  exact ⟨q, r0, av ⟨⟨X.K, q, r0⟩, A0, H0, me⟩ L a s, xs, Qp, x0, dx, H, vs, rfl, hl, n1, n2, n3, rfl, av_q, fun b z => av_nn R z, R.bag, r, hw, fun z H' qz x rz => ⟨rfl, k z H' qz x rz⟩⟩
theorem make_IF {E : Ac} {L : List Addr} {γ : G} {σ : St} {H : Hp} {Q : VK} {XE : XK} {Qp : PV → Prop} {xs : List PV} {vs : List V} {x0 dx : Addr} (hK : E.B.K = X.K) (R : Rel E L ks γ σ H) (r : RpL E.B (av E L a s) H xs vs) (hl : vs.length = n) (hw : w xs Qp) (n1 : H x0 = none) (n2 : H dx = none) (n3 : dx ≠ x0)
    (k : ∀ z H', Qp z → Ex E.B H H' → Rp E.B (av E L true true) H' z (.ref x0) → Q (.ref x0) H') : spIF c n w X.K (.ref x0 :: vs) (upd (upd H dx (.own x0)) x0 (.ins (He.ga X.K (clsT c).1) dx [])) (fun v H2 => v = .non ∧ Q (.ref x0) H2) XE := by
  obtain ⟨⟨K, q, r0⟩, A0, H0, me⟩ := E
  cases hK
  exact ⟨q, r0, xs, Qp, x0, dx, H, vs, rfl, hl, n1, n2, n3, rfl, R.bag, r.q, hw, fun z H' qz x rz => ⟨rfl, k z H' qz x (rz.anti fun b z => av_nn R z)⟩⟩
theorem qe_makI (pe : ∀ {t : TA}, PA X es t → PE X e (tMake (He.ga X.K (clsT c).1) (spI c n w X.K) dvs E0 t)) (hd : Dfl X.K ds dvs) (h : QA X ks a s es pa) (hn : es.length + dvs.length = n := by rfl) : QE X ks a s e (pCall w ds pa) :=
  PEi (pe h) fun σ H Q ⟨E, L, γ, Qp, hK, R, hp, k⟩ => by
    refine ⟨E, L, γ, _, hK, R, hp, fun xs vs H1 q1 x1 r1 l1 x0 dx n1 n2 n3 => ?_⟩
    exact make_I hK (R.ex x1) (r1.append (hd.b hK _ _)) (by rw [List.length_append, ← r1.length, l1]; exact hn) q1 n1 n2 n3 fun z H' qz x2 rz => k z _ H' qz (x1.trans x2) rz
theorem qe_makIF (pe : ∀ {t : TA}, PA X es t → PE X e (tMake (He.ga X.K (clsT c).1) (spIF c n w X.K) dvs E0 t)) (hd : Dfl X.K ds dvs) (h : QA X ks a s es pa) (hn : es.length + dvs.length = n := by rfl) : QE X ks true true e (pCall w ds pa) :=
  PEi (pe h) fun σ H Q ⟨E, L, γ, Qp, hK, R, hp, k⟩ => by
    refine ⟨E, L, γ, _, hK, R, hp, fun xs vs H1 q1 x1 r1 l1 x0 dx n1 n2 n3 => ?_⟩
    exact make_IF hK (R.ex x1) (r1.append (hd.b hK _ _)) (by rw [List.length_append, ← r1.length, l1]; exact hn) q1 n1 n2 n3 fun z H' qz x2 rz => k z _ H' qz (x1.trans x2) rz
theorem qe_makKI (pe : ∀ {t tk : TA}, PA X es t → PK X kws tk → PE X e (tMakeK (He.ga X.K (clsT c).1) es.length kws.length (spI c n w X.K) (fun vs zs => vs ++ zs) E0 t tk)) (h : QA X ks a1 s1 es pa) (h' : QK X ks a2 s2 kws pk) (hn : es.length + kws.length = n := by rfl) : QE X ks (a1 && a2) (s1 && s2) e (pCallK w pa pk) :=
  PEi (pe h h') fun σ H Q ⟨E, L, γ, Qp, hK, R, hp, k⟩ => by
    refine ⟨E, L, γ, _, hK, R, hp, fun xs vs H1 q1 x1 r1 l1 => ⟨E, L, γ, _, hK, R.ex x1, q1, fun ys us H2 q2 x2 r2 l2 => ⟨by rw [← r1.length, l1], by rw [← r2.length, l2], fun x0 dx n1 n2 n3 => ?_⟩⟩⟩
    exact make_I hK ((R.ex x1).ex x2) (((r1.ex x2 av_q).anti fun c z => av_mono and_l and_l z).append (r2.anti fun c z => av_mono and_r and_r z)) (by show (vs ++ us).length = n; rw [List.length_append, ← r1.length, ← r2.length, l1, l2]; exact hn) q2 n1 n2 n3 fun z H' qz x3 rz => k z _ H' qz (x1.trans (x2.trans x3)) rz
theorem qe_makKIF (pe : ∀ {t tk : TA}, PA X es t → PK X kws tk → PE X e (tMakeK (He.ga X.K (clsT c).1) es.length kws.length (spIF c n w X.K) (fun vs zs => vs ++ zs) E0 t tk)) (h : QA X ks a1 s1 es pa) (h' : QK X ks a2 s2 kws pk) (hn : es.length + kws.length = n := by rfl) : QE X ks true true e (pCallK w pa pk) :=
  PEi (pe h h') fun σ H Q ⟨E, L, γ, Qp, hK, R, hp, k⟩ => by
    refine ⟨E, L, γ, _, hK, R, hp, fun xs vs H1 q1 x1 r1 l1 => ⟨E, L, γ, _, hK, R.ex x1, q1, fun ys us H2 q2 x2 r2 l2 => ⟨by rw [← r1.length, l1], by rw [← r2.length, l2], fun x0 dx n1 n2 n3 => ?_⟩⟩⟩
    exact make_IF (a := false) (s := false) hK ((R.ex x1).ex x2) (((r1.ex x2 av_q).anti fun c z => av_mono (a' := false) (s' := false) (fun z => nomatch z) (fun z => nomatch z) z).append (r2.anti fun c z => av_mono (a' := false) (s' := false) (fun z => nomatch z) (fun z => nomatch z) z)) (by show (vs ++ us).length = n; rw [List.length_append, ← r1.length, ← r2.length, l1, l2]; exact hn) q2 n1 n2 n3 fun z H' qz x3 rz => k z _ H' qz (x1.trans (x2.trans x3)) rz
end
end Vl
namespace Vl
open PySem PySem.Spec L2 Lb
section
variable {X : Cx} {ks ks' kl : List Kd} {a s a1 s1 a2 s2 a3 s3 : Bool} {e e1 e2 e3 tg : Expr} {es : List Expr} {st : Stmt} {sts sts' : List Stmt} {p p1 p2 p3 : GE} {pa pb : GA} {pt : GT} {ps q : GS} {g g' : GG} {pos : Pos} {js js' : List Nat}
/-! operators -/
theorem qe_add (h1 : QE X ks a1 s1 e1 p1) (h2 : QE X ks a2 s2 e2 p2) (ha : a = (a1 && a2) := by rfl) (hb : s = (s1 && s2) := by rfl) : QE X ks a s (.BinOp e1 .Add e2 pos) (pOp oAdd p1 p2) := by
  subst ha hb
  exact qe_op2 add_ok (pe_op op_addV) h1 h2
theorem qe_mul (h1 : QE X ks a1 s1 e1 p1) (h2 : QE X ks a2 s2 e2 p2) (ha : a = (a1 && a2) := by rfl) (hb : s = (s1 && s2) := by rfl) : QE X ks a s (.BinOp e1 .Mult e2 pos) (pOp oMul p1 p2) := by
  subst ha hb
  exact qe_op2 mul_ok (pe_op op_mulV) h1 h2
theorem qe_sub (h1 : QE X ks a1 s1 e1 p1) (h2 : QE X ks a2 s2 e2 p2) : QE X ks true true (.BinOp e1 .Sub e2 pos) (pOp oSub p1 p2) := qe_opS sub_ok (pe_op op_subA) h1 h2
theorem qe_mod (h1 : QE X ks a1 s1 e1 p1) (h2 : QE X ks a2 s2 e2 p2) : QE X ks true true (.BinOp e1 .Mod e2 pos) (pOp oMod p1 p2) := qe_opS mod_ok (pe_op op_modA) h1 h2
theorem qe_div (h1 : QE X ks a1 s1 e1 p1) (h2 : QE X ks a2 s2 e2 p2) : QE X ks true true (.BinOp e1 .FloorDiv e2 pos) (pOp oDiv p1 p2) := qe_opS div_ok (pe_op op_divA) h1 h2
theorem qe_pow (h1 : QE X ks a1 s1 e1 p1) (h2 : QE X ks a2 s2 e2 p2) : QE X ks true true (.BinOp e1 .Pow e2 pos) (pOp oPow p1 p2) := qe_opS pow_ok (pe_op op_powA) h1 h2
theorem qe_eq (hu : X.A.units + 64 < cLine) (h1 : QE X ks a1 s1 e1 p1) (h2 : QE X ks a2 s2 e2 p2) : QE X ks true true (.Compare e1 [.Eq] [e2] pos) (pOp oEq p1 p2) := qe_opS eq_ok (fun x y => pe_cmpR (op_eqA hu) x y (nomark _)) h1 h2
theorem qt_eq (hu : X.A.units + 64 < cLine) (h1 : QE X ks a1 s1 e1 p1) (h2 : QE X ks a2 s2 e2 p2) : QT X ks (.Compare e1 [.Eq] [e2] pos) (pTest (pOp oEq p1 p2)) := qt_opS eq_ok (fun x y => pt_cmpR (op_eqA hu) x y (nomark _)) h1 h2
theorem qe_ne (hu : X.A.units + 64 < cLine) (h1 : QE X ks a1 s1 e1 p1) (h2 : QE X ks a2 s2 e2 p2) : QE X ks true true (.Compare e1 [.NotEq] [e2] pos) (pOp oNe p1 p2) := qe_opS ne_ok (fun x y => pe_cmpR (op_neA hu) x y (nomark _)) h1 h2
theorem qt_ne (hu : X.A.units + 64 < cLine) (h1 : QE X ks a1 s1 e1 p1) (h2 : QE X ks a2 s2 e2 p2) : QT X ks (.Compare e1 [.NotEq] [e2] pos) (pTest (pOp oNe p1 p2)) := qt_opS ne_ok (fun x y => pt_cmpR (op_neA hu) x y (nomark _)) h1 h2
theorem qe_lt (h1 : QE X ks a1 s1 e1 p1) (h2 : QE X ks a2 s2 e2 p2) : QE X ks true true (.Compare e1 [.Lt] [e2] pos) (pOp oLt p1 p2) := qe_opS lt_ok (fun x y => pe_cmpR op_ltA x y (nomark _)) h1 h2
theorem qt_lt (h1 : QE X ks a1 s1 e1 p1) (h2 : QE X ks a2 s2 e2 p2) : QT X ks (.Compare e1 [.Lt] [e2] pos) (pTest (pOp oLt p1 p2)) := qt_opS lt_ok (fun x y => pt_cmpR op_ltA x y (nomark _)) h1 h2
theorem qe_le (h1 : QE X ks a1 s1 e1 p1) (h2 : QE X ks a2 s2 e2 p2) : QE X ks true true (.Compare e1 [.LtE] [e2] pos) (pOp oLe p1 p2) := qe_opS le_ok (fun x y => pe_cmpR op_leA x y (nomark _)) h1 h2
theorem qt_le (h1 : QE X ks a1 s1 e1 p1) (h2 : QE X ks a2 s2 e2 p2) : QT X ks (.Compare e1 [.LtE] [e2] pos) (pTest (pOp oLe p1 p2)) := qt_opS le_ok (fun x y => pt_cmpR op_leA x y (nomark _)) h1 h2
theorem qe_gt (h1 : QE X ks a1 s1 e1 p1) (h2 : QE X ks a2 s2 e2 p2) : QE X ks true true (.Compare e1 [.Gt] [e2] pos) (pOp oGt p1 p2) := qe_opS gt_ok (fun x y => pe_cmpR op_gtA x y (nomark _)) h1 h2
theorem qt_gt (h1 : QE X ks a1 s1 e1 p1) (h2 : QE X ks a2 s2 e2 p2) : QT X ks (.Compare e1 [.Gt] [e2] pos) (pTest (pOp oGt p1 p2)) := qt_opS gt_ok (fun x y => pt_cmpR op_gtA x y (nomark _)) h1 h2
theorem qe_ge (h1 : QE X ks a1 s1 e1 p1) (h2 : QE X ks a2 s2 e2 p2) : QE X ks true true (.Compare e1 [.GtE] [e2] pos) (pOp oGe p1 p2) := qe_opS ge_ok (fun x y => pe_cmpR op_geA x y (nomark _)) h1 h2
theorem qt_ge (h1 : QE X ks a1 s1 e1 p1) (h2 : QE X ks a2 s2 e2 p2) : QT X ks (.Compare e1 [.GtE] [e2] pos) (pTest (pOp oGe p1 p2)) := qt_opS ge_ok (fun x y => pt_cmpR op_geA x y (nomark _)) h1 h2
theorem qe_in (h1 : QE X ks a1 s1 e1 p1) (h2 : QE X ks a2 s2 e2 p2) (hm : behindInMarks .In e2 = false := by rfl) : QE X ks true true (.Compare e1 [.In] [e2] pos) (pOp (oIn false) p1 p2) := qe_opS in_ok (fun x y => pe_cmpR op_inA x y hm) h1 h2
theorem qt_in (h1 : QE X ks a1 s1 e1 p1) (h2 : QE X ks a2 s2 e2 p2) (hm : behindInMarks .In e2 = false := by rfl) : QT X ks (.Compare e1 [.In] [e2] pos) (pTest (pOp (oIn false) p1 p2)) := qt_opS in_ok (fun x y => pt_cmpR op_inA x y hm) h1 h2
theorem qe_notIn (h1 : QE X ks a1 s1 e1 p1) (h2 : QE X ks a2 s2 e2 p2) (hm : behindInMarks .NotIn e2 = false := by rfl) : QE X ks true true (.Compare e1 [.NotIn] [e2] pos) (pOp (oIn true) p1 p2) := qe_opS notIn_ok (fun x y => pe_cmpR op_notInA x y hm) h1 h2
theorem qt_notIn (h1 : QE X ks a1 s1 e1 p1) (h2 : QE X ks a2 s2 e2 p2) (hm : behindInMarks .NotIn e2 = false := by rfl) : QT X ks (.Compare e1 [.NotIn] [e2] pos) (pTest (pOp (oIn true) p1 p2)) := qt_opS notIn_ok (fun x y => pt_cmpR op_notInA x y hm) h1 h2
theorem qe_is (h1 : QE X ks a1 s1 e1 p1) (h2 : QE X ks a2 s2 e2 p2) : QE X ks true true (.Compare e1 [.Is] [e2] pos) (pOp (oIs false) p1 p2) := qe_opS is_ok (fun x y => pe_cmpR op_isA x y (nomark _)) h1 h2
theorem qt_is (h1 : QE X ks a1 s1 e1 p1) (h2 : QE X ks a2 s2 e2 p2) : QT X ks (.Compare e1 [.Is] [e2] pos) (pTest (pOp (oIs false) p1 p2)) := qt_opS is_ok (fun x y => pt_cmpR op_isA x y (nomark _)) h1 h2
theorem qe_isNot (h1 : QE X ks a1 s1 e1 p1) (h2 : QE X ks a2 s2 e2 p2) : QE X ks true true (.Compare e1 [.IsNot] [e2] pos) (pOp (oIs true) p1 p2) := qe_opS isNot_ok (fun x y => pe_cmpR op_isNotA x y (nomark _)) h1 h2
theorem qt_isNot (h1 : QE X ks a1 s1 e1 p1) (h2 : QE X ks a2 s2 e2 p2) : QT X ks (.Compare e1 [.IsNot] [e2] pos) (pTest (pOp (oIs true) p1 p2)) := qt_opS isNot_ok (fun x y => pt_cmpR op_isNotA x y (nomark _)) h1 h2
theorem qe_ix (h1 : QE X ks a1 s1 e1 p1) (h2 : QE X ks a2 s2 e2 p2) (hs : PlainIx e2 := by intro _ _; rfl) (ha : a = (a1 && a2) := by rfl) (hb : s = (s1 && s2) := by rfl) : QE X ks a s (.Subscript e1 e2 pos) (pOp oIx p1 p2) := by
  subst ha hb
  exact qe_op2 ix_ok (fun x y => pe_ix ix_seq x y hs) h1 h2
/-! built-in calls by name -/
variable {x : Str} {p0 : Pos}
theorem qe_cbS {id : String} {r : List V → Hp → VK → Prop} {o : PCl} (ho : CallS X.K r o) (hc : CallR X (.builtin id) r) (hm : X.mg x = none) (hg : Gl X x) (hv : bootBuiltins x = some (.builtin id)) (h : QA X ks a s (e :: es) pa) (hn : x ≠ "__name__" := by decide) (hdb : (x == ("__debug__" : Str)) = false := by decide)
    (he : starEach (e :: es) X.env = (false, eval e X.env) :: starEach es X.env := by rfl) (hpl : (backTo pos (starEach es X.env)).any (·.1) = false := by rfl) : QE X ks true true (.Call (.Name x p0) (e :: es) [] pos) (pCB o pa) := cbS ho (fun t => pe_callB hc hg hm hv t hn hdb he hpl) h
theorem qe_ctS {T : String} {r : List V → Hp → VK → Prop} {o : PCl} (ho : CallS X.K r o) (hc : CallR X (.type T) r) (hm : X.mg x = none) (hg : Gl X x) (hv : bootBuiltins x = some (.type T)) (h : QA X ks a s (e :: es) pa) (hn : x ≠ "__name__" := by decide) (hdb : (x == ("__debug__" : Str)) = false := by decide)
    (he : starEach (e :: es) X.env = (false, eval e X.env) :: starEach es X.env := by rfl) (hpl : (backTo pos (starEach es X.env)).any (·.1) = false := by rfl) : QE X ks true true (.Call (.Name x p0) (e :: es) [] pos) (pCB o pa) := cbS ho (fun t => pe_callTy hc hg hm hv t hn hdb he hpl) h
theorem qe_ctP {T : String} {r : List V → Hp → VK → Prop} {o : PCl} (ho : CallP X.K r o) (hc : CallR X (.type T) r) (hm : X.mg x = none) (hg : Gl X x) (hv : bootBuiltins x = some (.type T)) (h : QA X ks a s (e :: es) pa) (hn : x ≠ "__name__" := by decide) (hdb : (x == ("__debug__" : Str)) = false := by decide)
    (he : starEach (e :: es) X.env = (false, eval e X.env) :: starEach es X.env := by rfl) (hpl : (backTo pos (starEach es X.env)).any (·.1) = false := by rfl) : QE X ks a s (.Call (.Name x p0) (e :: es) [] pos) (pCB o pa) := cbP ho (fun t => pe_callTy hc hg hm hv t hn hdb he hpl) h
theorem qe_ty (T : Kn) (hm : X.mg x = none) (hg : Gl X x) (hv : bootBuiltins x = some (.type (knS T))) (hn : x ≠ "__name__" := by decide) (hdb : (x == ("__debug__" : Str)) = false := by decide) : QE X ks true true (.Name x p0) (pC (.ty T)) := qe_c (pe_bltn (v := .ty (knS T)) hg hm hv rfl hn hdb) fun _ _ _ _ => .ty T
theorem qe_cls {c : Str} (h : X.mg c = some (.ref (He.ga X.K c))) (hg : Gl X c) (hd : (c == ("__debug__" : Str)) = false := by decide) : QE X ks true true (.Name c p0) (pC (.cls c)) := qe_c (pe_gref h hg hd) fun _ _ _ _ => .cls c
/-! own defs -/
variable {ps' : List Str} {k n c m : Nat} {w : Vl.PW} {ds : List PV} {dvs : List V} {kws : List Keyword} {kn : List Str} {o : Expr} {apos : Pos} {f : Str}
theorem qe_calF (cc : Cal X.prog X.w X.K X.mg X.base x k ps' (spF n w X.K) dvs) (hd : Dfl X.K ds dvs) (hr : Room k X.A) (hg : Gl X x) (h : QA X ks a s (e :: es) pa) (hn : (e :: es).length + dvs.length = n := by rfl) (hdb : (x == ("__debug__" : Str)) = false := by decide)
    (he : starEach (e :: es) X.env = (false, eval e X.env) :: starEach es X.env := by rfl) (hpl : (backTo pos (starEach es X.env)).any (·.1) = false := by rfl) : QE X ks true true (.Call (.Name x p0) (e :: es) [] pos) (pCall w ds pa) := qe_callF (ps := ps') (fun t => pe_cal cc hr hg t hdb he hpl) hd h hn
theorem qe_calN (cc : Cal X.prog X.w X.K X.mg X.base x k ps' (spN n w X.K) dvs) (hd : Dfl X.K ds dvs) (hr : Room k X.A) (hg : Gl X x) (h : QA X ks a s (e :: es) pa) (hn : (e :: es).length + dvs.length = n := by rfl) (hdb : (x == ("__debug__" : Str)) = false := by decide)
    (he : starEach (e :: es) X.env = (false, eval e X.env) :: starEach es X.env := by rfl) (hpl : (backTo pos (starEach es X.env)).any (·.1) = false := by rfl) : QE X ks a s (.Call (.Name x p0) (e :: es) [] pos) (pCall w ds pa) := qe_callN (ps := ps') (fun t => pe_cal cc hr hg t hdb he hpl) hd h hn
theorem qe_calKF (cc : CalK X.prog X.w X.K X.mg X.base x k ps' (spF n w X.K) (e :: es).length kn (fun vs zs => vs ++ zs)) (hr : Room k X.A) (hg : Gl X x) (h : QA X ks a1 s1 (e :: es) pa) (h' : QK X ks a2 s2 kws pb) (hn : (e :: es).length + kws.length = n := by rfl) (hall : (backToKw pos (keywordEach kws X.env)).all (·.1.isSome) = true := by rfl) (hks : (backToKw pos (keywordEach kws X.env)).filterMap (·.1) = kn := by rfl)
    (hdb : (x == ("__debug__" : Str)) = false := by decide) (he : starEach (e :: es) X.env = (false, eval e X.env) :: starEach es X.env := by rfl)
    (hpl : ((backTo pos (starEach (e :: es) X.env)).any (·.1) || (backToKw pos (keywordEach kws X.env)).any (·.1.isNone)) = false := by rfl)
    (hm : kn.length = kws.length := by rfl) : QE X ks true true (.Call (.Name x p0) (e :: es) kws pos) (pCallK w pa pb) := qe_callKF (fun t tk => pe_calK cc hr hg t tk hall hks hdb he hpl hm) h h' hn
theorem qe_mthF {pl : Sem Bool} (cc : CalM X.prog X.w X.K X.mg X.base (clsT c).1 f k ps' (spF n w X.K) dvs) (hd : Dfl X.K ds dvs) (hr : Room k X.A) (ho : QE X ks a1 s1 o p) (h : QA X ks a2 s2 (e :: es) pa) (hm : (clsT c).2.all (fun g => !decide (g = f)) = true := by decide +kernel) (hn : (e :: es).length + dvs.length + 1 = n := by rfl)
    (hst : starEach (e :: es) X.env = (false, eval e X.env) :: starEach es X.env := by rfl) (hpl : (backTo pos (starEach es X.env)).any (·.1) = false := by rfl)
    (ht : eval (.Call (.Attribute o f apos) (e :: es) [] pos) X.env = (do
      let ov ← eval o X.env
      standAt apos.atName
      let (f, first) ← holding [ov] (getMethod ov f pl)
      callWith pos f first (backTo pos (starEach (e :: es) X.env)) (backToKw pos (keywordEach [] X.env))) := by rfl) :
    QE X ks true true (.Call (.Attribute o f apos) (e :: es) [] pos) (pMeth c w ds p pa) := qe_methF (fun x y => pe_mth cc hr x y hst hpl ht) hd ho h hm hn
theorem qe_mthN {pl : Sem Bool} (cc : CalM X.prog X.w X.K X.mg X.base (clsT c).1 f k ps' (spN n w X.K) dvs) (hd : Dfl X.K ds dvs) (hr : Room k X.A) (ho : QE X ks a1 s1 o p) (h : QA X ks a2 s2 (e :: es) pa) (hm : (clsT c).2.all (fun g => !decide (g = f)) = true := by decide +kernel) (hn : (e :: es).length + dvs.length + 1 = n := by rfl)
    (hst : starEach (e :: es) X.env = (false, eval e X.env) :: starEach es X.env := by rfl) (hpl : (backTo pos (starEach es X.env)).any (·.1) = false := by rfl)
    (ht : eval (.Call (.Attribute o f apos) (e :: es) [] pos) X.env = (do
      let ov ← eval o X.env
      standAt apos.atName
      let (f, first) ← holding [ov] (getMethod ov f pl)
      callWith pos f first (backTo pos (starEach (e :: es) X.env)) (backToKw pos (keywordEach [] X.env))) := by rfl) (ha : a = (a1 && a2) := by rfl) (hb : s = (s1 && s2) := by rfl) :
    QE X ks a s (.Call (.Attribute o f apos) (e :: es) [] pos) (pMeth c w ds p pa) := by
  subst ha hb
  exact qe_methN (fun x y => pe_mth cc hr x y hst hpl ht) hd ho h hm hn
/-- o.m() -/
theorem qe_mth0 {pl : Sem Bool} {sp : Sp} (cc : CalM X.prog X.w X.K X.mg X.base (clsT c).1 f k ps' sp dvs) (hr : Room k X.A) (ho : QE X ks a1 s1 o p)
    (hs : ∀ {E : Ac} {L : List Addr} {γ : G} {σ : St} {H : Hp} {Q : VK} {Qp : PV → Prop} {xs : List PV} {vs : List V}, E.B.K = X.K → Rel E L ks γ σ H → RpL E.B (av E L a1 s1) H xs vs → vs.length = n → w xs Qp → (∀ z t H', Qp z → Ex E.B H H' → Rp E.B (av E L a s) H' z t → Q t H') → sp vs H Q E0)
    (hd : Dfl X.K ds dvs) (hm : (clsT c).2.all (fun g => !decide (g = f)) = true := by decide +kernel) (hn : dvs.length + 1 = n := by rfl)
    (ht : eval (.Call (.Attribute o f apos) [] [] pos) X.env = (do
      let ov ← eval o X.env
      standAt apos.atName
      let (f, first) ← holding [ov] (getMethod ov f pl)
      callWith pos f first (backTo pos (starEach [] X.env)) (backToKw pos (keywordEach [] X.env))) := by rfl) :
    QE X ks a s (.Call (.Attribute o f apos) [] [] pos) (pMeth c w ds p pNil) :=
  PEi (pe_mth0 cc hr ho ht) fun σ H Q ⟨E, L, γ, Qp, hK, R, hp, k⟩ => by
    refine ⟨E, L, γ, _, hK, R, hp, fun x v H1 q1 x1 r1 => ?_⟩
    have r1' := r1
    cases r1 <;> first | exact q1.elim | skip
    rename_i b dx c' ws xs vs n1 h1 h2 h3 r
    obtain ⟨rfl, q1⟩ := q1
    exact ⟨b, dx, ws, rfl, by rw [← hK]; exact h1, no_lookup h2 hm, hs hK (R.ex x1) (.cons r1' (hd.b hK _ _)) (by rw [List.length_cons]; exact hn) q1 fun z t H' qz x3 rz => k z t H' qz (x1.trans x3) rz⟩
theorem qe_mth0F {pl : Sem Bool} (cc : CalM X.prog X.w X.K X.mg X.base (clsT c).1 f k ps' (spF n w X.K) dvs) (hd : Dfl X.K ds dvs) (hr : Room k X.A) (ho : QE X ks a1 s1 o p) (hm : (clsT c).2.all (fun g => !decide (g = f)) = true := by decide +kernel) (hn : dvs.length + 1 = n := by rfl)
    (ht : eval (.Call (.Attribute o f apos) [] [] pos) X.env = (do
      let ov ← eval o X.env
      standAt apos.atName
      let (f, first) ← holding [ov] (getMethod ov f pl)
      callWith pos f first (backTo pos (starEach [] X.env)) (backToKw pos (keywordEach [] X.env))) := by rfl) :
    QE X ks true true (.Call (.Attribute o f apos) [] [] pos) (pMeth c w ds p pNil) := qe_mth0 cc hr ho (fun hK R r hl hw k => call_F hK R r hl hw k) hd hm hn ht
theorem qe_mth0N {pl : Sem Bool} (cc : CalM X.prog X.w X.K X.mg X.base (clsT c).1 f k ps' (spN n w X.K) dvs) (hd : Dfl X.K ds dvs) (hr : Room k X.A) (ho : QE X ks a1 s1 o p) (hm : (clsT c).2.all (fun g => !decide (g = f)) = true := by decide +kernel) (hn : dvs.length + 1 = n := by rfl)
    (ht : eval (.Call (.Attribute o f apos) [] [] pos) X.env = (do
      let ov ← eval o X.env
      standAt apos.atName
      let (f, first) ← holding [ov] (getMethod ov f pl)
      callWith pos f first (backTo pos (starEach [] X.env)) (backToKw pos (keywordEach [] X.env))) := by rfl) :
    QE X ks a1 s1 (.Call (.Attribute o f apos) [] [] pos) (pMeth c w ds p pNil) := qe_mth0 cc hr ho (fun hK R r hl hw k => call_N hK R r hl hw k) hd hm hn ht
theorem qe_mkI (cc : CalI X.prog X.w X.K X.mg X.base (clsT c).1 k ps' (spI c n w X.K) dvs) (hd : Dfl X.K ds dvs) (hr : Room (k + 1) X.A) (hg : Gl X (clsT c).1) (h : QA X ks a s (e :: es) pa) (hn : (e :: es).length + dvs.length = n := by rfl) (hdb : ((clsT c).1 == ("__debug__" : Str)) = false := by decide)
    (he : starEach (e :: es) X.env = (false, eval e X.env) :: starEach es X.env := by rfl) (hpl : (backTo pos (starEach es X.env)).any (·.1) = false := by rfl) : QE X ks a s (.Call (.Name (clsT c).1 p0) (e :: es) [] pos) (pCall w ds pa) := qe_makI (fun t => pe_mak cc hr hg t hdb he hpl) hd h hn
theorem qe_mkIF (cc : CalI X.prog X.w X.K X.mg X.base (clsT c).1 k ps' (spIF c n w X.K) dvs) (hd : Dfl X.K ds dvs) (hr : Room (k + 1) X.A) (hg : Gl X (clsT c).1) (h : QA X ks a s (e :: es) pa) (hn : (e :: es).length + dvs.length = n := by rfl) (hdb : ((clsT c).1 == ("__debug__" : Str)) = false := by decide)
    (he : starEach (e :: es) X.env = (false, eval e X.env) :: starEach es X.env := by rfl) (hpl : (backTo pos (starEach es X.env)).any (·.1) = false := by rfl) : QE X ks true true (.Call (.Name (clsT c).1 p0) (e :: es) [] pos) (pCall w ds pa) := qe_makIF (fun t => pe_mak cc hr hg t hdb he hpl) hd h hn
theorem qe_mkKI (cc : CalIK X.prog X.w X.K X.mg X.base (clsT c).1 k ps' (spI c n w X.K) (e :: es).length kn (fun vs zs => vs ++ zs)) (hr : Room (k + 1) X.A) (hg : Gl X (clsT c).1) (h : QA X ks a1 s1 (e :: es) pa) (h' : QK X ks a2 s2 kws pb) (hn : (e :: es).length + kws.length = n := by rfl) (hall : (backToKw pos (keywordEach kws X.env)).all (·.1.isSome) = true := by rfl) (hks : (backToKw pos (keywordEach kws X.env)).filterMap (·.1) = kn := by rfl)
    (hdb : ((clsT c).1 == ("__debug__" : Str)) = false := by decide) (he : starEach (e :: es) X.env = (false, eval e X.env) :: starEach es X.env := by rfl)
    (hpl : ((backTo pos (starEach (e :: es) X.env)).any (·.1) || (backToKw pos (keywordEach kws X.env)).any (·.1.isNone)) = false := by rfl)
    (hm : kn.length = kws.length := by rfl) (ha : a = (a1 && a2) := by rfl) (hb : s = (s1 && s2) := by rfl) : QE X ks a s (.Call (.Name (clsT c).1 p0) (e :: es) kws pos) (pCallK w pa pb) := by
  subst ha hb
  exact qe_makKI (fun t tk => pe_makK cc hr hg t tk hall hks hdb he hpl hm) h h' hn
theorem qe_mkKIF (cc : CalIK X.prog X.w X.K X.mg X.base (clsT c).1 k ps' (spIF c n w X.K) (e :: es).length kn (fun vs zs => vs ++ zs)) (hr : Room (k + 1) X.A) (hg : Gl X (clsT c).1) (h : QA X ks a1 s1 (e :: es) pa) (h' : QK X ks a2 s2 kws pb) (hn : (e :: es).length + kws.length = n := by rfl) (hall : (backToKw pos (keywordEach kws X.env)).all (·.1.isSome) = true := by rfl) (hks : (backToKw pos (keywordEach kws X.env)).filterMap (·.1) = kn := by rfl)
    (hdb : ((clsT c).1 == ("__debug__" : Str)) = false := by decide) (he : starEach (e :: es) X.env = (false, eval e X.env) :: starEach es X.env := by rfl)
    (hpl : ((backTo pos (starEach (e :: es) X.env)).any (·.1) || (backToKw pos (keywordEach kws X.env)).any (·.1.isNone)) = false := by rfl)
    (hm : kn.length = kws.length := by rfl) : QE X ks true true (.Call (.Name (clsT c).1 p0) (e :: es) kws pos) (pCallK w pa pb) := qe_makKIF (fun t tk => pe_makK cc hr hg t tk hall hks hdb he hpl hm) h h' hn
/-! names assigned a comprehension -/
theorem qs_setLc {i : Nat} {kk : Kd} {elt iter : Expr} {ifs : List Expr} {scope : Scope} {own : List (Str × Nat)} (pe : ∀ {wi : TI} {g : TG} {tt : TT} {te : TE}, PI X tg iter wi → (∀ (s : Shared) (H : Hp) (C : Addr) (cl : List (Str × Addr)) (fp : List Addr), PG (X.blk s H scope (compEnvC scope cl C X.env) fp) tg g) →
      (∀ (s : Shared) (H : Hp) (C : Addr) (cl : List (Str × Addr)) (fp : List Addr), PTs (X.blk s H scope (compEnvC scope cl C X.env) fp) ifs tt) → (∀ (s : Shared) (H : Hp) (C : Addr) (cl : List (Str × Addr)) (fp : List Addr), PE (X.blk s H scope (compEnvC scope cl C X.env) fp) elt te) → PS X st (tAsg (tLc wi g tt te (own.map (·.2))) (gName i)))
    (hi : QI X ks a1 tg iter pa) (hg : ∀ (s : Shared) (H : Hp) (C : Addr) (cl : List (Str × Addr)) (fp : List Addr), QG (X.blk s H scope (compEnvC scope cl C X.env) fp) ks a1 true (own.map (·.2)) tg g)
    (ht : ∀ (s : Shared) (H : Hp) (C : Addr) (cl : List (Str × Addr)) (fp : List Addr), QTs (X.blk s H scope (compEnvC scope cl C X.env) fp) ks ifs pt) (he : ∀ (s : Shared) (H : Hp) (C : Addr) (cl : List (Str × Addr)) (fp : List Addr), QE (X.blk s H scope (compEnvC scope cl C X.env) fp) ks a true elt p)
    (hk : ks[i]? = some kk := by rfl) (htk : takes kk a true = true := by rfl) : QS X ks ks kl st (pSet i (pLc (own.map (·.2)) pa g pt p)) :=
  PSi (pe hi hg ht he) fun D σ H ⟨E, L, γ, Dp, hK, R, hp, nx, rt, bk, ct⟩ => lc_ok hK R hp (fun _ h => h) fun ys acc D H1 q1 x1 n h r => nx L _ _ H1 x1.fw (by
    have := (R.ex x1).set (i := i) (takes_ok htk (.lst (fun z => av_nn R z n) h (r.anti fun c z => av_cons z))) (List.getElem?_eq_some_iff.mp hk).1
    rw [set_same hk] at this; exact this) q1
end
end Vl
namespace Vl
open PySem PySem.Spec L2 Lb
section
variable {X : Cx} {ks ks' kl : List Kd} {a s a1 s1 a2 s2 a3 s3 : Bool} {e e1 e2 e3 tg : Expr} {es ifs : List Expr} {st : Stmt} {sts sts' : List Stmt} {p p1 p2 p3 : GE} {pa pb : GA} {pt : GT} {ps q : GS} {g g' : GG} {pos : Pos} {js vs : List Nat}
/-! lists of what never changes: new ones that hold nothing of others -/
def bListOfI : PCl
  | [.lst xs], Q => immL xs = true ∧ Q (.lst xs)
  | [.tup xs], Q => immL xs = true ∧ Q (.lst xs)
  | _, _ => False
theorem listOfI_ok {K : Fg} : CallS K (rListOf K) bListOfI := by
  intro B H xs vs Q Qp hK r h k
  subst hK
  match xs, r, h with
  | [_], .cons r .nil, h =>
    cases r <;> first | exact (h : False).elim | skip
    · rename_i b vs xs n h1 r
      exact ⟨_, _, rfl, .inl (.inl (.inl h1)), fun p np => k _ _ _ h.2 (.new np) fun A aq nn => Rp.new (r.im h.1) aq np nn⟩
    · rename_i b vs xs h1 r
      exact ⟨_, _, rfl, .inr h1.sq, fun p np => k _ _ _ h.2 (.new np) fun A aq nn => Rp.new (r.im h.1) aq np nn⟩
  | [], _, h => exact (h : False).elim
  | _ :: _ :: _, .cons r _, h => cases r <;> exact (h : False).elim
def pSlI (p : GE) (l u : GO) : GE := fun γ Q => p γ fun x => l γ fun i => u γ fun j => match x with
  | .lst xs => immL (cutP xs i j) = true ∧ Q (.lst (cutP xs i j))
  | .str z => z.length ≤ sizeLine ∧ Q (.str (cutS z i j))
  | _ => False
theorem qe_slI {lo hi : Option Expr} {pl pu : GO} {q2 : Pos} (h : QE X ks a s e p) (hl : QO X ks lo pl) (hu : QO X ks hi pu) : QE X ks true true (.Subscript e (.Slice lo hi none q2) pos) (pSlI p pl pu) :=
  PEi (pe_slice sl_A h hl hu) fun σ H Q ⟨E, L, γ, Qp, hK, R, hp, k⟩ => by
    refine ⟨E, L, γ, _, hK, R, hp, fun x v H1 q1 x1 r1 => ⟨E, L, γ, _, hK, R.ex x1, q1, fun i H2 q2 x2 => ⟨E, L, γ, _, hK, (R.ex x1).ex x2, q2, fun j H3 q3 x3 => ?_⟩⟩⟩
    have r3 := (r1.ex x2 av_q).ex x3 av_q
    cases r3 <;> first | exact q3.elim | skip
    · exact .inr ⟨_, rfl, q3.1, k _ _ H3 q3.2 (x1.trans (x2.trans x3)) (.str _)⟩
    · rename_i b vs xs n h1 r
      exact .inl ⟨_, _, rfl, .inl (.inl h1), fun c nc => k _ _ _ q3.2 (x1.trans (x2.trans (x3.trans (.new nc)))) (Rp.new ((r.cut i j).im q3.1) av_q nc fun d z => av_nn (((R.ex x1).ex x2).ex x3) z)⟩
/-! a list repeated, of one's own -/
theorem qn_rep {pos1 : Pos} (h : QA X ks true true es pa) (h2 : QE X ks a2 s2 e2 p2) (hn : es.length ≤ 1000 := by decide) : QN X ks (.BinOp (.List es pos1) .Mult e2 pos) (pOp oMul (pLst pa) p2) :=
  PEi (pe_op op_mulA (pe_lst h) h2) fun σ H Q ⟨E, L, γ, Qp, hK, R, hp, k⟩ => by
    refine ⟨E, L, γ, _, hK, R, hp, fun xs vs H1 q1 x1 r1 l1 => ⟨by rw [← r1.length, l1]; exact few hn, fun b nb => ⟨E, L, γ, _, hK, (R.ex x1).ex (.new nb), q1, fun y u H2 q2 x2 r2 => ?_⟩⟩⟩
    cases r2 <;> first | exact (q2 : False).elim | skip
    rename_i i
    have x3 : Ex E.B H1 H2 := Ex.trans (.new nb) x2
    have hb : H2 b = some (.lst vs) := x2.st _ _ upd_same (fun z => R.ex x1 |>.bag.q (by rw [← z]; exact nb))
    have r := r1.ex x3 av_q
    refine .inr ⟨b, _, vs, rfl, rfl, hb, q2.1.1, q2.1.2.1, by rw [← r1.length]; exact q2.1.2.2, fun c nc => k _ _ _ q2.2 (x1.trans (x3.trans (.new nc))) (x1.free (x3.free nc)) ⟨_, upd_same, ((r.flat _).more nc).ex (.new nc) (.inl av_q)⟩⟩
/-! a list of lists, all of one's own -/
theorem Rel.moreL {E : Ac} {L : List Addr} {γ : G} {σ : St} {H H' : Hp} (R : Rel E L ks γ σ H) (x : Ex E.B H H') : ∀ (ds : List Addr), (∀ d ∈ ds, H d = none ∧ H' d ≠ none) → Rel E (ds ++ L) ks γ σ H'
  | [], _ => R.ex x
  | d :: ds, h => by
    have ih := R.moreL x ds fun c m => h c (by simp [m])
    refine ⟨ih.old, ih.onn, ih.bag, ih.a0, ih.aq, ih.ar, fun c m => ?_, ih.len, ?_⟩
    · rcases List.mem_cons.mp m with rfl | m
      · refine ⟨?_, (h c (by simp)).2⟩
        cases q : E.H0 c with
        | none => rfl
        | some o => exact absurd (h c (by simp)).1 (R.onn c (by rw [q]; exact nofun))
      · exact ih.lf c m
    · obtain ⟨O, h1, h2, h3, h4⟩ := R.sl
      refine ⟨O, fun i y hx => ?_, fun i c m => by simp; exact .inr (.inr (h2 i c m)), h3, h4⟩
      obtain ⟨v, hv, k⟩ := h1 i y hx
      refine ⟨v, hv, k.mv (fun a u e n _ => x.st a u e n) x.tp (fun c m => ?_) fun c m u e => x.st c u e (R.lq (h2 i c m))⟩
      have m' : c ∈ (d :: ds) ++ L := m
      rcases List.mem_append.mp m' with m | m
      · exact .inr (h c m).1
      · exact .inl m
theorem Fw.moreL {B : Bg} {L : List Addr} {H H' : Hp} {ds : List Addr} (x : Ex B H H') (h : ∀ d ∈ ds, H d = none) : Fw B L H (ds ++ L) H' where
  st := fun a u e _ m => x.st a u e m
  tp := x.tp
  nn := x.nn
  ls := fun a m => (List.mem_append.mp m).elim (fun z => .inr (h a z)) .inl
/-- what a new list of new lists is -/
def New2 (E : Ac) (L : List Addr) (H H' : Hp) (x : PV) (D : Addr) (as : List Addr) : Prop := ∃ ys, x = .lst ys ∧ H D = none ∧ (∀ b ∈ as, H b = none) ∧ (D :: as).Nodup ∧ H' D = some (.lst (as.map V.ref)) ∧ Obs E.B (av E (D :: as ++ L) true true) H' ys as
theorem Obs.nn {B : Bg} {A : Addr → Prop} {H : Hp} : ∀ {xs : List PV} {as : List Addr}, Obs B A H xs as → ∀ b ∈ as, H b ≠ none
  | _, _, .nil, _, m => nomatch m
  | _, _, .cons h t, b, m => by
    rcases List.mem_cons.mp m with rfl | m
    · rename_i x _ _
      cases x <;> first | exact (h : False).elim | (obtain ⟨_, h, _⟩ := h; rw [h]; exact nofun) | (obtain ⟨_, _, h, _⟩ := h; rw [h]; exact nofun)
    · exact t.nn b m
theorem Obs.append {B : Bg} {A : Addr → Prop} {H : Hp} : ∀ {xs ys : List PV} {as bs : List Addr}, Obs B A H xs as → Obs B A H ys bs → Obs B A H (xs ++ ys) (as ++ bs)
  | _, _, _, _, .nil, t => t
  | _, _, _, _, .cons h r, t => .cons h (r.append t)
theorem lc2_ok {E : Ac} {L : List Addr} {γ : G} {σ : St} {H : Hp} {Q : VK} {Qp : PV → Prop} (hK : E.B.K = X.K) (R : Rel E L ks γ σ H) (hp : pLc vs pa g pt p γ Qp) (hj : ∀ j ∈ js, j ∈ vs)
    (k : ∀ x as D H', Qp x → Ex E.B H H' → New2 E L H H' x D as → Q (.ref D) H') :
    tLc (tI X.K ks a1 pa) (tG X.K ks a1 true js g) (tT X.K ks pt) (tN X.K ks p) vs σ H Q := by
  refine ⟨E, L, γ, _, hK, R, hp, fun xs J H1 ⟨hz, hq⟩ x1 ⟨P, p0, pf, pg, ps⟩ D nD => ?_⟩
  have R1 := R.ex x1
  refine ⟨fun i m H => m = xs.length - i ∧ ∃ as ys Qk, Ex E.B H1 H ∧ (∀ b ∈ as, H1 b = none) ∧ (D :: as).Nodup ∧ H D = some (.lst (as.map V.ref)) ∧ Obs E.B (av E (D :: as ++ L) true true) H ys as ∧ as.length ≤ i ∧ lcP g pt p (wipeG γ vs) (xs.drop i) Qk ∧ ∀ zs, Qk zs → Qp (.lst (ys ++ zs)), ⟨_, rfl, [], [], _, .new nD, by simp, by simp, upd_same, .nil, by simp, hq, fun zs q => q⟩, ?_⟩
  rintro i m H2 ⟨rfl, as, ys, Qk, x2, hf, nd, hD, ob, hl, hk, hQ⟩
  have dn : ∀ d ∈ D :: as, H1 d = none ∧ H2 d ≠ none := fun d m => by
    rcases List.mem_cons.mp m with rfl | m
    · exact ⟨nD, by rw [hD]; exact nofun⟩
    · exact ⟨hf d m, ob.nn d m⟩
  have Rm : Rel E (D :: as ++ L) ks γ σ H2 := R1.moreL x2 _ dn
  have f2 : Fw E.B L H1 (D :: as ++ L) H2 := .moreL x2 fun d m => (dn d m).1
  by_cases hi : i < xs.length
  · right
    obtain ⟨go, yl⟩ := pg i _ H2 (pf _ _ _ _ p0 f2) hi
    refine ⟨go, fun H' => ∃ m', m' < xs.length - i ∧ (m' = xs.length - (i + 1) ∧ ∃ as ys Qk, Ex E.B H1 H' ∧ (∀ b ∈ as, H1 b = none) ∧ (D :: as).Nodup ∧ H' D = some (.lst (as.map V.ref)) ∧ Obs E.B (av E (D :: as ++ L) true true) H' ys as ∧ as.length ≤ i + 1 ∧ lcP g pt p (wipeG γ vs) (xs.drop (i + 1)) Qk ∧ ∀ zs, Qk zs → Qp (.lst (ys ++ zs))), fun H' h => h, fun v H3 hy => ?_⟩
    obtain ⟨x3, y, hy, ry⟩ := yl v H3 hy
    have hd : xs.drop i = y :: xs.drop (i + 1) := by
      rw [List.drop_eq_getElem_cons hi]
      rw [List.getElem?_eq_getElem hi] at hy; cases hy; rfl
    rw [hd] at hk
    have R3 := (Rm.ex x3).wipe vs
    refine ⟨E, _, wipeG γ vs, y, _, hK, R3, ry, hk, fun γ2 σ2 q2 R4 ss => ⟨ss.wipe hj, E, _, γ2, _, hK, R4, q2, fun b H4 q4 x4 => ?_⟩⟩
    have hDl : D ∈ D :: as ++ L := by simp
    have obx : ∀ {H'}, Ex E.B H2 H' → Obs E.B (av E (D :: as ++ L) true true) H' ys as := fun x => ob.mv (fun c u e n => x.st c u e (fun z => n (.inl z))) x.tp (fun _ z _ => z) fun c m u e => x.st c u e (Rm.lq (by simp [m]))
    cases b with
    | false =>
      refine ⟨_, by omega, rfl, as, ys, Qk, x2.trans (x3.trans x4), hf, nd, x4.st _ _ (x3.st _ _ hD (Rm.lq hDl)) (Rm.lq hDl), obx (x3.trans x4), by omega, q4, hQ⟩
    | true =>
      show if true = true then _ else _
      rw [if_pos rfl]
      refine ⟨E, _, γ2, _, hK, R4.ex x4, q4, fun z b H5 q5 x5 nb r5 => ?_⟩
      have x6 := x3.trans (x4.trans x5)
      have hD5 := x6.st _ _ hD (Rm.lq hDl)
      have nt : ∀ vs, H5 D ≠ some (.tup vs) := fun vs => by rw [hD5]; exact nofun
      have nb2 : H2 b = none := x3.free (x4.free nb)
      have bD : b ≠ D := fun z => by rw [z, hD] at nb2; cases nb2
      have bas : b ∉ as := fun m => ob.nn b m nb2
      have nt5 : ∀ c vs, H5 c = some (.tup vs) → c ≠ D := fun c vs e z => nt vs (z ▸ e)
      refine ⟨as.map V.ref, hD5, by simp; omega, _, by omega, rfl, as ++ [b], ys ++ [z], _, (x2.trans x6).inner nD R1.bag, fun c m => ?_, ?_, by rw [upd_same]; simp, ?_, by simp; omega, q5, fun zs q => by simpa using hQ _ q⟩
      · rcases List.mem_append.mp m with m | m
        · exact hf c m
        · simp at m; rw [m]; exact x2.free nb2
      · have := nd
        simp only [List.nodup_cons, List.mem_append, List.mem_singleton, not_or] at this ⊢
        refine ⟨⟨this.1, fun z => bD z.symm⟩, ?_⟩
        rw [List.nodup_append]
        exact ⟨this.2, by simp, fun c m c' m' z => by simp at m'; rw [m'] at z; exact bas (z ▸ m)⟩
      · have up : ∀ c u, H5 c = some u → ¬ av E (D :: as ++ L) true true c → upd H5 D (.lst (as.map V.ref ++ [.ref b])) c = some u := fun c u e n => by
          rw [upd_ne (fun z => n (.inr (.inr ⟨rfl, by rw [z]; simp⟩)))]; exact e
        have ut : ∀ c vs, H5 c = some (.tup vs) → upd H5 D (.lst (as.map V.ref ++ [.ref b])) c = some (.tup vs) := fun c vs e => by
          rw [upd_ne (nt5 c vs e)]; exact e
        have g1 : ∀ c, av E (D :: (as ++ [b]) ++ L) true true c → H2 c ≠ none → av E (D :: as ++ L) true true c := fun c z n => by
          rcases z with z | z | ⟨_, z⟩
          · exact .inl z
          · exact .inr (.inl z)
          · simp at z
            rcases z with z | z | z | z
            · exact .inr (.inr ⟨rfl, by simp [z]⟩)
            · exact .inr (.inr ⟨rfl, by simp [z]⟩)
            · rw [z] at n; exact absurd nb2 n
            · exact .inr (.inr ⟨rfl, by simp [z]⟩)
        refine Obs.append ?_ (.cons ?_ .nil)
        · exact ob.mv (fun c u e n => up c u (x6.st c u e (fun z => n (.inl z))) n) (fun c u e => ut c u (x6.tp c u e)) g1 fun c m u e => by
            rw [upd_ne (fun z => (List.nodup_cons.mp nd).1 (by rw [← z]; exact m))]
            exact x6.st c u e (Rm.lq (by simp [m]))
        · exact r5.mv (fun c u e n => up c u e (fun z => n (.inl z))) ut (fun c z n => by
            rcases z with z | z | ⟨_, z⟩
            · exact .inl (.inl z)
            · exact .inl (.inr (.inl z))
            · simp at z
              rcases z with z | z | z | z
              · exact .inl (.inr (.inr ⟨rfl, by simp [z]⟩))
              · exact .inl (.inr (.inr ⟨rfl, by simp [z]⟩))
              · exact .inr z
              · exact .inl (.inr (.inr ⟨rfl, by simp [z]⟩))) fun u e => by rw [upd_ne bD]; exact e
  · left
    have hi := Nat.not_lt.mp hi
    refine ⟨ps i _ H2 (pf _ _ _ _ p0 f2) hi, ?_⟩
    rw [List.drop_eq_nil_of_le hi] at hk
    exact k (.lst ys) as D H2 (by simpa using hQ [] hk) (x1.trans x2) ⟨ys, rfl, x1.free nD, fun b m => x1.free (hf b m), nd, hD, ob⟩
theorem qs_setLc2 {i : Nat} {elt iter : Expr} {scope : Scope} {own : List (Str × Nat)} (pe : ∀ {wi : TI} {g : TG} {tt : TT} {te : TE}, PI X tg iter wi → (∀ (s : Shared) (H : Hp) (C : Addr) (cl : List (Str × Addr)) (fp : List Addr), PG (X.blk s H scope (compEnvC scope cl C X.env) fp) tg g) →
      (∀ (s : Shared) (H : Hp) (C : Addr) (cl : List (Str × Addr)) (fp : List Addr), PTs (X.blk s H scope (compEnvC scope cl C X.env) fp) ifs tt) → (∀ (s : Shared) (H : Hp) (C : Addr) (cl : List (Str × Addr)) (fp : List Addr), PE (X.blk s H scope (compEnvC scope cl C X.env) fp) elt te) → PS X st (tAsg (tLc wi g tt te (own.map (·.2))) (gName i)))
    (hi : QI X ks a1 tg iter pa) (hg : ∀ (s : Shared) (H : Hp) (C : Addr) (cl : List (Str × Addr)) (fp : List Addr), QG (X.blk s H scope (compEnvC scope cl C X.env) fp) ks a1 true (own.map (·.2)) tg g)
    (ht : ∀ (s : Shared) (H : Hp) (C : Addr) (cl : List (Str × Addr)) (fp : List Addr), QTs (X.blk s H scope (compEnvC scope cl C X.env) fp) ks ifs pt) (he : ∀ (s : Shared) (H : Hp) (C : Addr) (cl : List (Str × Addr)) (fp : List Addr), QN (X.blk s H scope (compEnvC scope cl C X.env) fp) ks elt p)
    (hik : i < ks.length := by decide) : QS X ks (ks.set i .own2) kl st (pSet i (pLc (own.map (·.2)) pa g pt p)) :=
  PSi (pe hi hg ht he) fun D σ H ⟨E, L, γ, Dp, hK, R, hp, nx, rt, bk, ct⟩ => lc2_ok hK R hp (fun _ h => h) fun x as b H1 q1 x1 ⟨ys, e0, n1, n2, nd, h1, ob⟩ => by
    have dn : ∀ d ∈ b :: as, H d = none ∧ H1 d ≠ none := fun d m => by
      rcases List.mem_cons.mp m with rfl | m
      · exact ⟨n1, by rw [h1]; exact nofun⟩
      · exact ⟨n2 d m, ob.nn d m⟩
    have R1 := R.moreL x1 _ dn
    have f1 : Fw E.B L H (b :: as ++ L) H1 := .moreL x1 fun d m => (dn d m).1
    refine nx _ _ _ H1 f1 (R.put (i := i) (k := .own2) (x := x) (v := .ref b) (O' := b :: as) f1 (fun c m _ o e => x1.st c o e (R.lq m)) R1.old R1.bag (fun c m => ?_) (fun c m => (R1.lf c m).2) (fun _ h => by simp [h]) ⟨b, ys, as, rfl, rfl, e0, h1, ob⟩ (fun c m => List.mem_append.mpr (.inl m)) nd ?_ hik) q1
    · rcases List.mem_append.mp m with m | m
      · exact .inr (R1.lf c (List.mem_append.mpr (.inl m))).1
      · exact .inl m
    · intro O g2 g3 g1 j c hj hc m
      exact (R.lf c (g2 j c m)).2 (dn c hc).1
def tN2 (K : Fg) (ks : List Kd) (p : GE) : TE := fun σ H Q => ∃ (E : Ac) (L : List Addr) (γ : G) (Qp : PV → Prop), E.B.K = K ∧ Rel E L ks γ σ H ∧ p γ Qp ∧
  ∀ x as D H', Qp x → Ex E.B H H' → New2 E L H H' x D as → Q (.ref D) H'
abbrev QN2 (X : Cx) (ks : List Kd) (e : Expr) (p : GE) : Prop := PE X e (tN2 X.K ks p)
theorem qn2_lc {elt iter : Expr} {scope : Scope} {own : List (Str × Nat)} (pe : ∀ {wi : TI} {g : TG} {tt : TT} {te : TE}, PI X tg iter wi → (∀ (s : Shared) (H : Hp) (C : Addr) (cl : List (Str × Addr)) (fp : List Addr), PG (X.blk s H scope (compEnvC scope cl C X.env) fp) tg g) →
      (∀ (s : Shared) (H : Hp) (C : Addr) (cl : List (Str × Addr)) (fp : List Addr), PTs (X.blk s H scope (compEnvC scope cl C X.env) fp) ifs tt) → (∀ (s : Shared) (H : Hp) (C : Addr) (cl : List (Str × Addr)) (fp : List Addr), PE (X.blk s H scope (compEnvC scope cl C X.env) fp) elt te) → PE X e (tLc wi g tt te (own.map (·.2))))
    (hi : QI X ks a1 tg iter pa) (hg : ∀ (s : Shared) (H : Hp) (C : Addr) (cl : List (Str × Addr)) (fp : List Addr), QG (X.blk s H scope (compEnvC scope cl C X.env) fp) ks a1 true (own.map (·.2)) tg g)
    (ht : ∀ (s : Shared) (H : Hp) (C : Addr) (cl : List (Str × Addr)) (fp : List Addr), QTs (X.blk s H scope (compEnvC scope cl C X.env) fp) ks ifs pt) (he : ∀ (s : Shared) (H : Hp) (C : Addr) (cl : List (Str × Addr)) (fp : List Addr), QN (X.blk s H scope (compEnvC scope cl C X.env) fp) ks elt p) :
    QN2 X ks e (pLc (own.map (·.2)) pa g pt p) :=
  PEi (pe hi hg ht he) fun σ H Q ⟨E, L, γ, Qp, hK, R, hp, k⟩ => lc2_ok hK R hp (fun _ h => h) fun x as D H' q x1 n => k x as D H' q x1 n
theorem qs_setN2 {i : Nat} (pe : ∀ {t : TE}, PE X e t → PS X st (tAsg t (gName i))) (h : QN2 X ks e p) (hik : i < ks.length := by decide) : QS X ks (ks.set i .own2) kl st (pSet i p) :=
  PSi (pe h) fun D σ H ⟨E, L, γ, Dp, hK, R, hp, nx, rt, bk, ct⟩ => ⟨E, L, γ, _, hK, R, hp, fun x as b H1 q1 x1 ⟨ys, e0, n1, n2, nd, h1, ob⟩ => by
    have dn : ∀ d ∈ b :: as, H d = none ∧ H1 d ≠ none := fun d m => by
      rcases List.mem_cons.mp m with rfl | m
      · exact ⟨n1, by rw [h1]; exact nofun⟩
      · exact ⟨n2 d m, ob.nn d m⟩
    have R1 := R.moreL x1 _ dn
    have f1 : Fw E.B L H (b :: as ++ L) H1 := .moreL x1 fun d m => (dn d m).1
    refine nx _ _ _ H1 f1 (R.put (i := i) (k := .own2) (x := x) (v := .ref b) (O' := b :: as) f1 (fun c m _ o e => x1.st c o e (R.lq m)) R1.old R1.bag (fun c m => ?_) (fun c m => (R1.lf c m).2) (fun _ h => by simp [h]) ⟨b, ys, as, rfl, rfl, e0, h1, ob⟩ (fun c m => List.mem_append.mpr (.inl m)) nd ?_ hik) q1
    · rcases List.mem_append.mp m with m | m
      · exact .inr (R1.lf c (List.mem_append.mpr (.inl m))).1
      · exact .inl m
    · intro O g2 g3 g1 j c hj hc m
      exact (R.lf c (g2 j c m)).2 (dn c hc).1⟩
/-- x[i][j] = e -/
def pSetIx2 (i : Nat) (k1 k2 e : GE) : GS := fun D γ => e γ fun y => getS γ i fun x => k1 γ fun m => match x, m with
  | .lst xs, .int m => (match ixN xs.length m with
    | some i1 => (match xs[i1]? with
      | some (.lst r) => k2 γ fun n => match n with
        | .int n => (match ixN r.length n with | some j => D.nx (γ.set i (some (.lst (xs.set i1 (.lst (r.set j y)))))) | none => False)
        | _ => False
      | _ => False)
    | none => False)
  | _, _ => False
theorem Obs.get {B : Bg} {A : Addr → Prop} {H : Hp} : ∀ {xs : List PV} {as : List Addr}, Obs B A H xs as → ∀ {i : Nat} {x : PV}, xs[i]? = some x → ∃ b, as[i]? = some b ∧ Ob B A H b x
  | _, _, .nil, _, _, e => by simp at e
  | _, _, .cons h _, 0, _, e => by simp at e; subst e; exact ⟨_, rfl, h⟩
  | _, _, .cons _ t, i + 1, _, e => by simpa using t.get (by simpa using e)
theorem Obs.len {B : Bg} {A : Addr → Prop} {H : Hp} : ∀ {xs : List PV} {as : List Addr}, Obs B A H xs as → xs.length = as.length
  | _, _, .nil => rfl
  | _, _, .cons _ t => by simp [t.len]
theorem Obs.set {B : Bg} {A : Addr → Prop} {H H' : Hp} (f : ∀ c x, Ob B A H c x → ∀ o, H c = some o → H' c = some o → Ob B A H' c x) : ∀ {xs : List PV} {as : List Addr} {i : Nat} {b : Addr} {y : PV}, Obs B A H xs as → as[i]? = some b → as.Nodup → (∀ c, c ≠ b → c ∈ as → ∀ o, H c = some o → H' c = some o) → (∀ c ∈ as, ∃ o, H c = some o) → Ob B A H' b y → Obs B A H' (xs.set i y) as
  | _, _, _, _, _, .nil, e, _, _, _, _ => by simp at e
  | _, _, 0, b, y, .cons (a := c) (as := as) h t, e, nd, g, hh, hb => by
    simp at e; subst e
    rw [List.nodup_cons] at nd
    refine .cons hb ?_
    have : ∀ {xs : List PV} {as' : List Addr}, Obs B A H xs as' → (∀ d ∈ as', d ∈ as) → Obs B A H' xs as' := by
      intro xs as' o
      induction o with
      | nil => intro _; exact .nil
      | cons h0 t0 ih =>
        rename_i x0 xs0 d ds
        intro hm
        have hd : d ∈ as := hm d (by simp)
        obtain ⟨o0, ho⟩ := hh d (by simp [hd])
        exact .cons (f _ _ h0 o0 ho (g d (fun z => nd.1 (z ▸ hd)) (by simp [hd]) o0 ho)) (ih fun d' m => hm d' (by simp [m]))
    exact this t fun d m => m
  | _, _, i + 1, b, y, .cons (a := c) (as := as) h t, e, nd, g, hh, hb => by
    rw [List.nodup_cons] at nd
    have e' : as[i]? = some b := by simpa using e
    have hc : c ≠ b := fun z => nd.1 (by rw [z]; exact List.mem_of_getElem? e')
    obtain ⟨o0, ho⟩ := hh c (by simp)
    exact .cons (f _ _ h o0 ho (g c hc (by simp) o0 ho)) (t.set f e' nd.2 (fun d n m => g d n (by simp [m])) (fun d m => hh d (by simp [m])) hb)
theorem refs_inj : ∀ {as bs : List Addr}, as.map V.ref = bs.map V.ref → as = bs
  | [], [], _ => rfl
  | [], _ :: _, h => by simp at h
  | _ :: _, [], h => by simp at h
  | a :: as, b :: bs, h => by
    simp only [List.map_cons, List.cons.injEq, V.ref.injEq] at h
    rw [h.1, refs_inj h.2]
theorem qs_setIx2 {i : Nat} (pe : ∀ {t t' t2 : TE}, PE X e t → PE X e2 t' → PE X e3 t2 → PS X st (tAsg t (gSub (tOp (rIxL X.K) (tVar i) t') t2 rSetL))) (h : QE X ks true true e p) (h2 : QE X ks a2 s2 e2 p2) (h3 : QE X ks a3 s3 e3 p3) (hk : ks[i]? = some .own2 := by rfl) : QS X ks ks kl st (pSetIx2 i p2 p3 p) :=
  PSi (pe h h2 h3) fun D σ H ⟨E, L, γ, Dp, hK, R, hp, nx, rt, bk, ct⟩ => by
    refine ⟨E, L, γ, _, hK, R, hp, fun y u H1 q1 x1 ry => ?_⟩
    obtain ⟨x, hx, q⟩ := getS_of q1
    have R1 := R.ex x1
    obtain ⟨O, h1, o2, o3, o4⟩ := R1.sl
    obtain ⟨v, hv, kk⟩ := h1 i x hx
    rw [getElem?_kd hk] at kk
    obtain ⟨b, xs, as, rfl, ho, rfl, hb, ob⟩ := kk
    refine ⟨.ref b, hv, E, L, γ, _, hK, R1, q, fun m w H2 q2 x2 rm => ?_⟩
    cases rm <;> first | exact (q2 : False).elim | skip
    rename_i m
    have bL : b ∈ L := o2 i b (by rw [ho]; simp)
    have asL : ∀ c ∈ as, c ∈ L := fun c hc => o2 i c (by rw [ho]; simp [hc])
    have hb2 : H2 b = some (.lst (as.map V.ref)) := x2.st _ _ hb (R.lq bL)
    have ob2 : Obs E.B (av E L true true) H2 xs as := ob.mv (fun c u e n => x2.st c u e (fun z => n (.inl z))) x2.tp (fun _ z _ => z) fun c hc u e => x2.st c u e (R.lq (asL c hc))
    cases e1 : ixN xs.length m with
    | none => simp only [e1] at q2
    | some i1 =>
      simp only [e1] at q2
      cases e2 : xs[i1]? with
      | none => simp only [e2] at q2
      | some rr =>
        simp only [e2] at q2
        cases rr <;> first | exact (q2 : False).elim | skip
        rename_i r
        obtain ⟨c, hc, oc⟩ := ob2.get e2
        refine ⟨b, as.map V.ref, m, .ref c, rfl, rfl, .inl (.inl hb2), ?_, E, L, γ, _, hK, R1.ex x2, q2, fun n w H3 q3 x3 rn => ?_⟩
        · unfold atI; rw [List.length_map, ← ob2.len, e1]; simp [hc]
        · cases rn <;> first | exact (q3 : False).elim | skip
          rename_i n
          have hcm : c ∈ as := List.mem_of_getElem? hc
          have cL : c ∈ L := asL c hcm
          obtain ⟨ws, hw, rw'⟩ := oc
          have hw3 : H3 c = some (.lst ws) := x3.st _ _ hw (R.lq cL)
          have rw3 := rw'.ex x3 av_q
          cases e3 : ixN r.length n with
          | none => simp only [e3] at q3
          | some j =>
            simp only [e3] at q3
            have nt : ∀ vs, H3 c ≠ some (.tup vs) := fun z => by rw [hw3]; exact nofun
            refine ⟨c, ws, n, j, rfl, rfl, hw3, by rw [← rw'.length]; exact e3, ?_⟩
            have R3 := (R1.ex x2).ex x3
            have hb3 : H3 b = some (.lst (as.map V.ref)) := x3.st _ _ hb2 (R.lq bL)
            have ob3 : Obs E.B (av E L true true) H3 xs as := ob2.mv (fun c u e n => x3.st c u e (fun z => n (.inl z))) x3.tp (fun _ z _ => z) fun c hc u e => x3.st c u e (R.lq (asL c hc))
            have nd : (b :: as).Nodup := by have := o4 i; rw [ho] at this; exact this
            have bc : b ≠ c := fun z => (List.nodup_cons.mp nd).1 (by rw [z]; exact hcm)
            have hr : c ≠ E.B.r := fun z => R.ar (by rw [← z]; exact (R.lf c cL).1)
            have ry3 := (ry.ex x2 av_q).ex x3 av_q
            have ob' : Ob E.B (av E L true true) (upd H3 c (.lst (ws.set j u))) c (.lst (r.set j y)) := ⟨_, upd_same, (rw3.upL cL nt).set j (ry3.upL cL nt)⟩
            have obs' : Obs E.B (av E L true true) (upd H3 c (.lst (ws.set j u))) (xs.set i1 (.lst (r.set j y))) as := by
              refine Obs.set (fun d x od o hd hd' => ?_) ob3 hc (List.nodup_cons.mp nd).2 (fun d n m o hd => by rw [upd_ne n]; exact hd) (fun d m => ?_) ob'
              · exact od.mv (fun b u e n => by rw [upd_ne (fun z => n (.inr (.inr ⟨rfl, by rw [z]; exact cL⟩)))]; exact e) (fun b u e => by rw [upd_ne (fun z => nt u (by rw [← z]; exact e))]; exact e) (fun _ z _ => z) fun o' ho' => by rw [hd] at ho'; cases ho'; exact hd'
              · have := ob3.nn d m
                cases q : H3 d with
                | none => exact absurd q this
                | some o => exact ⟨o, rfl⟩
            have hb4 : upd H3 c (.lst (ws.set j u)) b = some (.lst (as.map V.ref)) := by rw [upd_ne bc]; exact hb3
            refine nx L _ _ _ (Fw.trans (x1.trans (x2.trans x3)).fw (.upd cL nt)) ?_ q3
            have := R3.put (i := i) (k := .own2) (x := .lst (xs.set i1 (.lst (r.set j y)))) (v := .ref b) (O' := b :: as) (.upd (o := .lst (ws.set j u)) cL nt) (fun d m n o e => by rw [upd_ne (fun z => n (by rw [z]; simp [hcm]))]; exact e)
              (fun d o e n => by rw [upd_ne (fun z => by rw [z, (R.lf c cL).1] at e; cases e)]; exact R3.old d o e n) (R3.bag.stay (fun o e => by rw [upd_ne (R.lq cL).symm]; exact e) fun o e => by rw [upd_ne hr.symm]; exact e)
              (fun d m => .inl m) (fun d m => (Fw.upd (B := E.B) cL nt).nn d (R3.lf d m).2) (fun _ h => h) ⟨b, _, as, rfl, rfl, rfl, hb4, obs'⟩ (fun d m => (List.mem_cons.mp m).elim (fun z => by rw [z]; exact bL) (asL d)) nd (fun O' k2 k3 k1 j' d hj hd m => by
                obtain ⟨w, hw, kw⟩ := k1 i _ hx
                rw [hv] at hw; cases hw
                rw [getElem?_kd hk] at kw
                obtain ⟨d', xs', as', e1, e2, e3, e4, e5⟩ := kw
                cases e1; cases e3
                have : as' = as := by
                  rw [hb3] at e4
                  have e4 := HO.lst.inj (Option.some.inj e4)
                  exact refs_inj e4.symm
                subst this
                exact hj (k3 j' i d m (by rw [e2]; exact hd))) (List.getElem?_eq_some_iff.mp hk).1
            rw [set_same hk, set_self hv] at this
            exact this
end
end Vl
namespace Vl
open PySem PySem.Spec L2 Lb
/-! ### a draw from the bag -/
abbrev bx (K : Fg) (i : Int) : TE := tOp (rIx K) (tVar 0) (tC (.int i))
abbrev ci (i : Int) : TE := tC (.int i)
/-- its second half -/
def t_tkB (K : Fg) : TS := tSeq (tIfS (tTest (tOp rGtA (bx K 0) (ci 0)))
    (tSeq (tAsg (tOp rModA (bx K 0) (tVar 1)) (gName 3))
    (tSeq (tAsg (tOp rDivA (bx K 0) (tVar 1)) (gSub (tVar 0) (ci 0) rSetL))
      (tRet (tVar 3)))) tNext)
  (tSeq (tAsg (tOp rModA (tOp rMulA (tOp rAddA (bx K 1) (ci 1)) (ci 39373)) (ci 1000000007)) (gName 4))
  (tSeq (tAsg (tOp rModA (tOp rMulA (tOp rModA (tOp rMulA (tVar 4) (tVar 4)) (ci 998244353)) (ci 30011)) (ci 998244353)) (gName 5))
  (tSeq (tIfS (tTest (tOp rGtA (tVar 1) (ci 1000000))) (tRet (tOp rModA (tOp rAddA (tOp rMulA (tVar 5) (ci 1000000007)) (tVar 4)) (tVar 1))) tNext)
    (tRet (tOp rModA (tOp rDivA (tVar 5) (ci 7)) (tVar 1))))))
def t_tkL (K : Fg) : TS := tAsg (tOp rModA (tOp rAddA (tOp rAddA (tOp rMulA (bx K 1) (ci 48271)) (tOp rModA (tVar 2) (ci 2147483647))) (tOp rMulA (ci 7919) (bx K 2))) (ci 2147483647)) (gSub (tVar 0) (ci 1) rSetL)
def t_tkM (K : Fg) : TS := tSeq (tIfS (tTest (tOp rGeA (tVar 2) (ci 1000000000000000000))) (tAsg (tVar 2) (gSub (tVar 0) (ci 0) rSetL)) tNext) (t_tkL K)
def t_tkN (K : Fg) : TS := tSeq (tAugS (tVar 0) (ci 2) (ci 1) (rGetL K) ipAddA rSetL) (t_tkM K)
def t_tkC (K : Fg) : TS := tSeq (tIfS (tTest (tOp rLtA (bx K 2) (tCB (rLen K) (tCons (bx K 3) tNil)))) (tAsg (tOp (rIx K) (bx K 3) (bx K 2)) (gName 2)) tNext) (t_tkN K)
def t_take (K : Fg) : TS := tSeq (tIfS (tTest (tOp (rEqA K) (bx K 0) (ci 0))) (tSeq (tAsg (ci 0) (gName 2)) (t_tkC K)) tNext) (t_tkB K)
def w_law_take : Vl.PW := fun xs Q => match xs with | [.bag, .int n] => (0 < n ∧ n < 2 ^ 62) ∧ ∀ v : Int, 0 ≤ v → v < n → Q (.int v) | _ => False
section
variable {K : Fg} {H : Hp} {Q : VK} {q r : Addr} {l : St} {a0 a1 a2 a3 : V}
theorem bx0 (h : H q = some (.lst [a0, a1, a2, a3])) (k : Q a0 H) : bx K 0 (some (.ref q) :: l) H Q := ⟨.ref q, rfl, .inl ⟨q, _, 0, a0, rfl, rfl, .inl (.inl h), rfl, k⟩⟩
theorem bx1 (h : H q = some (.lst [a0, a1, a2, a3])) (k : Q a1 H) : bx K 1 (some (.ref q) :: l) H Q := ⟨.ref q, rfl, .inl ⟨q, _, 1, a1, rfl, rfl, .inl (.inl h), rfl, k⟩⟩
theorem bx2 (h : H q = some (.lst [a0, a1, a2, a3])) (k : Q a2 H) : bx K 2 (some (.ref q) :: l) H Q := ⟨.ref q, rfl, .inl ⟨q, _, 2, a2, rfl, rfl, .inl (.inl h), rfl, k⟩⟩
theorem bx3 (h : H q = some (.lst [a0, a1, a2, a3])) (k : Q a3 H) : bx K 3 (some (.ref q) :: l) H Q := ⟨.ref q, rfl, .inl ⟨q, _, 3, a3, rfl, rfl, .inl (.inl h), rfl, k⟩⟩
theorem ifT {c : Bool} {A B : Prop} (h : c = true) (k : A) : if c = true then A else B := by rw [if_pos h]; exact k
theorem ifF {c : Bool} {A B : Prop} (h : c = false) (k : B) : if c = true then A else B := by rw [if_neg (by rw [h]; decide)]; exact k
theorem st_eq (i j : Int) {Q : Bool → Hp → Prop} (k : Q (decide (i = j)) H) : ∃ b, V.bl (decide (V.int i = V.int j)) = .bl b ∧ Q b H := ⟨_, rfl, by
  have : decide (V.int i = V.int j) = decide (i = j) := by
    by_cases h : i = j
    · simp [h]
    · simp [h]
  rw [this]; exact k⟩
/-- the last part of a draw -/
theorem take_end {n x y : Int} {z : Int} {cs : List Int} {v2 v3 v4 v5 : Option V} {D : Ends} (hn : 0 < n ∧ n < 2 ^ 62) (hq : H q = some (.lst [.int x, .int y, .int z, .ref r])) (hx : 0 ≤ x) (hy : 0 ≤ y)
    (k : ∀ v : Int, 0 ≤ v → v < n → ∀ x' H', 0 ≤ x' → H' = H ∨ H' = upd H q (.lst [.int x', .int y, .int z, .ref r]) → D.rt (.int v) H') :
    t_tkB K D [some (.ref q), some (.int n), v2, v3, v4, v5] H := by
  unfold t_tkB
  refine bx0 hq ⟨x, 0, rfl, rfl, _, rfl, ?_⟩
  by_cases hx0 : 0 < x
  · refine ifT (decide_eq_true hx0) ?_
    refine bx0 hq ⟨.int n, rfl, x, n, rfl, rfl, hn.1, ?_⟩
    refine bx0 hq ⟨.int n, rfl, x, n, rfl, rfl, ⟨hn.1, ?_⟩, ⟨.ref q, rfl, q, _, 0, 0, rfl, rfl, hq, rfl, ?_⟩⟩
    · have : n.natAbs < 2 ^ 62 := by omega
      have := (Nat.log2_lt (by omega)).mpr this
      omega
    · exact ⟨.int (x % n), rfl, k _ (Int.emod_nonneg _ (by omega)) (Int.emod_lt_of_pos _ hn.1) (x / n) _ (Int.ediv_nonneg hx (by omega)) (.inr rfl)⟩
  · refine ifF (decide_eq_false hx0) ?_
    have hf := Int.emod_nonneg ((y + 1) * 39373) (b := 1000000007) (by decide)
    have hf' := Int.emod_lt_of_pos ((y + 1) * 39373) (b := 1000000007) (by decide)
    have p1 : (0 : Int) < 1000000007 := by decide
    have p2 : (0 : Int) < 998244353 := by decide
    refine bx1 hq (.inl ⟨y, 1, rfl, rfl, .inl ⟨y + 1, 39373, rfl, rfl, .inr ⟨by decide, by decide⟩, (y + 1) * 39373, 1000000007, rfl, rfl, p1, ?_⟩⟩)
    obtain ⟨f, hfe⟩ : ∃ f, f = (y + 1) * 39373 % 1000000007 := ⟨_, rfl⟩
    rw [← hfe] at hf hf'
    show tSeq _ _ D [some (.ref q), some (.int n), v2, v3, some (.int ((y + 1) * 39373 % 1000000007)), v5] H
    rw [← hfe]
    refine ⟨.int f, rfl, .int f, rfl, .inl ⟨f, f, rfl, rfl, .inl ⟨by omega, by omega⟩, f * f, 998244353, rfl, rfl, p2, .inl ⟨f * f % 998244353, 30011, rfl, rfl, .inr ⟨by decide, by decide⟩, _, 998244353, rfl, rfl, p2, ?_⟩⟩⟩
    obtain ⟨g, hge⟩ : ∃ g, g = f * f % 998244353 * 30011 % 998244353 := ⟨_, rfl⟩
    show tSeq _ _ D [some (.ref q), some (.int n), v2, v3, some (.int f), some (.int (f * f % 998244353 * 30011 % 998244353))] H
    rw [← hge]
    refine ⟨.int n, rfl, n, 1000000, rfl, rfl, _, rfl, ?_⟩
    by_cases hb : 1000000 < n
    · refine ifT (decide_eq_true hb) ?_
      exact ⟨.int g, rfl, .inl ⟨g, 1000000007, rfl, rfl, .inr ⟨by decide, by decide⟩, .int f, rfl, .inl ⟨g * 1000000007, f, rfl, rfl, .int n, rfl, _, n, rfl, rfl, hn.1, k _ (Int.emod_nonneg _ (by omega)) (Int.emod_lt_of_pos _ hn.1) x _ hx (.inl rfl)⟩⟩⟩
    · refine ifF (decide_eq_false hb) ?_
      exact ⟨.int g, rfl, g, 7, rfl, rfl, ⟨by decide, by decide⟩, .int n, rfl, _, n, rfl, rfl, hn.1, k _ (Int.emod_nonneg _ (by omega)) (Int.emod_lt_of_pos _ hn.1) x _ hx (.inl rfl)⟩
theorem tkL_ok {x y z c : Int} {l : St} {v1 : Option V} {D : Ends} (hq : H q = some (.lst [.int x, .int y, .int z, .ref r])) (k : ∀ y' : Int, 0 ≤ y' → y' < 2147483647 → D.nx (some (.ref q) :: v1 :: some (.int c) :: l) (upd H q (.lst [.int x, .int y', .int z, .ref r]))) :
    t_tkL K D (some (.ref q) :: v1 :: some (.int c) :: l) H := by
  have p3 : (0 : Int) < 2147483647 := by decide
  refine bx1 hq (.inl ⟨y, 48271, rfl, rfl, .inr ⟨by decide, by decide⟩, .int c, rfl, c, 2147483647, rfl, rfl, p3, .inl ⟨_, _, rfl, rfl, bx2 hq (.inl ⟨7919, z, rfl, rfl, .inl ⟨by decide, by decide⟩, .inl ⟨_, _, rfl, rfl, _, 2147483647, rfl, rfl, p3, ?_⟩⟩)⟩⟩)
  exact ⟨.ref q, rfl, q, _, 1, 1, rfl, rfl, hq, rfl, k _ (Int.emod_nonneg _ (by decide)) (Int.emod_lt_of_pos _ p3)⟩
theorem tkM_ok {x y z c : Int} {l : St} {v1 : Option V} {D : Ends} (hc : 0 ≤ c) (hx : 0 ≤ x) (hq : H q = some (.lst [.int x, .int y, .int z, .ref r])) (k : ∀ x' y' : Int, 0 ≤ x' → 0 ≤ y' → y' < 2147483647 → D.nx (some (.ref q) :: v1 :: some (.int c) :: l) (upd H q (.lst [.int x', .int y', .int z, .ref r]))) :
    t_tkM K D (some (.ref q) :: v1 :: some (.int c) :: l) H := by
  refine ⟨.int c, rfl, c, 1000000000000000000, rfl, rfl, _, rfl, ?_⟩
  by_cases hb : 1000000000000000000 ≤ c
  · refine ifT (decide_eq_true hb) ⟨.int c, rfl, .ref q, rfl, q, _, 0, 0, rfl, rfl, hq, rfl, ?_⟩
    refine tkL_ok (H := upd H q (.lst [.int c, .int y, .int z, .ref r])) upd_same fun y' h0 h1 => ?_
    rw [upd_upd]; exact k c y' hc h0 h1
  · exact ifF (decide_eq_false hb) (tkL_ok hq fun y' h0 h1 => k x y' hx h0 h1)
theorem tkN_ok {x y c : Int} {z : Nat} {l : St} {v1 : Option V} {D : Ends} (hc : 0 ≤ c) (hx : 0 ≤ x) (hq : H q = some (.lst [.int x, .int y, .int (z : Nat), .ref r])) (k : ∀ x' y' : Int, 0 ≤ x' → 0 ≤ y' → y' < 2147483647 → D.nx (some (.ref q) :: v1 :: some (.int c) :: l) (upd H q (.lst [.int x', .int y', .int ((z + 1 : Nat) : Int), .ref r]))) :
    t_tkN K D (some (.ref q) :: v1 :: some (.int c) :: l) H := by
  refine ⟨.ref q, rfl, q, _, 2, .int (z : Nat), rfl, rfl, .inl (.inl hq), rfl, .inl ⟨(z : Int), 1, rfl, rfl, q, _, 2, 2, rfl, rfl, hq, rfl, ?_⟩⟩
  have hz1 : ((z + 1 : Nat) : Int) = (z : Int) + 1 := by omega
  refine tkM_ok (H := upd H q (.lst [.int x, .int y, .int ((z : Int) + 1), .ref r])) hc hx upd_same fun x' y' h1 h2 h3 => ?_
  rw [upd_upd, ← hz1]; exact k x' y' h1 h2 h3
theorem tkC_ok {x y : Int} {z : Nat} {cs : List Int} {l : St} {v1 : Option V} {D : Ends} (hcs : ∀ c ∈ cs, 0 ≤ c) (hx : 0 ≤ x) (hq : H q = some (.lst [.int x, .int y, .int (z : Nat), .ref r])) (hr : H r = some (.lst (cs.map V.int)))
    (k : ∀ c x' y' : Int, 0 ≤ x' → 0 ≤ y' → y' < 2147483647 → D.nx (some (.ref q) :: v1 :: some (.int c) :: l) (upd H q (.lst [.int x', .int y', .int ((z + 1 : Nat) : Int), .ref r]))) :
    t_tkC K D (some (.ref q) :: v1 :: some (.int 0) :: l) H := by
  refine bx2 hq (bx3 hq ⟨.ref r, cs.length, rfl, .inl ⟨_, .inl (.inl hr), by simp⟩, .inl ⟨(z : Int), (cs.length : Int), rfl, rfl, _, rfl, ?_⟩⟩)
  by_cases hz : (z : Int) < (cs.length : Int)
  · have hz' : z < cs.length := by omega
    refine ifT (decide_eq_true hz) (bx3 hq (bx2 hq (.inl ⟨r, _, z, .int cs[z], rfl, rfl, .inl (.inl hr), ?_, ?_⟩)))
    · unfold atI ixN
      rw [List.length_map, if_pos (by omega), if_pos hz]; simp [hz']
    · exact tkN_ok (c := cs[z]) (hcs _ (List.getElem_mem hz')) hx hq fun x' y' h1 h2 h3 => k _ x' y' h1 h2 h3
  · exact ifF (decide_eq_false hz) (tkN_ok (c := 0) (Int.le_refl 0) hx hq fun x' y' h1 h2 h3 => k _ x' y' h1 h2 h3)
theorem pure_take {vs : List V} {E : XK} (h : spF 2 w_law_take K vs H Q E) : t_take K ⟨fun _ H' => Q .non H', Q, fun _ _ => False, fun _ _ => False⟩ (start ["_law_bag_here", "_law_many", "_law_cell", "_law_value", "_law_first", "_law_second"] vs) H := by
  obtain ⟨q, r, xs, Qp, hl, bg, rx, w, k⟩ := h
  match xs, rx, w with
  | [_, _], .cons r1 (.cons r2 .nil), w =>
    cases r1 <;> first | exact (w : False).elim | skip
    cases r2 <;> first | exact (w : False).elim | skip
    rename_i n
    obtain ⟨hn, w⟩ := w
    obtain ⟨x, y, z, cs, hq, hr, nrq, hx, hy, hy2, hcs⟩ := bg
    have fin : ∀ (x' y' : Int) (z' : Nat) (H' : Hp), (∀ a o, a ≠ q → H a = some o → H' a = some o) → (∀ a, H a ≠ none → H' a ≠ none) → H' q = some (.lst [.int x', .int y', .int z', .ref r]) → 0 ≤ x' → 0 ≤ y' → y' < 2147483647 → ∀ v : Int, 0 ≤ v → v < n → Q (.int v) H' := fun x' y' z' H' st nn hq' hx' hy' hy2' v h0 h1 =>
      k (.int v) _ H' (w v h0 h1) ⟨fun a o e m => st a o m e, fun a u e => st a _ (fun z => by rw [z] at e; rw [hq] at e; cases e) e, nn, fun _ => ⟨x', y', z', cs, hq', st _ _ nrq hr, nrq, hx', hy', hy2', hcs⟩⟩ (.int v)
    have nu : ∀ {H1 : Hp} {o : HO}, (∀ a, H a ≠ none → H1 a ≠ none) → ∀ a, H a ≠ none → upd H1 q o a ≠ none := fun {H1 o} nn a m => by
      by_cases z : a = q
      · rw [z, upd_same]; exact nofun
      · rw [upd_ne z]; exact nn a m
    have half : ∀ (x' y' : Int) (z' : Nat) (H' : Hp) (v2 : Option V), (∀ a o, a ≠ q → H a = some o → H' a = some o) → (∀ a, H a ≠ none → H' a ≠ none) → H' q = some (.lst [.int x', .int y', .int z', .ref r]) → 0 ≤ x' → 0 ≤ y' → y' < 2147483647 →
        t_tkB K ⟨fun _ H' => Q .non H', Q, fun _ _ => False, fun _ _ => False⟩ [some (.ref q), some (.int n), v2, none, none, none] H' := fun x' y' z' H' v2 st nn hq' hx' hy' hy2' =>
      take_end (cs := cs) hn hq' hx' hy' fun v h0 h1 x2 H2 hx2 e => by
        rcases e with rfl | rfl
        · exact fin x' y' z' _ st nn hq' hx' hy' hy2' v h0 h1
        · exact fin x2 y' z' _ (fun a o m e => by rw [upd_ne m]; exact st a o m e) (nu nn) upd_same hx2 hy' hy2' v h0 h1
    show t_take K _ [some (.ref q), some (.int n), none, none, none, none] H
    unfold t_take
    refine bx0 hq (.inl ⟨rfl, ⟨_, rfl, ?_⟩⟩)
    by_cases h0 : x = 0
    · refine ifT (decide_eq_true (by rw [h0])) ?_
      refine tkC_ok (D := ⟨t_tkB K ⟨fun _ H' => Q .non H', Q, fun _ _ => False, fun _ _ => False⟩, Q, fun _ _ => False, fun _ _ => False⟩) (l := [none, none, none]) (v1 := some (.int n)) hcs hx hq hr fun c x' y' h1 h2 h3 => ?_
      exact half x' y' (z + 1) _ (some (.int c)) (fun a o m e => by rw [upd_ne m]; exact e) (nu fun a m => m) upd_same h1 h2 h3
    · refine ifF (decide_eq_false (fun z => h0 (V.int.inj z))) ?_
      exact half x y z H none (fun a o _ e => e) (fun a m => m) hq hx hy hy2
  | [], _, w => exact (w : False).elim
  | [_], .cons r1 .nil, w => cases r1 <;> exact (w : False).elim
  | _ :: _ :: _ :: _, .cons r1 (.cons r2 _), w => cases r1 <;> cases r2 <;> exact (w : False).elim
end
end Vl
namespace Vl
open PySem PySem.Spec L2 Lb
/-! ### the bag is made; the law's own end -/
def t_bag (K : Fg) : TS := tRet (tLst (tCons (ci 0) (tCons (ci 1234567891) (tCons (ci 0) (tCons (tLc (iList K (tSl (rSlL K) (tVar 0) tNoPart (tPart (ci 63)))) (gName 1) tYes (tCB rAbs (tCons (tVar 1) tNil)) [1]) tNil)))))
def spBag (K : Fg) : Sp := fun vs H Q _ => ∃ (a : Addr) (ns : List Int), vs = [.ref a] ∧ SqL K H a (ns.map V.int) ∧ ns.length ≤ sizeLine ∧ ∀ (q r : Addr) (cs : List Int) (H' : Hp), (∀ b o, H b = some o → H' b = some o) → BagOk ⟨K, q, r⟩ H' → H' q = some (.lst [.int 0, .int 1234567891, .int 0, .ref r]) → H' r = some (.lst (cs.map V.int)) → Q (.ref q) H'
section
variable {K : Fg} {H : Hp} {Q : VK}
def absI (i : Int) : Int := if i < 0 then -i else i
theorem absI_nn (i : Int) : 0 ≤ absI i := by unfold absI; split <;> omega
theorem yesT {σ : St} {A B : Hp → Prop} (k : A H) : tYes σ H fun b H' => if b = true then A H' else B H' := by
  show if true = true then A H else B H
  rw [if_pos rfl]; exact k
theorem pure_bag {vs : List V} {E : XK} (h : spBag K vs H Q E) : t_bag K ⟨fun _ H' => Q .non H', Q, fun _ _ => False, fun _ _ => False⟩ (start ["_law_script", "_law_cell"] vs) H := by
  obtain ⟨a, ns, rfl, hs, hn, k⟩ := h
  show t_bag K _ [some (.ref a), none] H
  refine ⟨.ref a, rfl, 63, rfl, a, _, rfl, hs, fun p np => ?_⟩
  obtain ⟨ms, hms, hml⟩ : ∃ ms : List Int, cutV (ns.map V.int) none (some 63) = ms.map V.int ∧ ms.length ≤ sizeLine := by
    refine ⟨(ns.drop (HT.sIx (ns.map V.int).length 0 none)).take (HT.sIx (ns.map V.int).length (ns.map V.int).length (some 63) - HT.sIx (ns.map V.int).length 0 none), ?_, ?_⟩
    · unfold cutV; rw [List.map_take, List.map_drop]
    · exact Nat.le_trans (by rw [List.length_take, List.length_drop]; omega) hn
  rw [hms]
  refine ⟨p, rfl, ⟨_, .inl (.inl upd_same)⟩, fun D nD => ?_⟩
  have pD : p ≠ D := fun z => by rw [← z, upd_same] at nD; cases nD
  have st0 : ∀ b o, H b = some o → upd (upd H p (.lst (ms.map V.int))) D (.lst []) b = some o := fun b o e => by
    have bp : b ≠ p := ne_of_none e np
    rw [upd_ne (fun z => by rw [← z, upd_ne bp, e] at nD; cases nD), upd_ne bp]; exact e
  refine ⟨fun i m H2 => m = ms.length - i ∧ i ≤ ms.length ∧ (∀ b o, H b = some o → H2 b = some o) ∧ H2 p = some (.lst (ms.map V.int)) ∧ H2 D = some (.lst (((ms.take i).map absI).map V.int)), ⟨_, rfl, by simp, st0, by rw [upd_ne pD, upd_same], by rw [upd_same]; simp⟩, ?_⟩
  rintro i m H2 ⟨rfl, hi0, st, hp, hD⟩
  by_cases hi : i < ms.length
  · right
    refine ⟨⟨ms.map V.int, .int ms[i], .inl (.inl hp), by simp [hi]⟩, fun H' => H' p = some (.lst (ms.map V.int)) ∧ H' D = some (.lst (((ms.take (i + 1)).map absI).map V.int)) ∧ ∀ b o, H b = some o → H' b = some o, fun H' ⟨h1, h2, h3⟩ => ⟨_, by omega, rfl, by omega, h3, h1, h2⟩, ?_⟩
    rintro v H3 ⟨rfl, hv⟩
    have := hv _ (.inl (.inl hp))
    have e : v = .int ms[i] := by
      rw [List.getElem?_map, List.getElem?_eq_getElem hi] at this; simpa using this.symm
    subst e
    refine ⟨rfl, ?_⟩
    refine yesT ⟨.int ms[i], rfl, ms[i], rfl, _, hD, ?_, ?_⟩
    · simp; omega
    · refine ⟨by rw [upd_ne pD]; exact hp, ?_, fun b o e => ?_⟩
      · rw [upd_same, List.take_add_one, List.getElem?_eq_getElem hi]
        simp only [Option.toList_some, List.map_append, List.map_cons, List.map_nil]; rfl
      · by_cases z : b = D
        · rw [z] at e
          rw [upd_ne (fun z => pD z.symm), e] at nD; cases nD
        · rw [upd_ne z]; exact st b o e
  · left
    have hi : ms.length ≤ i := Nat.not_lt.mp hi
    refine ⟨⟨_, .inl (.inl hp), by simpa using hi⟩, few (n := 4) (by decide), fun q nq => ?_⟩
    have qD : D ≠ q := fun z => by rw [← z, hD] at nq; cases nq
    refine k q D ((ms.take i).map absI) _ (fun b o e => by rw [upd_ne (fun z => by rw [z] at e; have := st q o e; rw [nq] at this; cases this)]; exact st b o e) ⟨0, 1234567891, 0, (ms.take i).map absI, upd_same, by rw [upd_ne qD]; exact hD, qD, by decide, by decide, by decide, fun c m => ?_⟩ upd_same (by rw [upd_ne qD]; exact hD)
    obtain ⟨x, _, rfl⟩ := List.mem_map.mp m
    exact absI_nn x
/-- the rest of the law, when the bag is there -/
def spLaw (K : Fg) : Sp := fun vs H Q _ => ∃ (a : Addr) (ns : List Int), vs = [.ref a] ∧ SqL K H a (ns.map V.int) ∧ ns.length ≤ sizeLine ∧ ∀ H', Q (.bl true) H'
def lawG (N : Nat) : G := none :: some .bag :: List.replicate (N - 2) none
def lawD : GD := ⟨fun _ => False, fun x _ => x = .bl true, fun _ => False, fun _ => False⟩
theorem body_law {X : Cx} {N : List Str} {ks ks' kl : List Kd} {st : Stmt} {sts : List Stmt} {p : GS} {vs : List V} {E : XK} (h0 : PS X st (tAsg (tCall (spBag X.K) [] E0 (tCons (tVar 0) tNil)) (gName 1))) (h : QB X ks ks' kl sts p) (hk : kd ks 1 = .sh) (hN : 2 ≤ N.length) (hp : p lawD (lawG N.length)) (hs : spLaw X.K vs H Q E) :
    ∃ t, PSs X (st :: sts) t ∧ t { nx := fun _ H' => Q .non H', rt := Q } (start N vs) H := by
  obtain ⟨a, ns, rfl, hS, hn, k⟩ := hs
  refine ⟨_, pss_cons h0 h, ?_⟩
  obtain ⟨n, hn2⟩ : ∃ n, N.length = n + 2 := ⟨N.length - 2, by omega⟩
  have es : start N [.ref a] = some (.ref a) :: none :: List.replicate n none := by
    simp [L2.start, hn2, List.replicate_succ]
  rw [es]
  refine ⟨.ref a, rfl, a, ns, rfl, hS, hn, fun q r cs H' st0 bg hq hr => ?_⟩
  have R : Rel ⟨⟨X.K, q, r⟩, fun b => b = q, H', 0⟩ [] ks (lawG N.length) (some (.ref a) :: some (.ref q) :: List.replicate n none) H' := by
    refine ⟨fun _ _ h _ => h, fun _ h => h, bg, fun b z => by have z : b = q := z; rw [z]; exact bg.q, rfl, by show H' r ≠ none; rw [hr]; exact nofun, by simp, by simp [lawG, hn2], ?_⟩
    refine ⟨fun _ => [], fun i x h => ?_, by simp, by simp, by simp⟩
    rcases i with _ | _ | i
    · simp [lawG] at h
    · simp [lawG] at h; subst h
      refine ⟨.ref q, rfl, ?_⟩
      rw [hk]; exact ⟨rfl, .bag⟩
    · simp only [lawG, List.getElem?_cons_succ] at h
      have := List.mem_of_getElem? h
      simp at this
  refine ⟨⟨⟨X.K, q, r⟩, fun b => b = q, H', 0⟩, [], lawG N.length, lawD, rfl, R, hp, fun _ _ _ _ _ _ z => z.elim, fun x _ v H2 ⟨r1, _⟩ q1 => ?_, fun _ _ _ _ _ _ z => z.elim, fun _ _ _ _ _ _ z => z.elim⟩
  have q1 : x = .bl true := q1
  subst q1
  cases r1
  exact k H2
end
end Vl
namespace Vl
open PySem PySem.Spec L2 Lb
/-! ### facts of the written part, as Bools -/
def gvB (K : Fg) (n : Str) (x : PV) : Bool := match PySem.W.nsIn K mainGlobals n with
  | some (some u) => ckV K x u
  | _ => false
def insB (K : Fg) (C : Str) : Bool := (He.Fa.cls C).ok K && (He.eqO (PySem.W.findIn K (.ref (He.ga K C)) "__class__") (some (some (.builtin "object.__class__"))) && (He.eqO (PySem.W.specialIn K (.builtin "object.__class__") "__get__") (some (some (.builtin "getset_descriptor.__get__"))) &&
  (decide (PySem.W.takesIn K (.builtin "object.__class__") = some true) && (decide (PySem.W.mroIn K (He.ga K C) (.type "object") = some true) && decide (PySem.W.kitOne K (.ref (He.ga K C)) (.ref (He.ga K C)) = some true)))))
theorem insB_ok {K : Fg} {C : Str} (h : insB K C = true) : C8.InsC K (He.ga K C) := by
  obtain ⟨h1, h⟩ := He.ba h
  obtain ⟨h2, h⟩ := He.ba h
  obtain ⟨h3, h⟩ := He.ba h
  obtain ⟨h4, h⟩ := He.ba h
  obtain ⟨h5, h6⟩ := He.ba h
  exact ⟨He.cls_ok h1, He.eqO_ok h2, He.eqO_ok h3, of_decide_eq_true h4, of_decide_eq_true h5, of_decide_eq_true h6⟩
theorem gvB_ok {K : Fg} {h : Heap} {mg : Str → Option Value} {n : Str} {x : PV} (X : K.In h) (G : h.Ns mainGlobals mg) (c : gvB K n x = true) : GV K mg n x := by
  unfold gvB at c
  cases e : PySem.W.nsIn K mainGlobals n with
  | none => rw [e] at c; cases c
  | some o =>
    rw [e] at c
    cases o with
    | none => cases c
    | some u => exact ⟨u, PySem.W.mg_of X G e, c⟩
theorem dfl_glo {K : Fg} {n : Str} {xs : List PV} (c : gvB K n (.tup xs) = true) : Dfl K [.tup xs] [.ref (He.ga K n)] := by
  intro q r A H
  unfold gvB at c
  cases e : PySem.W.nsIn K mainGlobals n with
  | none => rw [e] at c; cases c
  | some o =>
    rw [e] at c
    cases o with
    | none => cases c
    | some u =>
      obtain ⟨v, hv, hr⟩ := ckV_ok (q := q) (r := r) (A := A) (H := H) (.tup xs) u c
      cases hr with
      | @tup a vs _ hs hl =>
        cases (show u = Value.ref a from hv)
        have : He.ga K n = a := by unfold He.ga; rw [e]
        rw [this]
        exact .cons (.tup hs hl) .nil
theorem dfl_int {K : Fg} (i : Int) : Dfl K [.int i] [.int i] := fun _ _ _ _ => .cons (.int i) .nil
theorem dfl_app {K : Fg} {a b : List PV} {c d : List V} (h : Dfl K a c) (h' : Dfl K b d) : Dfl K (a ++ b) (c ++ d) := fun q r A H => (h q r A H).append (h' q r A H)
theorem all_at {K : Fg} : ∀ {l : List (Fg → Bool)} (i : Nat) {f : Fg → Bool}, (l.all fun f => f K) = true → l[i]? = some f → f K = true := fun {l} i {f} h e => List.all_eq_true.mp h f (List.mem_of_getElem? e)
end Vl
namespace Vl
open PySem PySem.Spec L2 Lb
/-! ### the same readings, their slots written out as they go -/
def setS (γ : G) : Nat → Option PV → (G → Prop) → Prop :=
  List.rec (motive := fun _ => Nat → Option PV → (G → Prop) → Prop) (fun _ _ K => K [])
    (fun a l ih i x K => Nat.rec (motive := fun _ => Prop) (K (x :: l)) (fun i _ => ih i x fun l' => K (a :: l')) i) γ
theorem setS_eq : ∀ (γ : G) (i : Nat) (x : Option PV) (K : G → Prop), setS γ i x K = K (γ.set i x)
  | [], _, _, _ => rfl
  | _ :: _, 0, _, _ => rfl
  | a :: l, i + 1, x, K => setS_eq l i x fun l' => K (a :: l')
def wipeS (γ : G) (vs : List Nat) : (G → Prop) → Prop :=
  List.rec (motive := fun _ => (G → Prop) → Prop) (fun K => K γ) (fun v _ ih K => ih fun γ1 => setS γ1 v none K) vs
theorem wipeS_eq (γ : G) : ∀ (vs : List Nat) (K : G → Prop), wipeS γ vs K = K (wipeG γ vs)
  | [], _ => rfl
  | v :: vs, K => (wipeS_eq γ vs fun γ1 => setS γ1 v none K).trans (setS_eq _ _ _ _)
def noneS (n : Nat) : (G → Prop) → Prop := Nat.rec (motive := fun _ => (G → Prop) → Prop) (fun K => K []) (fun _ ih K => ih fun l => K (none :: l)) n
theorem noneS_eq : ∀ (n : Nat) (K : G → Prop), noneS n K = K (List.replicate n none)
  | 0, _ => rfl
  | n + 1, K => by rw [List.replicate_succ]; exact noneS_eq n fun l => K (none :: l)
def startS (xs : List PV) : Nat → (G → Prop) → Prop :=
  List.rec (motive := fun _ => Nat → (G → Prop) → Prop) (fun N K => noneS N K) (fun x _ ih N K => ih (N - 1) fun l => K (some x :: l)) xs
theorem startS_eq : ∀ (xs : List PV) (N : Nat) (K : G → Prop), startS xs N K = K (startG N xs)
  | [], N, K => by show noneS N K = _; rw [noneS_eq]; simp [startG]
  | x :: xs, N, K => by
    show startS xs (N - 1) (fun l => K (some x :: l)) = _
    rw [startS_eq xs]
    simp only [startG, List.map_cons, List.length_cons, List.cons_append]
    rw [show N - 1 - xs.length = N - (xs.length + 1) by omega]
def xF (N : Nat) (p : GS) : Vl.PW := fun xs Q => startS xs N fun γ => p ⟨fun _ => Q .non, fun x _ => Q x, fun _ => False, fun _ => False⟩ γ
def xI (N c : Nat) (p : GS) : Vl.PW := fun xs Q => startS (.ins c [] :: xs) N fun γ => p ⟨fun γ => getS γ 0 Q, fun _ _ => False, fun _ => False, fun _ => False⟩ γ
theorem xF_eq (N : Nat) (p : GS) : xF N p = wF N p := by funext xs Q; rw [xF, startS_eq]; rfl
theorem xI_eq (N c : Nat) (p : GS) : xI N c p = wI N c p := by funext xs Q; rw [xI, startS_eq]; rfl
def xgName (i : Nat) : GG := fun x γ Q => setS γ i (some x) Q
theorem xgName_eq (i : Nat) : xgName i = pgName i := by funext x γ Q; rw [xgName, setS_eq]; rfl
theorem xmg_name {i : Nat} : MonoG (xgName i) := by rw [xgName_eq]; exact mg_name
def xLc (vs : List Nat) (it : GA) (g : GG) (t : GT) (e : GE) : GE := fun γ Q => it γ fun xs => xs.length ≤ sizeLine ∧ wipeS γ vs fun γw => lcP g t e γw xs fun ys => Q (.lst ys)
theorem xLc_eq (vs : List Nat) (it : GA) (g : GG) (t : GT) (e : GE) : xLc vs it g t e = pLc vs it g t e := by
  funext γ Q
  show (it γ fun xs => _ ∧ _) = (it γ fun xs => _ ∧ _)
  congr; funext xs; rw [wipeS_eq]
def xSet (i : Nat) (e : GE) : GS := fun D γ => e γ fun x => setS γ i (some x) D.nx
theorem xSet_eq (i : Nat) (e : GE) : xSet i e = pSet i e := by funext D γ; show e γ _ = e γ _; congr; funext x; rw [setS_eq]
def xPar (i j : Nat) (t : GA) : GS := fun D γ => t γ fun xs => match xs with | [x, y] => setS γ i (some x) fun γ1 => setS γ1 j (some y) D.nx | _ => False
theorem xPar_eq (i j : Nat) (t : GA) : xPar i j t = pPar i j t := by
  funext D γ; show t γ _ = t γ _; congr; funext xs
  match xs with
  | [] => rfl
  | [_] => rfl
  | [_, _] => simp only [setS_eq]
  | _ :: _ :: _ :: _ => rfl
def xPar3 (i j l : Nat) (t : GA) : GS := fun D γ => t γ fun xs => match xs with | [x, y, z] => setS γ i (some x) fun γ1 => setS γ1 j (some y) fun γ2 => setS γ2 l (some z) D.nx | _ => False
theorem xPar3_eq (i j l : Nat) (t : GA) : xPar3 i j l t = pPar3 i j l t := by
  funext D γ; show t γ _ = t γ _; congr; funext xs
  match xs with
  | [] => rfl
  | [_] => rfl
  | [_, _] => rfl
  | [_, _, _] => simp only [setS_eq]
  | _ :: _ :: _ :: _ :: _ => rfl
def xAug (i : Nat) (o : PO2) (e : GE) : GS := fun D γ => getS γ i fun x => e γ fun y => o x y fun z => setS γ i (some z) D.nx
theorem xAug_eq (i : Nat) (o : PO2) (e : GE) : xAug i o e = pAug i o e := by
  funext D γ; show getS γ i _ = getS γ i _; congr; funext x; congr; funext y; congr; funext z; rw [setS_eq]
def xApp (i : Nat) (e : GE) : GS := fun D γ => getS γ i fun x => match x with | .lst xs => e γ fun y => xs.length < sizeLine ∧ setS γ i (some (.lst (xs ++ [y]))) D.nx | _ => False
theorem xApp_eq (i : Nat) (e : GE) : xApp i e = pApp i e := by
  funext D γ; show getS γ i _ = getS γ i _; congr; funext x
  cases x <;> first | rfl | (show e γ _ = e γ _; congr; funext y; rw [setS_eq])
def xSetIx (i : Nat) (k e : GE) : GS := fun D γ => e γ fun y => getS γ i fun x => k γ fun n => match x, n with
  | .lst xs, .int n => (match ixN xs.length n with | some j => setS γ i (some (.lst (xs.set j y))) D.nx | none => False)
  | _, _ => False
theorem xSetIx_eq (i : Nat) (k e : GE) : xSetIx i k e = pSetIx i k e := by
  funext D γ; show e γ _ = e γ _; congr; funext y; congr; funext x; congr; funext n
  cases x <;> cases n <;> first | rfl | skip
  rename_i xs n
  show (match ixN xs.length n with | some j => _ | none => False) = (match ixN xs.length n with | some j => _ | none => False)
  cases ixN xs.length n <;> simp only [setS_eq]
def xSetIx2 (i : Nat) (k1 k2 e : GE) : GS := fun D γ => e γ fun y => getS γ i fun x => k1 γ fun m => match x, m with
  | .lst xs, .int m => (match ixN xs.length m with
    | some i1 => (match xs[i1]? with
      | some (.lst r) => k2 γ fun n => match n with
        | .int n => (match ixN r.length n with | some j => setS γ i (some (.lst (xs.set i1 (.lst (r.set j y))))) D.nx | none => False)
        | _ => False
      | _ => False)
    | none => False)
  | _, _ => False
theorem xSetIx2_eq (i : Nat) (k1 k2 e : GE) : xSetIx2 i k1 k2 e = pSetIx2 i k1 k2 e := by
  funext D γ
  simp only [xSetIx2, pSetIx2, setS_eq]
  all_goals rfl
def setF (l : List PV) : Nat → PV → (List PV → Prop) → Prop :=
  List.rec (motive := fun _ => Nat → PV → (List PV → Prop) → Prop) (fun i y K => Nat.rec (motive := fun _ => Prop) (K [y]) (fun _ _ => False) i)
    (fun a l ih i y K => Nat.rec (motive := fun _ => Prop) (K (y :: l)) (fun i _ => ih i y fun l' => K (a :: l')) i) l
theorem setF_eq : ∀ (l : List PV) (j : Nat) (y : PV) (K : List PV → Prop), setF l j y K → j ≤ l.length ∧ K (if j = l.length then l ++ [y] else l.set j y)
  | [], 0, y, K, h => ⟨by simp, h⟩
  | a :: l, 0, y, K, h => ⟨by simp, h⟩
  | a :: l, i + 1, y, K, h => by
    have := setF_eq l i y (fun l' => K (a :: l')) h
    refine ⟨by simpa using this.1, ?_⟩
    have h2 := this.2
    by_cases hi : i = l.length
    · simpa [hi] using h2
    · simpa [hi] using h2
  | [], _ + 1, _, _, h => False.elim h
def xFldS (c j : Nat) (e : GE) : GS := fun D γ => e γ fun y => getS γ 0 fun x => match x with
  | .ins c' fs => c' = c ∧ setF fs j y fun fs' => setS γ 0 (some (.ins c' fs')) D.nx
  | _ => False
section
variable {X : Cx} {ks ks' kl : List Kd} {a s a1 s1 a2 s2 a3 s3 : Bool} {e e1 e2 e3 tg : Expr} {es ifs : List Expr} {st : Stmt} {sts sts' : List Stmt} {p p1 p2 p3 : GE} {pa pb : GA} {pt : GT} {ps q : GS} {g g' : GG} {pos : Pos} {js vs : List Nat} {i j l : Nat}
theorem xq_name {k : Kd} (hg : PG X tg (gName i)) (hk : ks[i]? = some k := by rfl) (ht : takes k a s = true := by rfl) (hj : i ∈ js := by decide) : QG X ks a s js tg (xgName i) := by rw [xgName_eq]; exact qg_name hg hk ht hj
theorem xs_setG {k : Kd} (pe : ∀ {t : TE}, PE X e t → PS X st (tAsg t (gName i))) (h : QE X ks a s e p) (hk : ks[i]? = some k := by rfl) (ht : takes k a s = true := by rfl) : QS X ks ks kl st (xSet i p) := by rw [xSet_eq]; exact qs_setG pe h hk ht
theorem xs_setN (pe : ∀ {t : TE}, PE X e t → PS X st (tAsg t (gName i))) (h : QN X ks e p) (hi : i < ks.length := by decide) : QS X ks (ks.set i .own) kl st (xSet i p) := by rw [xSet_eq]; exact qs_setN pe h hi
theorem xs_setN2 (pe : ∀ {t : TE}, PE X e t → PS X st (tAsg t (gName i))) (h : QN2 X ks e p) (hik : i < ks.length := by decide) : QS X ks (ks.set i .own2) kl st (xSet i p) := by rw [xSet_eq]; exact qs_setN2 pe h hik
theorem xs_par {k k' : Kd} (pe : ∀ {t : TA}, PA X es t → PS X st (tPar i j t)) (h : QA X ks a s es pa) (hk : ks[i]? = some k := by rfl) (ht : takes k a s = true := by rfl) (hk' : ks[j]? = some k' := by rfl) (ht' : takes k' a s = true := by rfl) : QS X ks ks kl st (xPar i j pa) := by rw [xPar_eq]; exact qs_par pe h hk ht hk' ht'
theorem xs_par3 {k k' k2 : Kd} (pe : ∀ {t : TA}, PA X es t → PS X st (tPar3 i j l t)) (h : QA X ks a s es pa) (hk : ks[i]? = some k := by rfl) (ht : takes k a s = true := by rfl) (hk' : ks[j]? = some k' := by rfl) (ht' : takes k' a s = true := by rfl) (hk2 : ks[l]? = some k2 := by rfl) (ht2 : takes k2 a s = true := by rfl) : QS X ks ks kl st (xPar3 i j l pa) := by rw [xPar3_eq]; exact qs_par3 pe h hk ht hk' ht' hk2 ht2
theorem xs_aug {k : Kd} {r : TIp} {o : PO2} (ho : OpS X.K r o) (pe : ∀ {t : TE}, PE X e t → PS X st (tAug i t r)) (h : QE X ks a s e p) (hk : ks[i]? = some k := by rfl) (ht : takes k true true = true := by rfl) : QS X ks ks kl st (xAug i o p) := by rw [xAug_eq]; exact qs_aug ho pe h hk ht
theorem xs_app (pe : ∀ {t : TE}, PE X e t → PS X st (tDrop (tBM X.K "list" rAppend (tVar i) (tCons t tNil)))) (h : QE X ks true true e p) (hk : ks[i]? = some .own := by rfl) : QS X ks ks kl st (xApp i p) := by rw [xApp_eq]; exact qs_app pe h hk
theorem xs_setIx (pe : ∀ {t t' : TE}, PE X e t → PE X e3 t' → PS X st (tAsg t (gSub (tVar i) t' rSetL))) (h : QE X ks true true e p) (h3 : QE X ks a s e3 p3) (hk : ks[i]? = some .own := by rfl) : QS X ks ks kl st (xSetIx i p3 p) := by rw [xSetIx_eq]; exact qs_setIx pe h h3 hk
theorem xs_setIx2 (pe : ∀ {t t' t2 : TE}, PE X e t → PE X e2 t' → PE X e3 t2 → PS X st (tAsg t (gSub (tOp (rIxL X.K) (tVar i) t') t2 rSetL))) (h : QE X ks true true e p) (h2 : QE X ks a2 s2 e2 p2) (h3 : QE X ks a3 s3 e3 p3) (hk : ks[i]? = some .own2 := by rfl) : QS X ks ks kl st (xSetIx2 i p2 p3 p) := by rw [xSetIx2_eq]; exact qs_setIx2 pe h h2 h3 hk
theorem xs_fld (c j : Nat) {f : Str} (cl : Cls X.K (He.ga X.K (clsT c).1)) (na : NoAttr X.K (He.ga X.K (clsT c).1) f) (pe : ∀ {t : TE}, PE X e t → PS X st (sFld X.K (tVar 0) t f)) (h : QE X ks true true e p) (hk : ks[0]? = some .slf := by rfl)
    (hf : (clsT c).2[j]? = some f ∧ (clsT c).2.Nodup := by decide +kernel) : QS X ks ks kl st (xFldS c j p) :=
  PSi (pe h) fun D σ H ⟨E, L, γ, Dp, hK, R, hp, nx, rt, bk, ct⟩ => by
    refine ⟨E, L, γ, _, hK, R, hp, fun y u H1 q1 x1 ry => ?_⟩
    have R1 := R.ex x1
    obtain ⟨x, hx, q⟩ := getS_of q1
    obtain ⟨O, h1, h2, h3, h4⟩ := R1.sl
    obtain ⟨v, hv, k⟩ := h1 0 x hx
    rw [getElem?_kd hk] at k
    obtain ⟨b, rfl, ho, ⟨⟨c', fs, rfl⟩, hme⟩, ob⟩ := k
    have nt := ob.nt
    obtain ⟨dx, ws, g1, g2, g3⟩ := ob
    obtain ⟨rfl, q⟩ := q
    obtain ⟨hj, q⟩ := setF_eq _ _ _ _ q
    rw [setS_eq] at q
    have hb : b ∈ L := h2 0 b (by rw [ho]; simp)
    have hl : fs.length = ws.length := by rw [g3.length]; simp
    have hr : b ≠ E.B.r := fun z => R.ar (by rw [← z]; exact (R.lf b hb).1)
    have hn : ws.length < 1000 := by
      have : ws.length ≤ (clsT c').2.length := by
        have := congrArg List.length g2; simp at this; omega
      have h10 : (clsT c').2.length ≤ 5 := by
        rcases c' with _ | _ | _ | _ | _ | _ | _ | _ | _ | _ | _ <;> simp [clsT]
      omega
    refine ⟨.ref b, hv, b, _, dx, ws, rfl, by rw [← hK]; exact g1, cl, na, hn, ?_⟩
    rw [← hK]
    have hp2 := putF_at (v := u) (by rw [← hl]; exact g2) hf.2 hf.1 (by rw [← hl]; exact hj)
    rw [hp2]
    have ob' : Ob E.B (av E L true true) (upd H1 b (.ins (He.ga E.B.K (clsT c').1) dx (if j = ws.length then ws ++ [(f, u)] else ws.set j (f, u)))) b (.ins c' (if j = fs.length then fs ++ [y] else fs.set j y)) := by
      refine ⟨dx, _, upd_same, ?_, ?_⟩
      · by_cases hjl : j = ws.length
        · rw [if_pos hjl, if_pos (by omega)]
          simp only [List.map_append, List.map_cons, List.map_nil, List.length_append, List.length_cons, List.length_nil, g2]
          rw [List.take_add_one, hl, ← hjl, hf.1]; rfl
        · rw [if_neg hjl, if_neg (by omega)]
          rw [List.map_set, g2, List.length_set]
          apply set_self
          rw [List.getElem?_take, if_pos (by omega)]; exact hf.1
      · by_cases hjl : j = ws.length
        · rw [if_pos hjl, if_pos (by omega), List.map_append]
          exact (g3.upL hb nt).append (.cons (ry.upL hb nt) .nil)
        · rw [if_neg hjl, if_neg (by omega), List.map_set]
          exact (g3.upL hb nt).set j (ry.upL hb nt)
    refine nx L _ _ _ (Fw.trans x1.fw (.upd hb nt)) ?_ q
    have := R1.put (i := 0) (k := .slf) (x := .ins c' (if j = fs.length then fs ++ [y] else fs.set j y)) (v := .ref b) (O' := [b]) (.upd (o := .ins (He.ga E.B.K (clsT c').1) dx (if j = ws.length then ws ++ [(f, u)] else ws.set j (f, u))) hb nt) (fun c m n u e => by rw [upd_ne (fun z => n (by simp [z]))]; exact e)
      (fun c u e n => by rw [upd_ne (fun z => by rw [z, (R.lf b hb).1] at e; cases e)]; exact R1.old c u e n) (R1.bag.stay (fun u e => by rw [upd_ne (R.lq hb).symm]; exact e) fun u e => by rw [upd_ne hr.symm]; exact e)
      (fun c m => .inl m) (fun c m => (Fw.upd (B := E.B) hb nt).nn c (R1.lf c m).2) (fun _ h => h) ⟨b, rfl, rfl, ⟨⟨_, _, rfl⟩, hme⟩, ob'⟩ (fun c m => by simp at m; rw [m]; exact hb) (by simp) (fun O' k2 k3 k1 j' c hj hc m => by
        simp at hc; subst hc
        obtain ⟨w, hw, kw⟩ := k1 0 _ hx
        rw [hv] at hw; cases hw
        rw [getElem?_kd hk] at kw
        obtain ⟨d, e1, e2, _⟩ := kw
        cases e1
        exact hj (k3 j' 0 c m (by rw [e2]; simp))) (List.getElem?_eq_some_iff.mp hk).1
    rw [set_same hk, set_self hv] at this
    exact this
variable {elt iter : Expr} {scope : Scope} {own : List (Str × Nat)}
theorem xe_lc (pe : ∀ {wi : TI} {g : TG} {tt : TT} {te : TE}, PI X tg iter wi → (∀ (s : Shared) (H : Hp) (C : Addr) (cl : List (Str × Addr)) (fp : List Addr), PG (X.blk s H scope (compEnvC scope cl C X.env) fp) tg g) →
      (∀ (s : Shared) (H : Hp) (C : Addr) (cl : List (Str × Addr)) (fp : List Addr), PTs (X.blk s H scope (compEnvC scope cl C X.env) fp) ifs tt) → (∀ (s : Shared) (H : Hp) (C : Addr) (cl : List (Str × Addr)) (fp : List Addr), PE (X.blk s H scope (compEnvC scope cl C X.env) fp) elt te) → PE X e (tLc wi g tt te (own.map (·.2))))
    (hi : QI X ks a1 tg iter pa) (hg : ∀ (s : Shared) (H : Hp) (C : Addr) (cl : List (Str × Addr)) (fp : List Addr), QG (X.blk s H scope (compEnvC scope cl C X.env) fp) ks a1 true (own.map (·.2)) tg g)
    (ht : ∀ (s : Shared) (H : Hp) (C : Addr) (cl : List (Str × Addr)) (fp : List Addr), QTs (X.blk s H scope (compEnvC scope cl C X.env) fp) ks ifs pt) (he : ∀ (s : Shared) (H : Hp) (C : Addr) (cl : List (Str × Addr)) (fp : List Addr), QE (X.blk s H scope (compEnvC scope cl C X.env) fp) ks a true elt p) :
    QE X ks a true e (xLc (own.map (·.2)) pa g pt p) := by rw [xLc_eq]; exact qe_lc pe hi hg ht he
theorem xn2_lc (pe : ∀ {wi : TI} {g : TG} {tt : TT} {te : TE}, PI X tg iter wi → (∀ (s : Shared) (H : Hp) (C : Addr) (cl : List (Str × Addr)) (fp : List Addr), PG (X.blk s H scope (compEnvC scope cl C X.env) fp) tg g) →
      (∀ (s : Shared) (H : Hp) (C : Addr) (cl : List (Str × Addr)) (fp : List Addr), PTs (X.blk s H scope (compEnvC scope cl C X.env) fp) ifs tt) → (∀ (s : Shared) (H : Hp) (C : Addr) (cl : List (Str × Addr)) (fp : List Addr), PE (X.blk s H scope (compEnvC scope cl C X.env) fp) elt te) → PE X e (tLc wi g tt te (own.map (·.2))))
    (hi : QI X ks a1 tg iter pa) (hg : ∀ (s : Shared) (H : Hp) (C : Addr) (cl : List (Str × Addr)) (fp : List Addr), QG (X.blk s H scope (compEnvC scope cl C X.env) fp) ks a1 true (own.map (·.2)) tg g)
    (ht : ∀ (s : Shared) (H : Hp) (C : Addr) (cl : List (Str × Addr)) (fp : List Addr), QTs (X.blk s H scope (compEnvC scope cl C X.env) fp) ks ifs pt) (he : ∀ (s : Shared) (H : Hp) (C : Addr) (cl : List (Str × Addr)) (fp : List Addr), QN (X.blk s H scope (compEnvC scope cl C X.env) fp) ks elt p) :
    QN2 X ks e (xLc (own.map (·.2)) pa g pt p) := by rw [xLc_eq]; exact qn2_lc pe hi hg ht he
theorem xs_setLc {kk : Kd} (pe : ∀ {wi : TI} {g : TG} {tt : TT} {te : TE}, PI X tg iter wi → (∀ (s : Shared) (H : Hp) (C : Addr) (cl : List (Str × Addr)) (fp : List Addr), PG (X.blk s H scope (compEnvC scope cl C X.env) fp) tg g) →
      (∀ (s : Shared) (H : Hp) (C : Addr) (cl : List (Str × Addr)) (fp : List Addr), PTs (X.blk s H scope (compEnvC scope cl C X.env) fp) ifs tt) → (∀ (s : Shared) (H : Hp) (C : Addr) (cl : List (Str × Addr)) (fp : List Addr), PE (X.blk s H scope (compEnvC scope cl C X.env) fp) elt te) → PS X st (tAsg (tLc wi g tt te (own.map (·.2))) (gName i)))
    (hi : QI X ks a1 tg iter pa) (hg : ∀ (s : Shared) (H : Hp) (C : Addr) (cl : List (Str × Addr)) (fp : List Addr), QG (X.blk s H scope (compEnvC scope cl C X.env) fp) ks a1 true (own.map (·.2)) tg g)
    (ht : ∀ (s : Shared) (H : Hp) (C : Addr) (cl : List (Str × Addr)) (fp : List Addr), QTs (X.blk s H scope (compEnvC scope cl C X.env) fp) ks ifs pt) (he : ∀ (s : Shared) (H : Hp) (C : Addr) (cl : List (Str × Addr)) (fp : List Addr), QE (X.blk s H scope (compEnvC scope cl C X.env) fp) ks a true elt p)
    (hk : ks[i]? = some kk := by rfl) (htk : takes kk a true = true := by rfl) : QS X ks ks kl st (xSet i (xLc (own.map (·.2)) pa g pt p)) := by rw [xSet_eq, xLc_eq]; exact qs_setLc pe hi hg ht he hk htk
theorem xs_setLc2 (pe : ∀ {wi : TI} {g : TG} {tt : TT} {te : TE}, PI X tg iter wi → (∀ (s : Shared) (H : Hp) (C : Addr) (cl : List (Str × Addr)) (fp : List Addr), PG (X.blk s H scope (compEnvC scope cl C X.env) fp) tg g) →
      (∀ (s : Shared) (H : Hp) (C : Addr) (cl : List (Str × Addr)) (fp : List Addr), PTs (X.blk s H scope (compEnvC scope cl C X.env) fp) ifs tt) → (∀ (s : Shared) (H : Hp) (C : Addr) (cl : List (Str × Addr)) (fp : List Addr), PE (X.blk s H scope (compEnvC scope cl C X.env) fp) elt te) → PS X st (tAsg (tLc wi g tt te (own.map (·.2))) (gName i)))
    (hi : QI X ks a1 tg iter pa) (hg : ∀ (s : Shared) (H : Hp) (C : Addr) (cl : List (Str × Addr)) (fp : List Addr), QG (X.blk s H scope (compEnvC scope cl C X.env) fp) ks a1 true (own.map (·.2)) tg g)
    (ht : ∀ (s : Shared) (H : Hp) (C : Addr) (cl : List (Str × Addr)) (fp : List Addr), QTs (X.blk s H scope (compEnvC scope cl C X.env) fp) ks ifs pt) (he : ∀ (s : Shared) (H : Hp) (C : Addr) (cl : List (Str × Addr)) (fp : List Addr), QN (X.blk s H scope (compEnvC scope cl C X.env) fp) ks elt p)
    (hik : i < ks.length := by decide) : QS X ks (ks.set i .own2) kl st (xSet i (xLc (own.map (·.2)) pa g pt p)) := by rw [xSet_eq, xLc_eq]; exact qs_setLc2 pe hi hg ht he hik
end
end Vl
namespace Vl
open PySem PySem.Spec L2 Lb
/-! ### what repr tells of plain data (the guards must be known) -/
section
variable {X : Cx}
def rRepr (K : Fg) : List V → Hp → VK → Prop := fun xs H Q => ∃ x d, xs = [x] ∧ Dp K H x d ∧ d.showable = true ∧ d.hasDict = false ∧ d.depth ≤ 30 ∧ d.shown.length ≤ sizeLine ∧ (∀ i, d = .int i → i.natAbs.log2 < 1920) ∧ Q (.str d.shown) H
theorem call_reprG (hg : X.A.guards = some []) (hu : X.A.units + 64 < cLine) : CallR X (.builtin "repr") (rRepr X.K) := by
  intro pins s σ H xs us Q I r h
  obtain ⟨x, d, rfl, hd, hs, hD, hdp, hz, hi, q⟩ := h
  obtain ⟨u, rfl, ru⟩ := vals1 r
  cases hd with
  | non => cases ru; exact PySem.P.repr_of_none ⟨.str _, H, I.tok _, ⟨_, rfl⟩, q⟩
  | bl b => cases ru; exact PySem.P.repr_of_bool ⟨.str _, H, I.tok _, ⟨_, rfl⟩, q⟩
  | int i => obtain ⟨t, rfl⟩ := ru; exact PySem.P.repr_of_int (hi i rfl) ⟨.str _, H, I.tok _, ⟨_, rfl⟩, q⟩
  | str y => obtain ⟨t, rfl⟩ := ru; exact PySem.P.repr_of_str ⟨.str _, H, I.tok _, ⟨_, rfl⟩, q⟩ hz
  | lst h1 h2 =>
    obtain ⟨as, rd⟩ := Dp.reads I _ _ _ (.lst h1 h2) ru
    cases ru
    exact repr_of_reads' rd hs (fun e => by rw [hD] at e; cases e) hg (by omega) (fun _ _ e => e) (fun h' u tk k => ⟨.str _, H, I.kept k, ⟨_, rfl⟩, q⟩) hz
  | tup h1 h2 =>
    obtain ⟨as, rd⟩ := Dp.reads I _ _ _ (.tup h1 h2) ru
    cases ru
    exact repr_of_reads' rd hs (fun e => by rw [hD] at e; cases e) hg (by omega) (fun _ _ e => e) (fun h' u tk k => ⟨.str _, H, I.kept k, ⟨_, rfl⟩, q⟩) hz
end
end Vl
namespace Vl
open PySem PySem.Spec L2 Lb PyProof.Rows
/-! ### promises where nothing is being shown around (for repr) -/
structure FnG (P : Program) (w : World) (K : Fg) (mg : Str → Option Value) (base : Heap) (k : Nat) (f : Addr) (fd : FuncData) (ps : List Str) (sp : Sp) : Prop where
  n : ∀ vs H Q E, sp vs H Q E → vs.length = ps.length
  go : ∀ (A : Around) (o : List Env) (s : Shared) (H : Hp) (args : Args) (us : List Value) (vs : List V) (Q : VK) (E : XK), A.guards = some [] → Room k A →
    Env0 P w K mg base A o s H → BindsTo s fd args (ps.zip us) → Vals vs us → sp vs H Q E → codeAny (model P w) A (.call (.ref f) args) (CR CX0 o P w H s Q E) s
section
variable {P : Program} {w : World} {K : Fg} {mg : Str → Option Value} {base : Heap} {k : Nat} {f : Addr} {fd : FuncData} {ps : List Str} {sp : Sp}
theorem FnG.of (F : FnOk P w K mg base CX0 k f fd ps sp) : FnG P w K mg base k f fd ps sp := ⟨F.len, fun A o s H args us vs Q E _ => F.run A o s H args us vs Q E⟩
theorem FnG.mono {j : Nat} (F : FnG P w K mg base j f fd ps sp) (h : j ≤ k) : FnG P w K mg base k f fd ps sp := ⟨F.n, fun A o s H args us vs Q E g r => F.go A o s H args us vs Q E g (r.mono h)⟩
theorem fnG_of {nm qual : Str} {pr : Arguments} {bd : List Stmt} {sc : Scope} {dV kV doc pm cdv ct oc : Value} {an od : Option Addr} {osl : Array (Option Value)} {N : List Str}
    (lk : K.lookup f = some ⟨oc, od, .func (PySem.W.fnOf nm qual pr bd sc dV kV doc pm an cdv ct), osl⟩) (hcd : PySem.W.codeIn K cdv qual = true) (S : FnScope N ps sc) (hn : ∀ vs H Q E, sp vs H Q E → vs.length = ps.length)
    (hb : ∀ (A : Around) (o : List Env) (s : Shared) (H : Hp) (vs : List V) (Q : VK) (E : XK), A.guards = some [] → Room k (A.deeper (envOfC qual sc s.heap.objs.size f cdv)) → sp vs H Q E →
      ∃ t, PSs (cxOf CX0 P w K mg base N qual sc f cdv A o s H E) bd t ∧ t { nx := fun _ H' => Q .non H', rt := Q } (start N vs) H) :
    FnG P w K mg base (k + 1) f (PySem.W.fnOf nm qual pr bd sc dV kV doc pm an cdv ct) ps sp := by
  constructor
  · exact hn
  intro A o s H args us vs Q E g hr e0 bnd rv hsp
  have old : ∀ b u, base.get? b = some u → s.heap.get? b = some u := fun b u e => (e0.bs b u e).1
  have inK : K.In s.heap := e0.mod.kin.keeps old
  have kinds : ∀ y ∈ ps.zip us, sc.names.lookup y.1 = some .local ∨ (sc.names.lookup y.1 = some .cell ∧ ((cellsFrom (s.heap.objs.size + 1) sc.names []).lookup y.1).isSome = true) := by
    rintro ⟨a, b⟩ m
    exact (S.par a (List.of_mem_zip m).1).imp id fun z => ⟨z, PySem.W.cellsFrom_some _ _ _ (.inl z)⟩
  apply codeAny_call_function hr.depth (inK _ _ lk) rfl S.co S.gen rfl (PySem.W.codeRec_of inK hcd)
  apply bnd
  apply wpAny_newFunctionEnv_cells S.kind kinds
  rintro _ rfl s1 x
  constructor
  · exact (e0.mod.nolimit.keeps old).keeps x.toInCall.keep
  apply codeAny_func
  obtain ⟨t, h1, h2⟩ := hb A o s H vs Q E g (hr.deeper _) hsp
  have J := h1.run [] s1 (start N vs) H _ (inv_start S hr.hd e0 (hn _ _ _ _ hsp) rv x) h2
  refine wpAny_mono J (fun fl s' z => ?_) fun _ _ z => z
  match fl, z with
  | .ret u, ⟨v, _, H', J, r, q⟩ => exact ⟨v, H', J.os, J.bare, J.base, J.hok, r, q⟩
  | .next, ⟨_, H', J, q⟩ => exact ⟨.non, H', J.os, J.bare, J.base, J.hok, rfl, q⟩
  | .brk, ⟨_, _, _, q⟩ => exact q.elim
  | .cont, ⟨_, _, _, q⟩ => exact q.elim
end
section
variable {X : Cx} {k : Nat} {f : Addr} {fd : FuncData} {ps : List Str} {sp : Sp} {dvs : List V} {ds : List Value} {x : Str} {p pos : Pos} {e : Expr} {es : List Expr} {t : TA}
theorem runG {pins : List (Addr × Obj)} {σ : L2.St} {H : Hp} {s : Shared} {Q : VK} {us : List Value} {vs : List V} (F : FnG X.prog X.w X.K X.mg X.base k f fd ps sp) (g : X.A.guards = some []) (hr : Room k X.A)
    (hb : Binds X.K fd ps ds) (hd : Vals dvs ds) (I : Inv X pins σ H s) (r : Vals vs us) (h : sp (vs ++ dvs) H Q E0) : wpAny (model X.prog X.w) X.A (call (.ref f) us) (EP X pins σ Q) X.xe s := by
  have all := r.append hd
  have n : (us ++ ds).length = ps.length := all.length.symm.trans (F.n _ _ _ _ h)
  apply wpAny_call
  refine codeAny_mono (F.go X.A X.stack s H ⟨us, []⟩ _ _ Q E0 g hr I.env0 (hb s us I.kIn n) all h) fun z s' q => ?_
  match z, q with
  | .error v, q => exact pass0 pins σ H s v s' I q
  | .ok (.ret u), q => exact I.after q
  | .ok .next, q => exact (q : False).elim
  | .ok .brk, q => exact (q : False).elim
  | .ok .cont, q => exact (q : False).elim
/-- a def that may be called by its name where nothing is being shown -/
structure CalG (P : Program) (w : World) (K : Fg) (mg : Str → Option Value) (base : Heap) (k : Nat) (x : Str) (sp : Sp) (dvs : List V) : Prop where
  ex : ∃ (f : Addr) (fd : FuncData) (ps : List Str) (ds : List Value), FnG P w K mg base k f fd ps sp ∧ mg x = some (.ref f) ∧ PySem.W.keepIn K (.ref f) = true ∧ Binds K fd ps ds ∧ Vals dvs ds
theorem pe_cG {j : Nat} (c : CalG X.prog X.w X.K X.mg X.base k x sp dvs) (g : X.A.guards = some []) (hr : Room j X.A) (hk : k ≤ j) (hg : Gl X x) (ha : PA X (e :: es) t)
    (hdb : (x == ("__debug__" : Str)) = false := by decide) (h1 : starEach (e :: es) X.env = (false, eval e X.env) :: starEach es X.env := by rfl) (h2 : (backTo pos (starEach es X.env)).any (·.1) = false := by rfl) :
    PE X (.Call (.Name x p) (e :: es) [] pos) (tCall sp dvs E0 t) := by
  obtain ⟨f, fd, ps, ds, F, hm, kp, b, d⟩ := c.ex
  constructor
  intro pins s σ H Q I h
  apply wpAny_Call_Name_kw
  refine ld_glob I hg hm (PySem.W.callWith_K (h₀ := X.base) I.ok.mod.kin kp (thn (ha.run pos pins s σ H _ I h) fun us s1 z => ?_) h1 h2) hdb
  obtain ⟨vs, H1, I1, r, q⟩ := z
  exact ⟨I1.kIn, runG F g (hr.mono hk) b d I1 r q⟩
end
end Vl
namespace Vl
open PySem PySem.Spec L2 Lb PyProof.Rows
/-! ### a law's end where nothing is being shown -/
section
variable {P : Program} {w : World} {K : Fg} {mg mb : Str → Option Value} {k : Nat} {fa a : Addr} {fd : FuncData} {x : Str} {sp : Sp} {s₁ : Shared} {vs : List Value} {ns : List Int}
theorem endG0 (KX : K.In s₁.heap) (h1 : s₁.heap.Ns mainGlobals mg) (h2 : s₁.heap.Ns builtinsNs mb) (h3 : ∀ x : Str, x ≠ "__name__" → mb x = bootBuiltins x) (h4 : s₁.heap.NoLimit) (h5 : s₁.gens = #[])
    (ha : s₁.heap.get? a = some { cls := .type "list", data := .seq vs.toArray }) (hr : Room k callerA)
    (F : ∀ base : Heap, K.In base → base.Ns mainGlobals mg → FnG P w K mg base k fa fd [x] sp) (hb : ∀ (s : Shared) (u : Value), BindsTo s fd ⟨[u], []⟩ [(x, u)])
    {H : Hp} (hO : Only H) (hok : HOk P w H s₁.heap) (hA : ∀ b, H b ≠ none → b = a) (hK : H a ≠ none → K.lookup a = none) (hs : sp [.ref a] H (fun v _ => v = .bl true) fun _ _ _ => False) (hE : ∀ e s', ¬ CX0 [] H s₁ (fun _ _ _ => False) e s') :
    codeAny (model P w) callerA (.call (.ref fa) ⟨[.ref a], []⟩) (fun r s' => r = .ok (.ret (.bool true)) ∧ OldK s₁.heap s'.heap ∧ s'.os = s₁.os ∧ AllBare s'.gens) s₁ := by
  have nd : ∀ {b : Addr} {o : Obj}, s₁.heap.get? b = some o → (b = a → False) → (hidT s₁.heap H).get? b = some o := fun {b o} e n => hidT_get e (Classical.byContradiction fun z => n (hA b z))
  have nsK : ∀ {b : Addr} {m : Str → Option Value}, s₁.heap.Ns b m → (hidT s₁.heap H).Ns b m := by
    rintro b m ⟨o, es, ep, e, d, r⟩
    refine ⟨o, es, ep, nd e fun z => ?_, d, r⟩
    subst z
    rw [ha] at e
    cases e
    cases (d : Data.seq vs.toArray _ = Data.dict es ep)
  have inK : K.In (hidT s₁.heap H) := by
    intro b o e
    refine hidT_get (KX b o e) (Classical.byContradiction fun z => ?_)
    have e' := hA b z
    subst e'
    rw [hK z] at e
    cases e
  obtain ⟨mc, l1, l2⟩ := h4
  have e0 : Env0 P w K mg (hidT s₁.heap H) callerA [] s₁ H :=
    ⟨rfl, ⟨inK, nsK h1, ⟨mb, nsK h2, h3⟩, ⟨mc, nsK l1, l2⟩⟩, fun b o e => of_hidT e, Nat.le_of_eq (hidT_size _ _), trivial, fun b z => absurd (show b ∈ ([] : List Addr) from z) (by simp), hok, .of_eq h5⟩
  have run := (F _ inK (nsK h1)).go callerA [] s₁ H ⟨[.ref a], []⟩ [.ref a] [.ref a] _ _ rfl hr e0 (hb s₁ (.ref a)) (.cons rfl .nil) hs
  refine codeAny_mono run fun r s' h => ?_
  match r, h with
  | .error e, h => exact (hE e s' h).elim
  | .ok .next, h => exact (h : False).elim
  | .ok .brk, h => exact (h : False).elim
  | .ok .cont, h => exact (h : False).elim
  | .ok (.ret u), ⟨v, H', os, bare, un, hok', r', q⟩ =>
    obtain rfl : v = .bl true := q
    obtain rfl : u = Value.bool true := r'
    refine ⟨rfl, OldK.of_keep fun b o e => ?_, os, bare⟩
    rcases hO b with z | ⟨ob, xs, z⟩
    · exact un.keep b o e z (fun m => absurd (show b ∈ ([] : List Addr) from m) (by simp)) (by simp)
    · have e1 := (hok b _ z).1
      rw [e] at e1
      cases e1
      exact (hok' b _ (un.frzs b _ _ z)).1
theorem endG (KX : K.In s₁.heap) (h1 : s₁.heap.Ns mainGlobals mg) (h2 : s₁.heap.Ns builtinsNs mb) (h3 : ∀ x : Str, x ≠ "__name__" → mb x = bootBuiltins x) (h4 : s₁.heap.NoLimit) (h5 : s₁.gens = #[])
    (ha : s₁.heap.get? a = some { cls := .type "list", data := .seq vs.toArray }) (hi : IntsAre vs ns) (hl : ns.length ≤ sizeLine) (hr : Room k callerA)
    (F : ∀ base : Heap, K.In base → base.Ns mainGlobals mg → FnG P w K mg base k fa fd [x] sp) (hb : ∀ (s : Shared) (u : Value), BindsTo s fd ⟨[u], []⟩ [(x, u)])
    (hs : ∀ H : Hp, Only H → SqL K H a (ns.map V.int) → sp [.ref a] H (fun v _ => v = .bl true) fun _ _ _ => False) (hE : ∀ H e s', ¬ CX0 [] H s₁ (fun _ _ _ => False) e s') :
    codeAny (model P w) callerA (.call (.ref fa) ⟨[.ref a], []⟩) (fun r s' => r = .ok (.ret (.bool true)) ∧ OldK s₁.heap s'.heap ∧ s'.os = s₁.os ∧ AllBare s'.gens) s₁ := by
  have rv := vals_ints hi
  have le : vs.toArray.size ≤ sizeLine := by rw [List.size_toArray, ← show ns.length = vs.length from hi.length.symm]; exact hl
  cases hk : K.lookup a with
  | some o =>
    have e := KX a o hk
    rw [ha] at e
    cases e
    have O : Only (fun _ => none) := fun _ => .inl rfl
    exact endG0 KX h1 h2 h3 h4 h5 ha hr F hb O (fun b u z => by cases (z : (none : Option HO) = some u)) (fun b z => absurd rfl z) (fun z => absurd rfl z) (hs _ O (.inr ⟨_, vs.toArray, _, hk, rfl, rfl, rfl, le, by simpa using rv⟩)) (hE _)
  | none =>
    let H : Hp := fun b => if b = a then some (.frz { cls := .type "list", data := .seq vs.toArray } (.lst (ns.map V.int))) else none
    have at_a : H a = some (.frz { cls := .type "list", data := .seq vs.toArray } (.lst (ns.map V.int))) := if_pos rfl
    have off : ∀ b, b ≠ a → H b = none := fun b n => if_neg n
    have O : Only H := fun b => by
      by_cases z : b = a
      · subst z; exact .inr ⟨_, _, at_a⟩
      · exact .inl (off b z)
    refine endG0 KX h1 h2 h3 h4 h5 ha hr F hb O (fun b u z => ?_) (fun b z => Classical.byContradiction fun n => z (off b n)) (fun _ => hk) (hs H O (.inl (.inr ⟨_, at_a⟩))) (hE _)
    by_cases n : b = a
    · subst n
      rw [at_a] at z
      cases z
      exact ⟨ha, by rw [List.length_map]; exact hl, vs, _, rv, ha⟩
    · rw [off b n] at z
      cases z
end
theorem walkG {l : PySem.W.OpenLaw} {n k : Nat} {q : Program} {loose : List Str} {XP : (Str → Option Value) → Heap → Prop} {YP : World → Heap → Prop} {d : DefRec} {x : Str}
    (hn : l.most = some n) (hn2 : n ≤ sizeLine) (hdf : d.params.defaults = []) (hr : Room k callerA)
    (F : ∀ (w : World) (mg : Str → Option Value) (fa : Addr) (h : Heap), YP w h → h.Ns mainGlobals mg → mg d.name = some (.ref fa) →
      ∃ (K : Fg) (fd : FuncData) (sp : Sp), K.In h ∧ (∀ (s : Shared) (u : Value), BindsTo s fd ⟨[u], []⟩ [(x, u)]) ∧
        (∀ (H : Hp) (a : Addr) (ns : List Int), ns.length ≤ n → Only H → SqL K H a (ns.map V.int) → sp [.ref a] H (fun v _ => v = .bl true) fun _ _ _ => False) ∧
        ∀ base : Heap, K.In base → base.Ns mainGlobals mg → FnG l.prog w K mg base k fa fd [x] sp) :
    PySem.W.WalkO q loose XP YP l.row.toRowW d [] (fun f vs => PySem.call f vs) := by
  apply Att.attach_call hn hdf
  intro w s₀ s₁ mg mb fa o pm cd doc a vs ns G Y ho hd hcd hmg hobj hints hlen hg
  obtain ⟨K, fd, sp, KX, hb, hsp, hF⟩ := F w mg fa _ Y G.T.g hmg
  exact endG KX G.T.g G.T.b G.T.builtins G.T.nolimit hg hobj hints (Nat.le_trans hlen hn2) hr hF hb (fun H hO hS => hsp H a ns hlen hO hS) fun _ _ _ z => z
end Vl
namespace Vl
open PySem PySem.Spec L2 Lb
/-! ### repr, plainly -/
def shw (x : PV) : Prop := dat 8 x = true ∧ (toD x).showable = true ∧ (toD x).hasDict = false ∧ (toD x).depth ≤ 30 ∧ (toD x).shown.length ≤ sizeLine ∧ ∀ i, toD x = .int i → i.natAbs.log2 < 1920
def bRepr : PCl
  | [x], Q => shw x ∧ Q (.str (toD x).shown)
  | _, _ => False
theorem repr_ok {K : Fg} : CallS K (rRepr K) bRepr := by
  intro B H xs vs Q Qp hK r h k
  subst hK
  match xs, r, h with
  | [x], .cons r .nil, h => exact ⟨_, _, rfl, dat_dp 8 r h.1.1, h.1.2.1, h.1.2.2.1, h.1.2.2.2.1, h.1.2.2.2.2.1, h.1.2.2.2.2.2, k _ _ H h.2 (.refl _ _) fun A _ _ => .str _⟩
  | [], _, h => exact (h : False).elim
  | _ :: _ :: _, _, h => exact (h : False).elim
section
variable {X : Cx} {ks : List Kd} {a s : Bool} {e : Expr} {es : List Expr} {pa : GA} {w : PW} {k j n : Nat} {x : Str} {dvs : List V} {ds : List PV} {p0 pos : Pos}
theorem qe_calGF (cc : CalG X.prog X.w X.K X.mg X.base k x (spF n w X.K) dvs) (hd : Dfl X.K ds dvs) (g : X.A.guards = some []) (hr : Room j X.A) (hk : k ≤ j) (hg : Gl X x) (h : QA X ks a s (e :: es) pa) (hn : (e :: es).length + dvs.length = n := by rfl)
    (hdb : (x == ("__debug__" : Str)) = false := by decide) (h1 : starEach (e :: es) X.env = (false, eval e X.env) :: starEach es X.env := by rfl) (h2 : (backTo pos (starEach es X.env)).any (·.1) = false := by rfl) :
    QE X ks true true (.Call (.Name x p0) (e :: es) [] pos) (pCall w ds pa) := qe_callF (ps := []) (fun t => pe_cG cc g hr hk hg t hdb h1 h2) hd h hn
theorem qe_repr (hm : X.mg "repr" = none) (hg : Gl X "repr") (g : X.A.guards = some []) (hu : X.A.units + 64 < cLine) (h : QA X ks a s [e] pa) (h1 : starEach [e] X.env = (false, eval e X.env) :: starEach [] X.env := by rfl) (h2 : (backTo pos (starEach [] X.env)).any (·.1) = false := by rfl) :
    QE X ks true true (.Call (.Name "repr" p0) [e] [] pos) (pCB bRepr pa) := qe_cbS repr_ok (call_reprG g hu) hm hg (by rfl) h (he := h1) (hpl := h2)
end
section
open PyProof.Rows
variable {P : Program} {w : World} {K : Fg} {mg : Str → Option Value} {base : Heap} {x qual : Str} {pr : Arguments} {bd : List Stmt} {sc : Scope} {dvs : List V} {kws : List (Str × V)} {f : Addr} {fd : FuncData}
theorem okG {N ps : List Str} {k : Nat} {sp : Sp} (F : FunD K x qual pr bd sc dvs kws f fd) (S : FnScope N ps sc) (hn : ∀ vs H Q E, sp vs H Q E → vs.length = ps.length)
    (hb : ∀ (cdv : Value) (A : Around) (o : List Env) (s : Shared) (H : Hp) (vs : List V) (Q : VK) (E : XK), A.guards = some [] → Room k (A.deeper (envOfC qual sc s.heap.objs.size f cdv)) → sp vs H Q E →
      ∃ t, PSs (cxOf CX0 P w K mg base N qual sc f cdv A o s H E) bd t ∧ t { nx := fun _ H' => Q .non H', rt := Q } (start N vs) H) : FnG P w K mg base (k + 1) f fd ps sp := by
  obtain ⟨oc, od, dV, kV, doc, pm, an, cdv, ct, osl, e, lk, hcd, z⟩ := F.ex
  subst e
  exact fnG_of lk hcd S hn (hb cdv)
end
end Vl
namespace Vl
open PySem PySem.Spec L2 Lb
/-! ### is of truths; enumerate, zip -/
def oIsT (neg : Bool) : PO2
  | .bl a, .bl b, Q => Q (.bl (if neg then !decide (a = b) else decide (a = b)))
  | _, _, _ => False
theorem isT_ok {K : Fg} : OpS K L2.rIsB (oIsT false) := by
  intro B H x y v u Q Qp hK rx ry h k
  cases rx <;> cases ry <;> first | exact (h : False).elim | skip
  exact ⟨_, _, rfl, rfl, k _ _ H h (.refl _ _) fun A => .bl _⟩
theorem notT_ok {K : Fg} : OpS K L2.rNotB (oIsT true) := by
  intro B H x y v u Q Qp hK rx ry h k
  cases rx <;> cases ry <;> first | exact (h : False).elim | skip
  exact ⟨_, _, rfl, rfl, k _ _ H h (.refl _ _) fun A => .bl _⟩
section
variable {X : Cx} {ks : List Kd} {a s a1 s1 a2 s2 : Bool} {e e1 e2 : Expr} {es : List Expr} {p p1 p2 : GE} {pa : GA} {pos : Pos}
theorem qe_isT (h1 : QE X ks a1 s1 e1 p1) (h2 : QE X ks a2 s2 e2 p2) : QE X ks true true (.Compare e1 [.Is] [e2] pos) (pOp (oIsT false) p1 p2) := qe_opS isT_ok (fun x y => pe_cmpR op_isBl x y (nomark _)) h1 h2
theorem qt_isT (h1 : QE X ks a1 s1 e1 p1) (h2 : QE X ks a2 s2 e2 p2) : QT X ks (.Compare e1 [.Is] [e2] pos) (pTest (pOp (oIsT false) p1 p2)) := qt_opS isT_ok (fun x y => pt_cmpR op_isBl x y (nomark _)) h1 h2
theorem qe_isNotT (h1 : QE X ks a1 s1 e1 p1) (h2 : QE X ks a2 s2 e2 p2) : QE X ks true true (.Compare e1 [.IsNot] [e2] pos) (pOp (oIsT true) p1 p2) := qe_opS notT_ok (fun x y => pe_cmpR op_notBl x y (nomark _)) h1 h2
theorem qt_isNotT (h1 : QE X ks a1 s1 e1 p1) (h2 : QE X ks a2 s2 e2 p2) : QT X ks (.Compare e1 [.IsNot] [e2] pos) (pTest (pOp (oIsT true) p1 p2)) := qt_opS notT_ok (fun x y => pt_cmpR op_notBl x y (nomark _)) h1 h2
end
def enumL : Nat → List PV → List PV
  | _, [] => []
  | n, x :: xs => .tup [.int n, x] :: enumL (n + 1) xs
theorem enumL_len : ∀ (n : Nat) (xs : List PV), (enumL n xs).length = xs.length
  | _, [] => rfl
  | n, x :: xs => by simp [enumL, enumL_len (n + 1) xs]
theorem enumL_at : ∀ (n : Nat) (xs : List PV) (i : Nat) {x : PV}, xs[i]? = some x → (enumL n xs)[i]? = some (.tup [.int ((n + i : Nat) : Int), x])
  | _, [], _, _, h => by simp at h
  | n, y :: xs, 0, x, h => by simp at h; subst h; rfl
  | n, y :: xs, i + 1, x, h => by
    have := enumL_at (n + 1) xs i (by simpa using h)
    simp only [enumL, List.getElem?_cons_succ]
    rw [this]
    congr 4; omega
def pEnum (p : GE) : GA := fun γ Q => p γ fun x => match x with | .lst xs => Q (enumL 0 xs) | _ => False
def zipL : List PV → List PV → List PV
  | x :: xs, y :: ys => .tup [x, y] :: zipL xs ys
  | _, _ => []
theorem zipL_len : ∀ (xs ys : List PV), (zipL xs ys).length = min xs.length ys.length
  | [], _ => by simp [zipL]
  | _ :: _, [] => by simp [zipL]
  | x :: xs, y :: ys => by simp [zipL, zipL_len xs ys]
theorem zipL_at : ∀ (xs ys : List PV) (i : Nat) {x y : PV}, xs[i]? = some x → ys[i]? = some y → (zipL xs ys)[i]? = some (.tup [x, y])
  | [], _, _, _, _, h, _ => by simp at h
  | _ :: _, [], _, _, _, _, h => by simp at h
  | x :: xs, y :: ys, 0, _, _, h, h' => by simp at h h'; subst h; subst h'; rfl
  | x :: xs, y :: ys, i + 1, _, _, h, h' => by simpa [zipL] using zipL_at xs ys i (by simpa using h) (by simpa using h')
def pZip (t : GA) : GA := fun γ Q => t γ fun xs => match xs with
  | [.lst x, .lst y] => Q (zipL x y)
  | [.tup x, .tup y] => Q (zipL x y)
  | _ => False
section
variable {X : Cx} {ks : List Kd} {a s a1 a2 : Bool} {tg e e1 e2 : Expr} {es elts : List Expr} {kk : Nat} {p p1 p2 : GE} {pa : GA} {pos p0 tpos : Pos}
theorem av_tt {E : Ac} {L : List Addr} {H : Hp} {a : Bool} {γ : G} {σ : St} (R : Rel E L ks γ σ H) : ∀ b, av E L a true b → H b ≠ none := fun b z => av_nn R z
theorem qi_enum (hg : Gl X "enumerate") (hm : X.mg "enumerate" = none) (h : QE X ks a true e p) (hs : starEach [e] X.env = [(false, eval e X.env)] := by rfl) : QI X ks a (.Tuple elts kk tpos) (.Call (.Name "enumerate" p0) [e] [] pos) (pEnum p) :=
  PIi (pi_enum hg hm (pa_cons h pa_nil hs) hs) fun σ H R ⟨E, L, γ, Qp, hK, Rl, hp, k⟩ => by
    refine ⟨E, L, γ, _, hK, Rl, hp, fun x v H1 q1 x1 r1 => ?_⟩
    cases r1 <;> first | exact q1.elim | skip
    rename_i b vs xs n h1 r
    refine ⟨b, vs, rfl, .inl (.inl h1), k _ _ H1 q1 x1 ⟨LstP E a b xs vs, ⟨h1, (nav n).1, (nav n).2, r⟩, fun _ _ _ _ h f => h.fw f, fun i L H h hi => ?_, fun i L H h hi => ?_⟩⟩
    · rw [enumL_len] at hi
      obtain ⟨u, hu, ru⟩ := h.2.2.2.get (List.getElem?_eq_getElem hi)
      refine ⟨⟨vs, u, .inl (.inl h.1), hu⟩, fun v H' ⟨T, y, e1, nT, e2, e3⟩ => ?_⟩
      subst e1; subst e2
      have := e3 vs (.inl (.inl h.1))
      rw [hu] at this; cases this
      refine ⟨.new nT, _, enumL_at 0 xs i (List.getElem?_eq_getElem hi), ?_⟩
      rw [Nat.zero_add]
      exact Rp.newT (.cons (.int _) (.cons ru .nil)) av_q nT
    · rw [enumL_len] at hi
      exact ⟨vs, .inl (.inl h.1), by rw [← h.2.2.2.length]; exact hi⟩
theorem qi_zip (hg : Gl X "zip") (hm : X.mg "zip" = none) (h : QA X ks a true [e1, e2] pa) (hs : starEach [e1, e2] X.env = (false, eval e1 X.env) :: starEach [e2] X.env := by rfl) (hpl : (backTo pos (starEach [e2] X.env)).any (·.1) = false := by rfl) :
    QI X ks a (.Tuple elts kk tpos) (.Call (.Name "zip" p0) [e1, e2] [] pos) (pZip pa) :=
  PIi (RZ.pi_zipA hg hm h hs hpl) fun σ H R ⟨E, L, γ, Qp, hK, Rl, hp, k⟩ => by
    refine ⟨E, L, γ, _, hK, Rl, hp, fun xs vs H1 q1 x1 r1 l1 => ?_⟩
    match xs, r1, l1, q1 with
    | [_, _], .cons r1 (.cons r2 .nil), l0, q1 =>
      cases r1 <;> cases r2 <;> first | exact q1.elim | skip
      · rename_i b vs xs n h1 r c ws ys m h2 t
        refine ⟨b, c, vs, ws, rfl, .inl ⟨.inl (.inl h1), .inl (.inl h2), k _ _ H1 q1 x1 ⟨fun L H => LstP E a b xs vs L H ∧ LstP E a c ys ws L H, ⟨⟨h1, (nav n).1, (nav n).2, r⟩, h2, (nav m).1, (nav m).2, t⟩, fun _ _ _ _ h f => ⟨h.1.fw f, h.2.fw f⟩, fun i L H h hi => ?_, fun i L H h hi => ?_⟩⟩⟩
        · rw [zipL_len] at hi
          have i1 : i < xs.length := by omega
          have i2 : i < ys.length := by omega
          obtain ⟨u, hu, ru⟩ := h.1.2.2.2.get (List.getElem?_eq_getElem i1)
          obtain ⟨u2, hu2, ru2⟩ := h.2.2.2.2.get (List.getElem?_eq_getElem i2)
          refine ⟨⟨vs, ws, u, u2, .inl (.inl h.1.1), .inl (.inl h.2.1), hu, hu2⟩, fun v H' ⟨T, y, z, e1, nT, e2, e3, e4⟩ => ?_⟩
          subst e1; subst e2
          have := e3 vs (.inl (.inl h.1.1))
          rw [hu] at this; cases this
          have := e4 ws (.inl (.inl h.2.1))
          rw [hu2] at this; cases this
          exact ⟨.new nT, _, zipL_at xs ys i (List.getElem?_eq_getElem i1) (List.getElem?_eq_getElem i2), Rp.newT (.cons ru (.cons ru2 .nil)) av_q nT⟩
        · rw [zipL_len] at hi
          exact ⟨vs, ws, .inl (.inl h.1.1), .inl (.inl h.2.1), by rw [← h.1.2.2.2.length, ← h.2.2.2.2.length]; omega⟩
      · rename_i b vs xs h1 r c ws ys h2 t
        refine ⟨b, c, vs, ws, rfl, .inr ⟨hK ▸ h1.sq, hK ▸ h2.sq, k _ _ H1 q1 x1 ⟨fun L H => TupP E a b xs vs L H ∧ TupP E a c ys ws L H, ⟨⟨h1, r⟩, h2, t⟩, fun _ _ _ _ h f => ⟨h.1.fw f, h.2.fw f⟩, fun i L H h hi => ?_, fun i L H h hi => ?_⟩⟩⟩
        · rw [zipL_len] at hi
          have i1 : i < xs.length := by omega
          have i2 : i < ys.length := by omega
          obtain ⟨u, hu, ru⟩ := h.1.2.get (List.getElem?_eq_getElem i1)
          obtain ⟨u2, hu2, ru2⟩ := h.2.2.get (List.getElem?_eq_getElem i2)
          refine ⟨⟨vs, ws, u, u2, hK ▸ h.1.1.sq, hK ▸ h.2.1.sq, hu, hu2⟩, fun v H' ⟨T, y, z, e1, nT, e2, e3, e4⟩ => ?_⟩
          subst e1; subst e2
          have := e3 vs (hK ▸ h.1.1.sq)
          rw [hu] at this; cases this
          have := e4 ws (hK ▸ h.2.1.sq)
          rw [hu2] at this; cases this
          exact ⟨.new nT, _, zipL_at xs ys i (List.getElem?_eq_getElem i1) (List.getElem?_eq_getElem i2), Rp.newT (.cons ru (.cons ru2 .nil)) av_q nT⟩
        · rw [zipL_len] at hi
          exact ⟨vs, ws, hK ▸ h.1.1.sq, hK ▸ h.2.1.sq, by rw [← h.1.2.length, ← h.2.2.length]; omega⟩
    | [], _, l, _ => simp at l
    | [_], _, l, _ => simp at l
    | _ :: _ :: _ :: _, _, l, _ => simp at l
end
end Vl
namespace Vl
open PySem PySem.Spec L2 Lb
/-! ### methods of texts -/
abbrev PSm := Str → List PV → (PV → Prop) → Prop
def pSM (o : PSm) (p : GE) (t : GA) : GE := fun γ Q => p γ fun x => match x with | .str z => t γ fun xs => o z xs Q | _ => False
def SmS (r : V → List V → Hp → VK → Prop) (o : PSm) : Prop := ∀ (B : Bg) (H : Hp) (z : Str) (xs : List PV) (vs : List V) (Q : VK) (Qp : PV → Prop), RpL B (fun b => b = B.q) H xs vs → o z xs Qp →
  (∀ z t H', Qp z → Ex B H H' → (∀ A, A B.q → (∀ b, A b → H b ≠ none) → Rp B A H' z t) → Q t H') → r (.str z) vs H Q
section
variable {X : Cx} {ks : List Kd} {a s a1 s1 a2 s2 : Bool} {e e1 e2 : Expr} {es : List Expr} {p p1 p2 : GE} {pa : GA} {pos apos : Pos} {name : Str} {id : String} {r : V → List V → Hp → VK → Prop} {o : PSm}
theorem qe_sm (slot : Slot "str" name id) (hty : typeOf (.builtin id) = pure (.type "method_descriptor")) (hm : MtR X id r) (ho : SmS r o) (h : QE X ks a1 s1 e1 p1) (ha : QA X ks a2 s2 (e :: es) pa)
    (hbase : attributeBase e1 name X.env (eval e1 X.env) = eval e1 X.env := by rfl)
    (hfew : ((backTo pos (starEach (e :: es) X.env)).all (fun x => !x.1) && (backToKw pos (keywordEach [] X.env)).all (fun x => x.1.isSome)
      && decide ((e :: es).length + ([] : List Keyword).length + (if ([] : List Keyword).isEmpty then 0 else 1) < 30)) = true := by rfl)
    (hline : (apos.endLine == pos.line) = true := by rfl) (hs : starEach (e :: es) X.env = (false, eval e X.env) :: starEach es X.env := by rfl) (hplain : (backTo pos (starEach es X.env)).any (·.1) = false := by rfl) :
    QE X ks true true (.Call (.Attribute e1 name apos) (e :: es) [] pos) (pSM o p1 pa) :=
  PEi (pe_bm PySem.F.plainAttrs_str slot hty hm h ha hbase hfew hline hs hplain) fun σ H Q ⟨E, L, γ, Qp, hK, R, hp, k⟩ => by
    refine ⟨E, L, γ, _, hK, R, hp, fun x v H1 q1 x1 r1 => ?_⟩
    cases r1 <;> first | exact q1.elim | skip
    refine ⟨rfl, E, L, γ, _, hK, R.ex x1, q1, fun xs vs H2 q2 x2 r2 l2 => ?_⟩
    exact ho E.B H2 _ xs vs Q Qp r2.q q2 fun z t H' qz x3 rz => k z t H' qz (x1.trans (x2.trans x3)) (rz _ av_q fun b z => av_nn ((R.ex x1).ex x2) z)
end
def s_count : PSm
  | a, [.str b], Q => Q (.int (Txt.count a b))
  | _, _, _ => False
theorem countV_ok : SmS (fun x xs H Q => ∃ a b, x = .str a ∧ xs = [.str b] ∧ Q (.int (Txt.count a b)) H) s_count := by
  intro B H z xs vs Q Qp r h k
  match xs, r, h with
  | [_], .cons r .nil, h =>
    cases r <;> first | exact (h : False).elim | skip
    exact ⟨_, _, rfl, rfl, k _ _ H h (.refl _ _) fun A _ _ => .int _⟩
  | [], _, h => exact (h : False).elim
  | _ :: _ :: _, .cons r _, h => cases r <;> exact (h : False).elim
theorem mt_countV {X : Cx} : MtR X "str.count" (fun x xs H Q => ∃ a b, x = .str a ∧ xs = [.str b] ∧ Q (.int (Txt.count a b)) H) := mt_count
def s_index : PSm
  | a, [.str b], Q => (match Builtin.Str.occurrences a b 0 a.length 1 with | i :: _ => Q (.int (i : Nat)) | [] => False)
  | _, _, _ => False
theorem indexV_ok : SmS (fun x xs H Q => ∃ a b i rest, x = .str a ∧ xs = [.str b] ∧ Builtin.Str.occurrences a b 0 a.length 1 = i :: rest ∧ Q (.int (i : Nat)) H) s_index := by
  intro B H z xs vs Q Qp r h k
  match xs, r, h with
  | [_], .cons r .nil, h =>
    cases r <;> first | exact (h : False).elim | skip
    rename_i b
    have h' : (match Builtin.Str.occurrences z b 0 z.length 1 with | i :: _ => Qp (.int (i : Nat)) | [] => False) := h
    cases e : Builtin.Str.occurrences z b 0 z.length 1 with
    | nil => rw [e] at h'; exact h'.elim
    | cons i rest => rw [e] at h'; exact ⟨_, _, i, rest, rfl, rfl, e, k _ _ H h' (.refl _ _) fun A _ _ => .int _⟩
  | [], _, h => exact (h : False).elim
  | _ :: _ :: _, .cons r _, h => cases r <;> exact (h : False).elim
theorem mt_indexV {X : Cx} : MtR X "str.index" (fun x xs H Q => ∃ a b i rest, x = .str a ∧ xs = [.str b] ∧ Builtin.Str.occurrences a b 0 a.length 1 = i :: rest ∧ Q (.int (i : Nat)) H) := mt_sindex
/-! ### xs[::-1] of lists -/
def pRevL (p : GE) : GE := fun γ Q => p γ fun x => match x with | .lst xs => Q (.lst xs.reverse) | _ => False
section
variable {X : Cx} {ks ks' kl : List Kd} {a s : Bool} {e : Expr} {p : GE} {kk i : Nat} {p1 p2 p3 pos : Pos} {sts : List Stmt} {q : GS}
theorem qe_revL (h : QE X ks a s e p) : QE X ks a s (.Subscript e (.Slice none none (some (.UnaryOp .USub (.Constant (.int 1) kk p1) p2)) p3) pos) (pRevL p) :=
  PEi (pe_revL h) fun σ H Q ⟨E, L, γ, Qp, hK, R, hp, k⟩ => by
    refine ⟨E, L, γ, _, hK, R, hp, fun x v H1 q1 x1 r1 => ?_⟩
    cases r1 <;> first | exact q1.elim | skip
    rename_i b vs xs n h1 r
    exact ⟨b, vs, rfl, .inl (.inl h1), fun c nc => k _ _ _ q1 (x1.trans (.new nc)) (Rp.new r.reverse av_q nc fun d z => av_nn (R.ex x1) z)⟩
/-! ### a list of own lists is shared from here on -/
theorem Rel.freeze2 {E : Ac} {L : List Addr} {γ : G} {σ : St} {H : Hp} {i : Nat} (R : Rel E L ks γ σ H) (hk : ks[i]? = some .own2) : ∃ L', Fw E.B L H L' H ∧ Rel E L' (ks.set i .sh) γ σ H := by
  obtain ⟨O, h1, h2, h3, h4⟩ := R.sl
  refine ⟨L.filter (fun c => !decide (c ∈ O i)), ⟨fun c u e n m => e, fun _ _ h => h, fun _ h => h, fun c m => .inl (List.mem_filter.mp m).1⟩, ⟨R.old, R.onn, R.bag, R.a0, R.aq, R.ar, fun c m => R.lf c (List.mem_filter.mp m).1, R.len, ?_⟩⟩
  refine ⟨fun j => if j = i then [] else O j, fun j y hy => ?_, fun j c m => ?_, fun j j' c m m' => ?_, fun j => ?_⟩
  · obtain ⟨v, hv, k⟩ := h1 j y hy
    refine ⟨v, hv, ?_⟩
    have g : ∀ {bb : Bool} c, av E (L.filter (fun c => !decide (c ∈ O i))) bb true c → H c ≠ none → av E L bb true c := fun c z _ => by
      rcases z with z | z | ⟨_, z⟩
      · exact .inl z
      · exact .inr (.inl z)
      · exact .inr (.inr ⟨rfl, (List.mem_filter.mp z).1⟩)
    by_cases hj : j = i
    · subst hj
      show Kr E _ H _ _ _ (if j = j then [] else O j)
      rw [if_pos rfl]
      have e1 : kd (ks.set j .sh) j = .sh := by unfold kd; simp [List.getD, (List.getElem?_eq_some_iff.mp hk).1]
      rw [e1]
      rw [getElem?_kd hk] at k
      obtain ⟨b, xs, as, rfl, ho, rfl, hb, ob⟩ := k
      refine ⟨rfl, ?_⟩
      have n : ∀ c ∈ b :: as, ¬ av E (L.filter (fun c => !decide (c ∈ O j))) true true c := fun c hc => by
        rintro (z | ⟨_, z⟩ | ⟨_, z⟩)
        · exact R.lq (h2 j c (by rw [ho]; exact hc)) z
        · exact R.a0 c z (R.lf c (h2 j c (by rw [ho]; exact hc))).1
        · have := (List.mem_filter.mp z).2
          rw [ho] at this
          simp at this
          simp at hc
          exact hc.elim this.1 this.2
      refine .lst (n b (by simp)) hb ?_
      have go : ∀ {xs : List PV} {as : List Addr}, (∀ c ∈ as, ¬ av E (L.filter (fun c => !decide (c ∈ O j))) true true c) → Obs E.B (av E L true true) H xs as → RpL E.B (av E (L.filter (fun c => !decide (c ∈ O j))) true true) H xs (as.map V.ref) := by
        intro xs as hn ob
        induction ob with
        | nil => exact .nil
        | cons h t ih =>
          rename_i x xs c as
          refine .cons ?_ (ih fun d m => hn d (by simp [m]))
          have n := hn c (by simp)
          cases x with
          | lst xs => obtain ⟨vs, g1, g2⟩ := h; exact .lst n g1 (g2.mv (fun _ _ h _ => h) (fun _ _ h => h) g)
          | dT kvs => obtain ⟨ws, g1, g2, g3⟩ := h; exact .dT n g1 g2 rfl rfl rfl (g3.mv (fun _ _ h _ => h) (fun _ _ h => h) g)
          | dK kvs => obtain ⟨ws, g1, g2, g3⟩ := h; exact .dK n g1 g2 rfl rfl rfl (g3.mv (fun _ _ h _ => h) (fun _ _ h => h) g)
          | ins c fs => obtain ⟨dx, ws, g1, g2, g3⟩ := h; exact .ins n g1 g2 rfl (g3.mv (fun _ _ h _ => h) (fun _ _ h => h) g)
          | _ => exact h.elim
      exact go (fun c m => n c (by simp [m])) ob
    · show Kr E _ H _ _ _ (if j = i then [] else O j)
      rw [if_neg hj]
      have e1 : kd (ks.set i .sh) j = kd ks j := by unfold kd; simp [List.getD, List.getElem?_set_ne (fun z => hj z.symm)]
      rw [e1]
      exact k.mv (fun _ _ h _ _ => h) (fun _ _ h => h) (fun c m => .inl (List.mem_filter.mp m).1) fun _ _ _ h => h
  · by_cases hj : j = i
    · simp [hj] at m
    · simp only [if_neg hj] at m
      exact List.mem_filter.mpr ⟨h2 j c m, by simp; intro z; exact hj (h3 j i c m z)⟩
  · by_cases hj : j = i <;> by_cases hj' : j' = i
    · rw [hj, hj']
    · simp [hj] at m
    · simp [hj'] at m'
    · simp only [if_neg hj, if_neg hj'] at m m'; exact h3 j j' c m m'
  · by_cases hj : j = i
    · simp [hj]
    · simp only [if_neg hj]; exact h4 j
theorem qb_frz2 (i : Nat) (h : QB X (ks.set i .sh) ks' kl sts q) (hk : ks[i]? = some .own2 := by rfl) : QB X ks ks' kl sts q :=
  PSsi h fun D σ H ⟨E, L, γ, Dp, hK, R, hp, nx, rt, bk, ct⟩ => by
    obtain ⟨L1, f1, R1⟩ := R.freeze2 hk
    exact ⟨E, L1, γ, Dp, hK, R1, hp, fun L2 γ2 σ2 H2 f2 R2 q2 => nx L2 γ2 σ2 H2 (f1.trans f2) R2 q2, rt, fun L2 γ2 σ2 H2 f2 R2 q2 => bk L2 γ2 σ2 H2 (f1.trans f2) R2 q2, fun L2 γ2 σ2 H2 f2 R2 q2 => ct L2 γ2 σ2 H2 (f1.trans f2) R2 q2⟩
end
end Vl
namespace Vl
open PySem PySem.Spec L2 Lb
/-! ### == of texts -/
def oEqS : PO2
  | .str a, .str b, Q => Q (.bl (decide (a = b)))
  | _, _, _ => False
def oNeS : PO2
  | .str a, .str b, Q => Q (.bl (!decide (a = b)))
  | _, _, _ => False
theorem dec_strV (a b : Str) : decide (V.str a = V.str b) = decide (a = b) := by
  by_cases h : a = b
  · simp [h]
  · rw [decide_eq_false h, decide_eq_false (fun z => h (V.str.inj z))]
theorem eqS_ok {K : Fg} : OpS K (rEqA K) oEqS := by
  intro B H x y v u Q Qp hK rx ry h k
  cases rx <;> cases ry <;> first | exact (h : False).elim | skip
  refine .inl ⟨rfl, ?_⟩
  rw [dec_strV]; exact k _ _ H h (.refl _ _) fun A => .bl _
theorem neS_ok {K : Fg} : OpS K (rNeA K) oNeS := by
  intro B H x y v u Q Qp hK rx ry h k
  cases rx <;> cases ry <;> first | exact (h : False).elim | skip
  refine .inl ⟨rfl, ?_⟩
  rw [dec_strV]; exact k _ _ H h (.refl _ _) fun A => .bl _
section
variable {X : Cx} {ks : List Kd} {a s a1 s1 a2 s2 : Bool} {e e1 e2 : Expr} {p p1 p2 : GE} {pos : Pos}
theorem qe_eqS (hu : X.A.units + 64 < cLine) (h1 : QE X ks a1 s1 e1 p1) (h2 : QE X ks a2 s2 e2 p2) : QE X ks true true (.Compare e1 [.Eq] [e2] pos) (pOp oEqS p1 p2) := qe_opS eqS_ok (fun x y => pe_cmpR (op_eqA hu) x y (nomark _)) h1 h2
theorem qt_eqS (hu : X.A.units + 64 < cLine) (h1 : QE X ks a1 s1 e1 p1) (h2 : QE X ks a2 s2 e2 p2) : QT X ks (.Compare e1 [.Eq] [e2] pos) (pTest (pOp oEqS p1 p2)) := qt_opS eqS_ok (fun x y => pt_cmpR (op_eqA hu) x y (nomark _)) h1 h2
theorem qe_neS (hu : X.A.units + 64 < cLine) (h1 : QE X ks a1 s1 e1 p1) (h2 : QE X ks a2 s2 e2 p2) : QE X ks true true (.Compare e1 [.NotEq] [e2] pos) (pOp oNeS p1 p2) := qe_opS neS_ok (fun x y => pe_cmpR (op_neA hu) x y (nomark _)) h1 h2
theorem qt_neS (hu : X.A.units + 64 < cLine) (h1 : QE X ks a1 s1 e1 p1) (h2 : QE X ks a2 s2 e2 p2) : QT X ks (.Compare e1 [.NotEq] [e2] pos) (pTest (pOp oNeS p1 p2)) := qt_opS neS_ok (fun x y => pt_cmpR (op_neA hu) x y (nomark _)) h1 h2
end
/-! ### data that can be shown -/
mutual
/-- small: ints below 10 ^ 18, texts of small signs, no dicts; w: how heavy -/
def smp : PV → Bool
  | .non => true
  | .bl _ => true
  | .int i => decide (i.natAbs < 10 ^ 18)
  | .str x => x.cps.all (· < 0x110000)
  | .lst xs => smps xs
  | .tup xs => smps xs
  | _ => false
def smps : List PV → Bool
  | [] => true
  | x :: xs => smp x && smps xs
def wgt : PV → Nat
  | .str x => x.cps.size
  | .lst xs => wgts xs
  | .tup xs => wgts xs
  | _ => 0
def wgts : List PV → Nat
  | [] => 0
  | x :: xs => wgt x + 61 + wgts xs
end
theorem int_shown {i : Int} (h : i.natAbs < 10 ^ 18) : (PyData.shown (.int i)).length ≤ 19 := by
  have e := int_text_length_le10 (k := 18) (by decide) h
  show (Str.ofString (toString i)).length ≤ 19
  rw [ofString_length]; exact e
theorem log_lt {n k : Nat} (h : n < 2 ^ k) (hk : 0 < k) : n.log2 < k := by
  by_cases z : n = 0
  · subst z; simpa using hk
  · exact (Nat.log2_lt z).mpr h
mutual
theorem smp_short : ∀ x : PV, smp x = true → PyData.leavesShort 19 (toD x) = true ∧ PyData.showable (toD x) = true ∧ PyData.weight (toD x) ≤ wgt x + 60 ∧ PyData.hasDict (toD x) = false
  | .non, _ => by simp [toD, PyData.leavesShort, PyData.showable, PyData.weight, PyData.hasDict]
  | .bl b, _ => by simp [toD, PyData.leavesShort, PyData.showable, PyData.weight, PyData.hasDict]
  | .int i, h => by
    have h : i.natAbs < 10 ^ 18 := by simpa [smp] using h
    have h2 : i.natAbs.log2 < 60 := log_lt (Nat.lt_of_lt_of_le h (by decide)) (by decide)
    refine ⟨by simp only [toD, PyData.leavesShort, decide_eq_true_eq]; exact int_shown h, by simp only [toD, PyData.showable, decide_eq_true_eq]; omega, ?_, by simp [toD, PyData.hasDict]⟩
    simp only [toD, PyData.weight]
    split <;> omega
  | .str x, h => by
    have h : x.cps.all (· < 0x110000) = true := by simpa only [smp] using h
    refine ⟨?_, by simp [toD, PyData.showable], by simp [toD, PyData.weight, wgt], by simp [toD, PyData.hasDict]⟩
    simp only [toD, PyData.leavesShort, List.all_eq_true, decide_eq_true_eq]
    intro c hc
    have h0 : x.cps.toList.all (· < 0x110000) = true := by rw [Array.all_toList]; exact h
    have := List.all_eq_true.mp h0 c hc
    simp at this
    omega
  | .lst xs, h => by
    have := smps_short xs (by simpa only [smp] using h)
    simp only [toD, PyData.leavesShort, PyData.showable, PyData.weight, PyData.hasDict, wgt]
    exact ⟨this.1, this.2.1, by omega, this.2.2.2⟩
  | .tup xs, h => by
    have := smps_short xs (by simpa only [smp] using h)
    simp only [toD, PyData.leavesShort, PyData.showable, PyData.weight, PyData.hasDict, wgt]
    exact ⟨this.1, this.2.1, by omega, this.2.2.2⟩
  | .ty _, h => by simp [smp] at h
  | .dK _, h => by simp [smp] at h
  | .dT _, h => by simp [smp] at h
  | .ins _ _, h => by simp [smp] at h
  | .cls _, h => by simp [smp] at h
  | .bag, h => by simp [smp] at h
theorem smps_short : ∀ xs : List PV, smps xs = true → PyData.leavesShortAll 19 (toDs xs) = true ∧ PyData.showableAll (toDs xs) = true ∧ PyData.weightAll (toDs xs) ≤ wgts xs ∧ PyData.hasDictAll (toDs xs) = false
  | [], _ => by simp [toDs, PyData.leavesShortAll, PyData.showableAll, PyData.weightAll, PyData.hasDictAll]
  | x :: xs, h => by
    rw [smps, Bool.and_eq_true] at h
    have h1 := smp_short x h.1
    have h2 := smps_short xs h.2
    simp only [toDs, PyData.leavesShortAll, PyData.showableAll, PyData.weightAll, PyData.hasDictAll, wgts, h1.1, h2.1, h1.2.1, h2.2.1, h1.2.2.2, h2.2.2.2, Bool.and_self, Bool.or_self]
    exact ⟨trivial, trivial, by omega, trivial⟩
end
theorem shw_of {x : PV} (hd : dat 8 x = true) (hs : smp x = true) (hw : wgt x ≤ 700000) : shw x := by
  obtain ⟨h1, h2, h3, h4⟩ := smp_short x hs
  have h5 := (dat_lay 8 x hd).2
  refine ⟨hd, h2, h4, by omega, ?_, fun i e => ?_⟩
  · have := PyData.shown_le 19 (by decide) _ h1
    rw [sizeLine_eq]; omega
  · rw [e] at h2
    simpa [PyData.showable] using h2
mutual
theorem eqv_refl : ∀ (n : Nat) (x : PV), dat n x = true → PyData.eqv (toD x) (toD x) = true
  | _, .non, _ => by simp [toD, PyData.eqv]
  | _, .bl b, _ => by simp [toD, PyData.eqv]
  | _, .int i, _ => by simp [toD, PyData.eqv]
  | _, .str x, _ => by simp [toD, PyData.eqv]
  | n + 1, .lst xs, h => by simp only [toD, PyData.eqv]; exact eqvs_refl n xs (by simpa only [dat] using h)
  | n + 1, .tup xs, h => by simp only [toD, PyData.eqv]; exact eqvs_refl n xs (by simpa only [dat] using h)
  | 0, .lst _, h => by simp [dat] at h
  | 0, .tup _, h => by simp [dat] at h
  | n, .ty _, e => by cases n <;> simp [dat] at e
  | n, .dK _, e => by cases n <;> simp [dat] at e
  | n, .dT _, e => by cases n <;> simp [dat] at e
  | n, .ins _ _, e => by cases n <;> simp [dat] at e
  | n, .cls _, e => by cases n <;> simp [dat] at e
  | n, .bag, e => by cases n <;> simp [dat] at e
theorem eqvs_refl : ∀ (n : Nat) (xs : List PV), dats n xs = true → PyData.eqvAll (toDs xs) (toDs xs) = true
  | _, [], _ => by simp [toDs, PyData.eqvAll]
  | n, x :: xs, h => by
    rw [dats, Bool.and_eq_true] at h
    simp only [toDs, PyData.eqvAll, eqv_refl n x h.1, eqvs_refl n xs h.2, Bool.and_self]
end
theorem peq_refl {x : PV} (h : dat 8 x = true) : peq x x = true := eqv_refl 8 x h
end Vl
namespace Vl
open PySem PySem.Spec L2 Lb
/-! ### min of a tuple of whole numbers -/
def minT : List Int → Int
  | [] => 0
  | x :: xs => PySem.W.minOf x xs
def rMinT (K : Fg) : List V → Hp → VK → Prop := fun vs H Q => ∃ (a : Addr) (ns : List Int), vs = [V.ref a] ∧ SqT K H a (ns.map V.int) ∧ ns ≠ [] ∧ Q (.int (minT ns)) H
theorem reads_int {h : Heap} {v : Value} {n : Int} {as : List Addr} (r : Reads h v (.int n) as) : ∃ t, v = .int n t := by
  cases r with
  | int i t => exact ⟨t, rfl⟩
theorem min_goes {prog : Program} {w : World} {A : Around} {E : Value → Shared → Prop} {s : Shared} {a : Addr} {its : List Value} {Q : Value → Shared → Prop} {x : Int} {xs : List Int} (hh : A.handled = none) (hl : s.heap.IsTuple a its.toArray) (ia : PyProof.Rows.IntsAre its (x :: xs)) (hu : A.units + 64 < cLine)
    (h : ∀ (t : Tok) h' tk, (∀ b o, s.heap.get? b = some o → h'.get? b = some o) → Q (.int (PySem.W.minOf x xs) t) { s with heap := h', toks := tk }) : wpAny (model prog w) A (call (.builtin "min") [.ref a]) Q E s := by
  have hd : PySem.W.Datum.depth Int = 0 := rfl
  have hA : PySem.W.HoldAll (α := Int) s.heap its.toArray.toList (x :: xs) := ⟨[], ia.reads s.heap⟩
  refine PySem.W.min_tuple_datum (α := Int) (x := x) (xs := xs) hh hl hA (by rw [hd]; omega) fun i v h' tk hi hv hk => ?_
  obtain ⟨as, hv⟩ := hv
  obtain ⟨t, rfl⟩ := reads_int hv
  exact h t h' tk hk
theorem cr_minT {X : Cx} (hc : X.calm = true) (hu : X.A.units + 64 < cLine) : CallR X (.builtin "min") (rMinT X.K) := by
  intro pins s σ H vs us Q I r h
  obtain ⟨a, ns, rfl, hs, hne, q⟩ := h
  obtain ⟨its, rv, hl, _⟩ := I.tuple hs
  rw [Vals.ref1 r]
  cases ns with
  | nil => exact absurd rfl hne
  | cons x xs => exact min_goes (I.ok.hd hc) hl rv.ints hu fun t h' tk hk => ⟨.int _, H, I.kept hk, ⟨_, rfl⟩, q⟩
def bMinT : PCl
  | [.tup xs], Q => match pInts xs with | some bs => bs ≠ [] ∧ Q (.int (minT bs)) | none => False
  | _, _ => False
theorem ints_ok' {B : Bg} {A : Addr → Prop} {H : Hp} : ∀ {xs : List PV} {vs : List V} {ns : List Int}, RpL B A H xs vs → pInts xs = some ns → vs = ns.map V.int := by
  intro xs vs ns r e
  exact ints_ok r e
theorem minT_ok {K : Fg} : CallS K (rMinT K) bMinT := by
  intro B H xs vs Q Qp hK r h k
  subst hK
  match xs, r, h with
  | [_], .cons r .nil, h =>
    cases r <;> first | exact (h : False).elim | skip
    rename_i b vs xs h1 r
    have h' : (match pInts xs with | some bs => bs ≠ [] ∧ Qp (.int (minT bs)) | none => False) := h
    cases e : pInts xs with
    | none => rw [e] at h'; exact h'.elim
    | some ns =>
      rw [e] at h'
      exact ⟨b, ns, rfl, by rw [← ints_ok r e]; exact h1.sq, h'.1, k _ _ H h'.2 (.refl _ _) fun A _ _ => .int _⟩
  | [], _, h => exact (h : False).elim
  | _ :: _ :: _, .cons r _, h => cases r <;> exact (h : False).elim
end Vl
namespace Vl
open PySem PySem.Spec L2 Lb PyProof.Rows
/-! ### zip of a list and a text -/
def ItLS (K : Fg) (a : Addr) (x : Str) : It :=
  ⟨fun i H => ∃ (xs : List V) (v : V) (c : Nat), SqL K H a xs ∧ xs[i]? = some v ∧ x.cps[i]? = some c,
    fun i H v H' => ∃ T u c, v = .ref T ∧ H T = none ∧ H' = upd H T (.tup [u, .str ⟨#[c]⟩]) ∧ (∀ xs, SqL K H a xs → xs[i]? = some u) ∧ x.cps[i]? = some c,
    fun i H => ∃ xs : List V, SqL K H a xs ∧ (xs.length ≤ i ∨ x.cps.size ≤ i)⟩
theorem drawsEndL {prog : Program} {w : World} {A : Around} (hh : A.handled = none) (it l : Addr) (items : Array Value) (i : Nat) (hi : items.size ≤ i) :
    Draws prog w A it [it, l] i (fun _ _ => False) (fun j h => (h.IsListIter it l j ∧ h.IsList l items) ∧ j = i) where
  live := fun _ _ st => let ⟨o, ho, _⟩ := st.1.1; ⟨o, ho⟩
  frame := fun _ _ _ st hk => ⟨⟨st.1.1.at fun o e => hk it (by simp) o e, st.1.2.at fun o e => hk l (by simp) o e⟩, st.2⟩
  item := fun j s Q E hj st hQ => absurd st.2 (Nat.ne_of_lt hj)
  done := fun s Q E st hE => wpAny_nextOf_list_end hh st.1.1 st.1.2 (Array.getElem?_eq_none hi) hE
theorem drawsEndS {prog : Program} {w : World} {A : Around} (hh : A.handled = none) (it : Addr) (x : Str) (t : Tok) (i : Nat) (hi : x.cps.size ≤ i) :
    Draws prog w A it [it] i (fun _ _ => False) (fun j h => h.IsStrIter it (strIterType x) x t j ∧ j = i) where
  live := fun _ _ st => let ⟨o, ho, _⟩ := st.1; ⟨o, ho⟩
  frame := fun _ _ _ st hk => ⟨let ⟨o, ho, r⟩ := st.1; ⟨o, hk it (by simp) o ho, r⟩, st.2⟩
  item := fun j s Q E hj st hQ => absurd st.2 (Nat.ne_of_lt hj)
  done := fun s Q E st hE => by
    have st1 := st.1
    cases ha : x.cps.all (· < 128)
    · simp only [strIterType, ha, Bool.false_eq_true, if_false] at st1
      exact wpAny_nextOf_wide_end hh st1 (Array.getElem?_eq_none hi) hE
    · simp only [strIterType, ha, if_true] at st1
      exact wpAny_nextOf_ascii_end hh st1 (Array.getElem?_eq_none hi) hE
theorem zsep (n a : Nat) (h : a < n) : ZipSep2 (n + 4) (n + 2) (n + 3) n (n + 1) [n, a] [n + 1] := by
  exact ⟨(fun z => by have z : (n + 2 : Nat) = n + 4 := z; omega), (fun z => by have z : (n + 3 : Nat) = n + 4 := z; omega), (fun z => by have z : (n + 2 : Nat) = n + 3 := z; omega), (fun z => by have z : (n + 2 : Nat) = n := z; omega), (List.mem_cons_self ..), (fun m => by have m : (n + 4 : Nat) ∈ ([n, a] : List Nat) := m; simp at m <;> omega), (fun m => by have m : (n + 3 : Nat) ∈ ([n, a] : List Nat) := m; simp at m <;> omega), (fun z => by have z : (n + 2 : Nat) = n + 1 := z; omega), (List.mem_cons_self ..), (fun m => by have m : (n + 4 : Nat) ∈ ([n + 1] : List Nat) := m; simp at m <;> omega), (fun m => by have m : (n + 3 : Nat) ∈ ([n + 1] : List Nat) := m; simp at m <;> omega), (fun m => by have m : (n : Nat) ∈ ([n + 1] : List Nat) := m; simp at m <;> omega), (fun m => by have m : (n + 1 : Nat) ∈ ([n, a] : List Nat) := m; simp at m <;> omega)⟩
theorem turn_zipLS {P : Program} {w : World} {K : Fg} {elts : List Expr} {kk : Nat} {tpos : Pos} {a z TI TO i1 i2 : Addr} {x : Str} {t : Tok} (S : ZipSep2 z TI TO i1 i2 [i1, a] [i2]) (hne : a ≠ i1) :
    Turn P w K (.Tuple elts kk tpos) (ItLS K a x) [z, TI, TO, i1, i2] z (fun i h => IsZip h z TI TO .none ∧ IsTupOf2 h TI (.ref i1) (.ref i2) ∧ (∃ u v, IsTupOf2 h TO u v) ∧ h.IsListIter i1 a i ∧ h.IsStrIter i2 (strIterType x) x t i) where
  mem := by simp
  obj := fun i h st c hc => by
    obtain ⟨hz, hTI, ⟨u, v, hTO⟩, ⟨o1, e1, _, d1⟩, ⟨o2, e2, _, d2⟩⟩ := st
    have e' : c = z ∨ c = TI ∨ c = TO ∨ c = i1 ∨ c = i2 := by simpa using hc
    rcases e' with q | q | q | q | q
    · rw [q]; exact ⟨_, hz, fun v q => nomatch q⟩
    · rw [q]; exact ⟨_, hTI, fun v q => nomatch q⟩
    · rw [q]; exact ⟨_, hTO, fun v q => nomatch q⟩
    · rw [q]; exact ⟨o1, e1, fun v q => by rw [d1] at q; cases q⟩
    · rw [q]; exact ⟨o2, e2, fun v q => by rw [d2] at q; cases q⟩
  keep := fun i h h' st k => by
    obtain ⟨hz, hTI, ⟨u, v, hTO⟩, h1, h2⟩ := st
    refine ⟨k z (by simp) _ hz, k TI (by simp) _ hTI, ⟨u, v, k TO (by simp) _ hTO⟩, h1.at fun o q => k i1 (by simp) o q, ?_⟩
    obtain ⟨o2, e2, r2⟩ := h2
    exact ⟨o2, k i2 (by simp) _ e2, r2⟩
  item := by
    intro X hP hw hK hc i pins s σ H E I hf st hg
    subst hP hw hK
    obtain ⟨hz, hTI, ⟨x0, y0, hTO⟩, h1, h2⟩ := st
    obtain ⟨xs, v, c, hq, hv, hcx⟩ := hg
    obtain ⟨its, rv, p, _⟩ := I.list hq
    obtain ⟨u, hu, ru⟩ := rv.get hv
    have hzl : z < s.heap.objs.size := Heap.lt_size hz
    have hd : X.A.in1.handled = none := I.ok.hd hc
    have l1 : i < its.toArray.size := by
      have := (List.getElem?_eq_some_iff.mp hu).1; simpa using this
    have l2 : i < x.cps.size := (Array.getElem?_eq_some_iff.mp hcx).1
    refine wpAny_pyNext_zipD2_item S (Draws.list hd i1 a hne its.toArray) (Draws.text hd i2 x t) hz hTI hTO ⟨h1, p.isList⟩ h2 l1 l2 fun x1 x2 h' tk y1 y2 b1 b2 d1 d2 b5 b6 hk => ?_
    refine ⟨_, rfl, wpAny_letOwnedTupleGo_zip (s := { s with heap := h', toks := tk }) b1 fun h'' z'' sb => ?_⟩
    obtain ⟨c', u2, hc', rfl⟩ := y2
    rw [hcx] at hc'; cases hc'
    have e1 : x1 = u := by
      have y1 : its.toArray[i]? = some x1 := y1
      have : its.toArray[i]? = some u := by simpa using hu
      rw [y1] at this; exact Option.some.inj this
    subst e1
    have hT2 : h''.get? s.heap.objs.size = some { cls := .type "tuple", data := .seq #[x1, .str ⟨#[c]⟩ u2] } := (sb.2 _ (Nat.ne_of_gt hzl)).trans b5
    have new : ObjOk X.prog X.w (upd H s.heap.objs.size (.tup [v, .str ⟨#[c]⟩])) h'' s.heap.objs.size (.tup [v, .str ⟨#[c]⟩]) :=
      ⟨by show 2 ≤ sizeLine; decide, [x1, .str ⟨#[c]⟩ u2], .cons ru (.cons ⟨_, rfl⟩ .nil), ⟨_, hT2, rfl, _, rfl⟩⟩
    have I1 : Inv X pins σ (upd H s.heap.objs.size (.tup [v, .str ⟨#[c]⟩])) { s with heap := h'', toks := tk } :=
      I.turnedNew (t' := tk) (ch := [z, TI, TO, i1, i2]) (fun c o hb q => (sb.2 c (fun q' => hb (by simp [q']))).trans (hk c o (fun q' => hb (by simp [q'])) (fun q' => hb (by simp [q'])) (fun q' => hb (by simp [q'])) (fun q' => hb (by simp [q'])) q)) hf (Nat.le_refl _) new
    refine ⟨.ref s.heap.objs.size, _, I1, rfl, ⟨_, v, c, rfl, I.hok.fresh (Nat.le_refl _), rfl, fun l hl => by rw [I.list_inj hl hq]; exact hv, hcx⟩, ⟨z'', ?_, ⟨x1, .str ⟨#[c]⟩ u2, ?_⟩, ?_, ?_⟩, fun c hcm => ?_⟩
    · exact (sb.2 _ S.TIz).trans (hk _ _ S.TIz S.TITO S.TIi1 S.TIi2 hTI)
    · exact (sb.2 _ S.TOz).trans b2
    · exact d1.1.at fun o q => (sb.2 _ (Ne.symm S.zi1)).trans q
    · obtain ⟨o2, e2, r2⟩ := d2
      exact ⟨o2, (sb.2 _ (Ne.symm S.zi2)).trans e2, r2⟩
    · have hlt : c < s.heap.objs.size := by
        have e' : c = z ∨ c = TI ∨ c = TO ∨ c = i1 ∨ c = i2 := by simpa using hcm
        rcases e' with q | q | q | q | q
        · rw [q]; exact hzl
        · rw [q]; exact Heap.lt_size hTI
        · rw [q]; exact Heap.lt_size hTO
        · rw [q]; obtain ⟨_, e1, _⟩ := h1; exact Heap.lt_size e1
        · rw [q]; obtain ⟨_, e2, _⟩ := h2; exact Heap.lt_size e2
      rw [upd_ne (Nat.ne_of_lt hlt)]
      exact (hf c hcm).1
  done := by
    intro X hP hw hK hc i pins s σ H E I hf st hg
    subst hP hw hK
    obtain ⟨hz, hTI, ⟨x0, y0, hTO⟩, h1, h2⟩ := st
    obtain ⟨xs, hq, hend⟩ := hg
    obtain ⟨its, rv, p, _⟩ := I.list hq
    have hl := rv.length
    have hd : X.A.in1.handled = none := I.ok.hd hc
    have fin : ∀ (h' : Heap) (tk : Nat), (∀ c o, c ≠ z → c ≠ TO → c ≠ i1 → c ≠ i2 → s.heap.get? c = some o → h'.get? c = some o) → (none : Option Value) = none ∧ Inv X pins σ H { s with heap := h', toks := tk } := fun h' tk hk =>
      ⟨rfl, I.turnedL (t' := tk) (ch := [z, TI, TO, i1, i2]) (fun c o hb q => hk c o (fun q' => hb (by simp [q'])) (fun q' => hb (by simp [q'])) (fun q' => hb (by simp [q'])) (fun q' => hb (by simp [q'])) q) hf⟩
    have hsz : its.toArray.size = xs.length := by simp [hl]
    by_cases c1 : xs.length ≤ i
    · by_cases c2 : x.cps.size ≤ i
      · exact wpAny_pyNext_zipD2_end S (drawsEndL hd i1 a its.toArray i (by omega)) (drawsEndS hd i2 x t i c2) hz hTI hTO ⟨⟨h1, p.isList⟩, rfl⟩ ⟨h2, rfl⟩ (Nat.le_refl _) (Nat.le_refl _) (.inl rfl) fin
      · exact wpAny_pyNext_zipD2_end S (drawsEndL hd i1 a its.toArray i (by omega)) (Draws.text hd i2 x t) hz hTI hTO ⟨⟨h1, p.isList⟩, rfl⟩ h2 (Nat.le_refl _) (by omega) (.inl rfl) fin
    · have c2 : x.cps.size ≤ i := by omega
      exact wpAny_pyNext_zipD2_end S (Draws.list hd i1 a hne its.toArray) (drawsEndS hd i2 x t i c2) hz hTI hTO ⟨h1, p.isList⟩ ⟨h2, rfl⟩ (by omega) (Nat.le_refl _) (.inr rfl) fin
  self := fun A i s Q E st h => wpAny_pyIter_zip st.1 h
def iZipLS (K : Fg) (ta : TA) : TI := fun σ H R => ta σ H fun vs H1 => ∃ a x xs, vs = [.ref a, .str x] ∧ SqL K H1 a xs ∧ R (ItLS K a x) H1
theorem pi_zipLS {X : Cx} {e e2 : Expr} {ta : TA} {p pos tpos : Pos} {elts : List Expr} {kk : Nat} (hg : Gl X "zip") (hm : X.mg "zip" = none) (ha : PA X [e, e2] ta)
    (hs : starEach [e, e2] X.env = (false, eval e X.env) :: starEach [e2] X.env := by rfl) (hpl : (backTo pos (starEach [e2] X.env)).any (·.1) = false := by rfl) :
    PI X (.Tuple elts kk tpos) (.Call (.Name "zip" p) [e, e2] [] pos) (iZipLS X.K ta) := by
  refine ⟨fun pins s σ H R I h => ?_⟩
  refine Call_ (ld_blt I hg hm PyProof.Rows.boot_zip (PyProof.Rows.callWith_type1 (thn (ha.run pos pins s σ H _ I h) fun us s1 ⟨vs, H1, I1, r1, q1⟩ => ?_) hs hpl))
  obtain ⟨a, x, xs, ex, hq, q⟩ := q1
  subst ex
  cases r1 with
  | cons r rr =>
    cases rr with
    | cons r' rr =>
      cases rr
      cases r
      obtain ⟨t, rfl⟩ := r'
      obtain ⟨its, rv, p1, _⟩ := I1.list hq
      have la : a < s1.heap.objs.size := p1.lt
      refine zip_begins2 (begins_list a its.toArray) (begins_text x t) p1.isList trivial fun h' hz hTI hTO g1 g2 hsz hk => wpAny_pyIter_zip hz ?_
      have I2 : Inv X pins σ H1 { s1 with heap := h' } := I1.kept (t' := s1.toks) hk
      have S := zsep s1.heap.objs.size a la
      refine ⟨s1.heap.objs.size + 4, [s1.heap.objs.size + 4, s1.heap.objs.size + 2, s1.heap.objs.size + 3, s1.heap.objs.size, s1.heap.objs.size + 1], _, _, H1, rfl, I2, turn_zipLS (t := t) S (Nat.ne_of_lt la), ⟨hz, hTI, ⟨_, _, hTO⟩, ⟨_, g1, rfl, rfl⟩, ⟨_, g2, rfl, rfl⟩⟩, fun c hcm => ?_, q⟩
      have e' : c = s1.heap.objs.size + 4 ∨ c = s1.heap.objs.size + 2 ∨ c = s1.heap.objs.size + 3 ∨ c = s1.heap.objs.size ∨ c = s1.heap.objs.size + 1 := by simpa using hcm
      have hle : s1.heap.objs.size ≤ c := by
        rcases e' with z | z | z | z | z
        · rw [z]; exact Nat.le_add_right _ _
        · rw [z]; exact Nat.le_add_right _ _
        · rw [z]; exact Nat.le_add_right _ _
        · rw [z]; exact Nat.le_refl _
        · rw [z]; exact Nat.le_add_right _ _
      exact I1.fpOk hle (I1.hok.fresh hle)
def pZipLS (t : GA) : GA := fun γ Q => t γ fun xs => match xs with
  | [.lst x, .str y] => Q (zipL x (chars y))
  | _ => False
section
variable {X : Cx} {ks : List Kd} {a s a1 a2 : Bool} {tg e e1 e2 : Expr} {es elts : List Expr} {kk : Nat} {p p1 p2 : GE} {pa : GA} {pos p0 tpos : Pos}
theorem qi_zipLS (hg : Gl X "zip") (hm : X.mg "zip" = none) (h : QA X ks a true [e1, e2] pa) (hs : starEach [e1, e2] X.env = (false, eval e1 X.env) :: starEach [e2] X.env := by rfl) (hpl : (backTo pos (starEach [e2] X.env)).any (·.1) = false := by rfl) :
    QI X ks a (.Tuple elts kk tpos) (.Call (.Name "zip" p0) [e1, e2] [] pos) (pZipLS pa) :=
  PIi (pi_zipLS hg hm h hs hpl) fun σ H R ⟨E, L, γ, Qp, hK, Rl, hp, k⟩ => by
    refine ⟨E, L, γ, _, hK, Rl, hp, fun xs vs H1 q1 x1 r1 l1 => ?_⟩
    match xs, r1, l1, q1 with
    | [_, _], .cons r1 (.cons r2 .nil), l0, q1 =>
      cases r1 <;> cases r2 <;> first | exact q1.elim | skip
      rename_i b vs xs n h1 r y
      have hl : (chars y).length = y.cps.size := by simp [chars]
      refine ⟨b, y, vs, rfl, .inl (.inl h1), k _ _ H1 q1 x1 ⟨LstP E a b xs vs, ⟨h1, (nav n).1, (nav n).2, r⟩, fun _ _ _ _ h f => h.fw f, fun i L H h hi => ?_, fun i L H h hi => ?_⟩⟩
      · rw [zipL_len, hl] at hi
        have i1 : i < xs.length := by omega
        have i2 : i < y.cps.size := by omega
        obtain ⟨u, hu, ru⟩ := h.2.2.2.get (List.getElem?_eq_getElem i1)
        refine ⟨⟨vs, u, y.cps[i], .inl (.inl h.1), hu, by simp [i2]⟩, fun v H' ⟨T, u', c, e1, nT, e2, e3, e4⟩ => ?_⟩
        subst e1; subst e2
        have := e3 vs (.inl (.inl h.1))
        rw [hu] at this; cases this
        refine ⟨.new nT, _, zipL_at xs (chars y) i (List.getElem?_eq_getElem i1) (y := .str ⟨#[c]⟩) (by simp [chars, e4]), Rp.newT (.cons ru (.cons (.str _) .nil)) av_q nT⟩
      · rw [zipL_len, hl] at hi
        exact ⟨vs, .inl (.inl h.1), by rw [← h.2.2.2.length]; omega⟩
    | [], _, l, _ => simp at l
    | [_], _, l, _ => simp at l
    | _ :: _ :: _ :: _, _, l, _ => simp at l
end
end Vl
namespace Vl
open PySem PySem.Spec L2 Lb
/-! ### defs that tell a new list (or dict) of their own -/
def RtN (E : Ac) (x : PV) (a : Addr) (H' : Hp) : Prop := E.H0 a = none ∧ Ob E.B (fun b => E.A0 b ∨ b = a) H' a x ∧ (∀ a o, E.H0 a = some o → a ≠ E.B.q → H' a = some o) ∧ (∀ a, E.H0 a ≠ none → H' a ≠ none) ∧ BagOk E.B H'
def tSL (K : Fg) (ks : List Kd) (p : GS) : TS := fun D σ H => ∃ (E : Ac) (L : List Addr) (γ : G) (Dp : GD), E.B.K = K ∧ Rel E L ks γ σ H ∧ p Dp γ ∧ (∀ γ, ¬ Dp.nx γ) ∧ (∀ γ, ¬ Dp.bk γ) ∧ (∀ γ, ¬ Dp.ct γ) ∧ ∀ x γ' a H', RtN E x a H' → Dp.rt x γ' → D.rt (.ref a) H'
abbrev QL (X : Cx) (ks : List Kd) (sts : List Stmt) (p : GS) : Prop := PSs X sts (tSL X.K ks p)
def NoRet (p : GS) : Prop := ∀ D γ, p D γ → p { D with rt := fun _ _ => False } γ
section
variable {X : Cx} {ks ks' ks1 kl : List Kd} {a s a1 s1 a2 s2 : Bool} {e e1 e2 tg : Expr} {es : List Expr} {st : Stmt} {sts sts' : List Stmt} {p p1 p2 : GE} {pa : GA} {pt : GT} {ps q : GS} {pos : Pos} {i n : Nat}
theorem ql_ret (h : QN X ks e p) : QL X ks [.Return (some e) pos] (pRet p) :=
  PSsi (pss_one (ps_ret h)) fun D σ H ⟨E, L, γ, Dp, hK, R, hp, n1, n2, n3, rt⟩ => ⟨E, L, γ, _, hK, R, hp, fun x a H1 q1 x1 na ob =>
    rt x γ a H1 ⟨Classical.byContradiction fun z => R.onn a z na, ob.mv (fun _ _ h _ => h) (fun _ _ h => h) (fun b z _ => z.elim (fun z => .inl (.inr (.inl ⟨rfl, z⟩))) .inr) (fun _ h => h), (R.ex x1).old, (R.ex x1).onn, (R.ex x1).bag⟩ q1⟩
theorem ql_own (h : PE X e (tVar i)) (hk : ks[i]? = some .own := by rfl) : QL X ks [.Return (some e) pos] (pRet (pVar i)) :=
  PSsi (pss_one (ps_ret h)) fun D σ H ⟨E, L, γ, Dp, hK, R, hp, n1, n2, n3, rt⟩ => by
    obtain ⟨x, hx, q⟩ := getS_of hp
    obtain ⟨O, h1, h2, h3, h4⟩ := R.sl
    obtain ⟨v, hv, k⟩ := h1 i x hx
    rw [getElem?_kd hk] at k
    obtain ⟨b, rfl, ho, ob⟩ := k
    have hb : b ∈ L := h2 i b (by rw [ho]; simp)
    refine ⟨.ref b, hv, rt x γ b H ⟨(R.lf b hb).1, ob.mv (fun _ _ h _ => h) (fun _ _ h => h) (fun c z _ => z.elim (fun z => .inr (.inl ⟨rfl, z⟩)) (fun z => .inr (.inr ⟨rfl, by rw [z]; exact hb⟩))) (fun _ h => h), R.old, R.onn, R.bag⟩ q⟩
theorem ql_cons (h1 : QS X ks ks1 [] st ps) (h2 : QL X ks1 sts q) (nr : NoRet ps := by intro _ _ h; exact h) : QL X ks (st :: sts) (pSeq ps q) :=
  PSsi (pss_cons h1 h2) fun D σ H ⟨E, L, γ, Dp, hK, R, hp, n1, n2, n3, rt⟩ =>
    ⟨E, L, γ, { nx := q Dp, rt := fun _ _ => False, bk := Dp.bk, ct := Dp.ct }, hK, R, nr _ _ hp, fun L1 γ1 σ1 H1 f1 R1 q1 => ⟨E, L1, γ1, Dp, hK, R1, q1, n1, n2, n3, rt⟩, fun _ _ _ _ _ z => z.elim, fun _ γ2 _ _ _ _ z => (n2 γ2 z).elim, fun _ γ2 _ _ _ _ z => (n3 γ2 z).elim⟩
end
def spL (n : Nat) (w : Vl.PW) (K : Fg) : Sp := fun vs H Q _ => ∃ (q r : Addr) (xs : List PV) (Qp : PV → Prop), vs.length = n ∧ BagOk ⟨K, q, r⟩ H ∧ RpL ⟨K, q, r⟩ (fun a => a = q) H xs vs ∧ w xs Qp ∧
  ∀ x a H', Qp x → Ex ⟨K, q, r⟩ H H' → H a = none → Ob ⟨K, q, r⟩ (fun b => H b ≠ none ∨ b = a) H' a x → Q (.ref a) H'
def wL (N : Nat) (p : GS) : Vl.PW := fun xs Q => p ⟨fun _ => False, fun x _ => Q x, fun _ => False, fun _ => False⟩ (startG N xs)
def xL (N : Nat) (p : GS) : Vl.PW := fun xs Q => startS xs N fun γ => p ⟨fun _ => False, fun x _ => Q x, fun _ => False, fun _ => False⟩ γ
theorem xL_eq (N : Nat) (p : GS) : xL N p = wL N p := by funext xs Q; rw [xL, startS_eq]; rfl
theorem len_L {n : Nat} {w : Vl.PW} {K : Fg} {vs : List V} {H : Hp} {Q : VK} {E : XK} (h : spL n w K vs H Q E) : vs.length = n := by obtain ⟨_, _, _, _, h, _⟩ := h; exact h
section
variable {X : Cx} {N : List Str} {ks : List Kd} {sts : List Stmt} {p : GS} {vs : List V} {H : Hp} {Q : VK} {E : XK} {n : Nat}
theorem body_L (h : QL X ks sts p) (hk : (ks.take n).all (fun x => decide (x = Kd.bor)) = true) (hn : n ≤ ks.length) (hs : spL n (wL N.length p) X.K vs H Q E) : ∃ t, PSs X sts t ∧ t { nx := fun _ H' => Q .non H', rt := Q } (start N vs) H := by
  obtain ⟨q, r, xs, Qp, hl, bg, rx, w, k⟩ := hs
  refine ⟨_, h, ⟨⟨X.K, q, r⟩, fun a => H a ≠ none, H, 0⟩, [], startG N.length xs, _, rfl, rel_startF bg rx (fun i hi => ksh hk hn i (by rw [rx.length, hl] at hi; exact hi)) 0, w, fun _ z => z, fun _ z => z, fun _ z => z, ?_⟩
  intro x γ' a H' ⟨r0, r1, r2, r3, r4⟩ q1
  exact k x a H' q1 (ex_of bg r2 r3 r4) r0 r1
end
section
variable {X : Cx} {ks : List Kd} {a s a1 s1 : Bool} {e : Expr} {es : List Expr} {pa : GA} {w : Vl.PW} {k n : Nat} {x : Str} {ps' : List Str} {dvs : List V} {ds : List PV} {p : GE} {p0 pos : Pos}
theorem qn_calL (cc : Cal X.prog X.w X.K X.mg X.base x k ps' (spL n w X.K) dvs) (hd : Dfl X.K ds dvs) (hr : Room k X.A) (hg : Gl X x) (h : QA X ks a s (e :: es) pa) (hn : (e :: es).length + dvs.length = n := by rfl) (hdb : (x == ("__debug__" : Str)) = false := by decide)
    (he : starEach (e :: es) X.env = (false, eval e X.env) :: starEach es X.env := by rfl) (hpl : (backTo pos (starEach es X.env)).any (·.1) = false := by rfl) : QN X ks (.Call (.Name x p0) (e :: es) [] pos) (pCall w ds pa) :=
  PEi (pe_cal cc hr hg h hdb he hpl) fun σ H Q ⟨E, L, γ, Qp, hK, R, hp, k⟩ => by
    refine ⟨E, L, γ, _, hK, R, hp, fun xs vs H1 q1 x1 r1 l1 => ?_⟩
    have R1 := R.ex x1
    have rr : RpL E.B (fun b => b = E.B.q) H1 (xs ++ ds) (vs ++ dvs) := (r1.append (hd.b hK _ _)).q
    have hl : (vs ++ dvs).length = n := by rw [List.length_append, ← r1.length, l1]; exact hn
    have nn : ∀ b, av E L true true b → H1 b ≠ none := fun b z => av_nn R1 z
    have bg := R1.bag
    clear R R1 r1
    obtain ⟨⟨K, q, r0⟩, A0, H0, me⟩ := E
    cases hK
    exact ⟨q, r0, xs ++ ds, Qp, hl, bg, rr, q1, fun z b H' qz x2 nb ob => k z b H' qz (x1.trans x2) (x1.free nb) (ob.mv (fun _ _ h _ => h) (fun _ _ h => h) (fun c z _ => z.elim (fun z => .inl (nn c z)) .inr) fun _ h => h)⟩
theorem Ob.rpA {B : Bg} {A A' : Addr → Prop} {H : Hp} {b : Addr} {x : PV} (h : Ob B A H b x) (n : ¬ A' b) (g : ∀ c, A' c → A c) : Rp B A' H x (.ref b) := by
  cases x with
  | lst xs => obtain ⟨vs, h1, h2⟩ := h; exact .lst n h1 (h2.anti g)
  | dT kvs => obtain ⟨ws, h1, h2, h3⟩ := h; exact .dT n h1 h2 rfl rfl rfl (h3.anti g)
  | dK kvs => obtain ⟨ws, h1, h2, h3⟩ := h; exact .dK n h1 h2 rfl rfl rfl (h3.anti g)
  | ins c fs => obtain ⟨dx, ws, h1, h2, h3⟩ := h; exact .ins n h1 h2 rfl (h3.anti g)
  | _ => exact h.elim
theorem qe_new (h : QN X ks e p) : QE X ks true true e p :=
  PEi h fun σ H Q ⟨E, L, γ, Qp, hK, R, hp, k⟩ => ⟨E, L, γ, Qp, hK, R, hp, fun x b H' qx x1 nb ob => k x (.ref b) H' qx x1 (ob.rpA (fun z => av_nn R z nb) fun c z => .inl z)⟩
/-! ### a list of new lists, all of one's own -/
def tNs (K : Fg) (ks : List Kd) (m : Nat) (p : GA) : TA := fun σ H Q => ∃ (E : Ac) (L : List Addr) (γ : G) (Qp : List PV → Prop), E.B.K = K ∧ Rel E L ks γ σ H ∧ p γ Qp ∧
  ∀ xs as H', Qp xs → Ex E.B H H' → (∀ b ∈ as, H b = none) → as.Nodup → Obs E.B (fun b => av E L true true b ∨ b ∈ as) H' xs as → as.length = m → Q (as.map V.ref) H'
abbrev QNs (X : Cx) (ks : List Kd) (es : List Expr) (p : GA) : Prop := PA X es (tNs X.K ks es.length p)
theorem qns_nil : QNs X ks [] pNil := PAi pa_nil fun σ H Q ⟨E, L, γ, Qp, hK, R, hp, k⟩ => k [] [] H hp (.refl _ _) (by simp) (by simp) .nil rfl
theorem Ob.nn1 {B : Bg} {A : Addr → Prop} {H : Hp} {b : Addr} {x : PV} (h : Ob B A H b x) : H b ≠ none := by
  cases x <;> first | exact (h : False).elim | (obtain ⟨_, h, _⟩ := h; rw [h]; exact nofun) | (obtain ⟨_, _, h, _⟩ := h; rw [h]; exact nofun)
theorem qns_cons (h : QN X ks e p) (t : QNs X ks es pa) (hs : starEach (e :: es) X.env = (false, eval e X.env) :: starEach es X.env := by rfl) : QNs X ks (e :: es) (pCons p pa) :=
  PAi (pa_cons h t hs) fun σ H Q ⟨E, L, γ, Qp, hK, R, hp, k⟩ => by
    refine ⟨E, L, γ, _, hK, R, hp, fun x b H1 q1 x1 nb ob => ?_⟩
    have hb1 := ob.nn1
    have R1 : Rel E (b :: L) ks γ σ H1 := R.more x1 nb hb1
    refine ⟨E, b :: L, γ, _, hK, R1, q1, fun xs as H2 q2 x2 na nd obs hl => ?_⟩
    have bq : b ≠ E.B.q := R1.lq (by simp)
    refine k _ (b :: as) H2 q2 (x1.trans x2) (fun c m => ?_) ?_ (.cons ?_ ?_) (by simp [hl])
    · rcases List.mem_cons.mp m with rfl | m
      · exact nb
      · exact x1.free (na c m)
    · rw [List.nodup_cons]; exact ⟨fun m => hb1 (na b m), nd⟩
    · exact ob.mv (fun c u e n => x2.st c u e (fun z => n (.inl (.inl z)))) x2.tp (fun c z m => by
        rcases z with z | z
        · exact .inl z
        · rcases List.mem_cons.mp z with z | z
          · exact .inr z
          · exact absurd (na c z) m) (fun u e => x2.st b u e bq)
    · exact obs.mv (fun _ _ h _ => h) (fun _ _ h => h) (fun c z _ => by
        rcases z with z | z
        · exact .inl (av_cons z)
        · rcases List.mem_cons.mp z with z | z
          · exact .inl (.inr (.inr ⟨rfl, by simp [z]⟩))
          · exact .inr z) (fun _ _ _ h => h)
theorem qn2_lst (h : QNs X ks es pa) (hn : es.length ≤ 1000 := by decide) : QN2 X ks (.List es pos) (pLst pa) :=
  PEi (pe_lst h) fun σ H Q ⟨E, L, γ, Qp, hK, R, hp, k⟩ => by
    refine ⟨E, L, γ, _, hK, R, hp, fun xs as H1 q1 x1 na nd obs hl => ⟨by rw [List.length_map, hl]; exact few hn, fun b nb => ?_⟩⟩
    have bas : ∀ c ∈ as, c ≠ b := fun c m z => obs.nn c m (z ▸ nb)
    refine k _ as b _ q1 (x1.trans (.new nb)) ⟨xs, rfl, x1.free nb, na, ?_, upd_same, ?_⟩
    · rw [List.nodup_cons]; exact ⟨fun m => bas b m rfl, nd⟩
    · refine obs.mv (fun c u e _ => by rw [upd_ne (ne_of_none e nb)]; exact e) (fun c u e => by rw [upd_ne (ne_of_none e nb)]; exact e) (fun c z m => ?_) (fun c m u e => by rw [upd_ne (bas c m)]; exact e)
      rcases z with z | z | ⟨_, z⟩
      · exact .inl (.inl z)
      · exact .inl (.inr (.inl z))
      · have z' : c ∈ b :: as ++ L := z
        simp at z'
        rcases z' with z | z | z
        · rw [z] at m; exact absurd nb m
        · exact .inr z
        · exact .inl (.inr (.inr ⟨rfl, z⟩))
end
end Vl
namespace Vl
open PySem PySem.Spec L2 Lb
/-! ### items of own lists -/
theorem Obs.atI {B : Bg} {A : Addr → Prop} {H : Hp} {xs : List PV} {as : List Addr} {n : Int} {x : PV} (o : Obs B A H xs as) (h : L2.atI xs n = some x) : ∃ c, L2.atI (as.map V.ref) n = some (.ref c) ∧ Ob B A H c x := by
  unfold L2.atI at h ⊢
  rw [List.length_map, ← o.len]
  cases e : ixN xs.length n with
  | none => rw [e] at h; cases h
  | some j =>
    rw [e] at h
    obtain ⟨c, h1, h2⟩ := o.get h
    refine ⟨c, ?_, h2⟩
    show (as.map V.ref)[j]? = some (.ref c)
    rw [List.getElem?_map, h1]; rfl
section
variable {X : Cx} {ks ks' kl : List Kd} {a s a1 s1 a2 s2 : Bool} {e e1 e2 : Expr} {es : List Expr} {st : Stmt} {p p1 p2 : GE} {gs : GGs} {pos tpos : Pos} {i n kk : Nat} {js : List Nat}
theorem qe_ixO (i : Nat) (hi : PE X e1 (tVar i)) (h2 : QE X ks a2 s2 e2 p2) (hk : ks[i]? = some .own := by rfl) (hs : PlainIx e2 := by intro _ _; rfl) : QE X ks true true (.Subscript e1 e2 pos) (pOp oIx (pVar i) p2) :=
  PEi (pe_ix ix_list hi h2 hs) fun σ H Q ⟨E, L, γ, Qp, hK, R, hp, k⟩ => by
    obtain ⟨x, hx, q⟩ := getS_of hp
    obtain ⟨b, hv, hb, _, _⟩ := R.upd1 hk hx
    refine ⟨.ref b, hv, E, L, γ, _, hK, R, q, fun y u H2 q2 x2 r2 => ?_⟩
    obtain ⟨b', hv', _, ob, _⟩ := (R.ex x2).upd1 hk hx
    rw [hv] at hv'; cases hv'
    match x, hx, q2, ob with
    | .lst xs, hx, q2, ⟨vs, g1, g2⟩ =>
      cases r2 with
      | int j =>
        have q3 : (match atI xs j with | some x => Qp x | none => False) := q2
        cases e : atI xs j with
        | none => rw [e] at q3; exact q3.elim
        | some c =>
          rw [e] at q3
          obtain ⟨u, hu, ru⟩ := g2.atI e
          exact ⟨b, vs, j, u, rfl, rfl, .inl (.inl g1), hu, k _ _ H2 q3 x2 ru⟩
      | _ => exact (q2 : False).elim
    | .dT _, _, q2, _ => cases r2 <;> exact (q2 : False).elim
    | .dK _, _, q2, _ => cases r2 <;> exact (q2 : False).elim
    | .ins _ _, _, q2, _ => cases r2 <;> exact (q2 : False).elim
def pUnp2 (i : Nat) (k : GE) (t : GGs) : GS := fun D γ => getS γ i fun x => k γ fun n => match x, n with
  | .lst xs, .int n => (match atI xs n with | some (.lst ys) => t ys γ D.nx | _ => False)
  | _, _ => False
theorem qs_unp2 (i : Nat) (he : ∀ {t : TE}, PE X e2 t → PE X e (tOp (rIxL X.K) (tVar i) t)) (pa : ∀ {te : TE} {g : TG}, PE X e te → PG X (.Tuple es kk tpos) g → PS X st (tAsg te g)) (hc : X.calm = true) (h2 : QE X ks a2 s2 e2 p2) (ht : QGs X ks true true js es gs)
    (hl : ∀ xs γ Q, gs xs γ Q → xs.length = n) (hk : ks[i]? = some .own2 := by rfl) (hn : (assignEach es X.env).length = n := by rfl) (hst : (assignEach es X.env).findIdx? (·.1) = none := by rfl) : QS X ks ks kl st (pUnp2 i p2 gs) :=
  PSi (pa (he h2) (pg_lst hc ht hn hst)) fun D σ H ⟨E, L, γ, Dp, hK, R, hp, nx, rt, bk, ct⟩ => by
    obtain ⟨x, hx, q⟩ := getS_of hp
    obtain ⟨O, h1, _, _, _⟩ := R.sl
    obtain ⟨v, hv, k0⟩ := h1 i x hx
    rw [getElem?_kd hk] at k0
    obtain ⟨b, xs, as, rfl, ho, rfl, hb, obs⟩ := k0
    refine ⟨.ref b, hv, E, L, γ, _, hK, R, q, fun y u H2 q2 x2 r2 => ?_⟩
    have R2 := R.ex x2
    obtain ⟨O2, g1, _, _, _⟩ := R2.sl
    obtain ⟨v2, hv2, k2⟩ := g1 i _ hx
    rw [hv] at hv2; cases hv2
    rw [getElem?_kd hk] at k2
    obtain ⟨b2, xs2, as2, e1, _, e2, hb2, obs2⟩ := k2
    cases e1; cases e2
    cases r2 <;> first | exact (q2 : False).elim | skip
    rename_i m
    have q3 : (match atI xs m with | some (.lst ys) => gs ys γ Dp.nx | _ => False) := q2
    cases e : atI xs m with
    | none => rw [e] at q3; exact q3.elim
    | some z =>
      rw [e] at q3
      cases z <;> first | exact q3.elim | skip
      rename_i ys
      obtain ⟨c, hc', ob⟩ := obs2.atI e
      obtain ⟨ws, w1, w2⟩ := ob
      exact ⟨b, _, m, .ref c, rfl, rfl, .inl (.inl hb2), hc', c, ws, rfl, .inl (.inl w1), by rw [← w2.length]; exact hl _ _ _ q3, E, L, γ, ys, Dp.nx, hK, R2, w2, q3, fun γ' σ' q' R' _ => nx L γ' σ' H2 x2.fw R' q'⟩
end
end Vl
namespace Vl
open PySem PySem.Spec L2
/-! loops and comprehensions that are not unrolled by themselves -/
@[irreducible] def yForP (g : GG) (b : GS) (D : GD) (xs : List PV) (γ : G) : Prop := forP g b D xs γ
theorem yForP_eq (g : GG) (b : GS) (D : GD) (xs : List PV) (γ : G) : yForP g b D xs γ = forP g b D xs γ := by unfold yForP; rfl
def yFor (it : GA) (g : GG) (b : GS) : GS := fun D γ => it γ fun xs => yForP g b D xs γ
theorem yFor_eq (it : GA) (g : GG) (b : GS) : yFor it g b = pFor it g b := by
  funext D γ
  show (it γ fun xs => yForP g b D xs γ) = it γ fun xs => forP g b D xs γ
  congr 1
  funext xs
  exact yForP_eq g b D xs γ
@[irreducible] def yLcP (g : GG) (t : GT) (e : GE) (γ : G) (xs : List PV) (Q : List PV → Prop) : Prop := lcP g t e γ xs Q
theorem yLcP_eq (g : GG) (t : GT) (e : GE) (γ : G) (xs : List PV) (Q : List PV → Prop) : yLcP g t e γ xs Q = lcP g t e γ xs Q := by unfold yLcP; rfl
def yLc (vs : List Nat) (it : GA) (g : GG) (t : GT) (e : GE) : GE := fun γ Q => it γ fun xs => xs.length ≤ sizeLine ∧ wipeS γ vs fun γw => yLcP g t e γw xs fun ys => Q (.lst ys)
theorem yLc_eq (vs : List Nat) (it : GA) (g : GG) (t : GT) (e : GE) : yLc vs it g t e = xLc vs it g t e := by
  funext γ Q
  show (it γ fun xs => xs.length ≤ sizeLine ∧ wipeS γ vs fun γw => yLcP g t e γw xs fun ys => Q (.lst ys)) = it γ fun xs => xs.length ≤ sizeLine ∧ wipeS γ vs fun γw => lcP g t e γw xs fun ys => Q (.lst ys)
  congr 1
  funext xs
  congr 2
  funext γw
  exact yLcP_eq g t e γw xs _
theorem yq_for {X : Cx} {ks kl : List Kd} {st : Stmt} {it : GA} {g : GG} {b : GS} (h : QS X ks ks kl st (pFor it g b)) : QS X ks ks kl st (yFor it g b) := by rw [yFor_eq]; exact h
theorem yq_lc {X : Cx} {ks : List Kd} {a s : Bool} {e : Expr} {vs : List Nat} {it : GA} {g : GG} {t : GT} {p : GE} (h : QE X ks a s e (xLc vs it g t p)) : QE X ks a s e (yLc vs it g t p) := by rw [yLc_eq]; exact h
theorem yq_lc2 {X : Cx} {ks : List Kd} {e : Expr} {vs : List Nat} {it : GA} {g : GG} {t : GT} {p : GE} (h : QN2 X ks e (xLc vs it g t p)) : QN2 X ks e (yLc vs it g t p) := by rw [yLc_eq]; exact h
theorem yq_setLc {X : Cx} {ks ks' kl : List Kd} {st : Stmt} {i : Nat} {vs : List Nat} {it : GA} {g : GG} {t : GT} {p : GE} (h : QS X ks ks' kl st (xSet i (xLc vs it g t p))) : QS X ks ks' kl st (xSet i (yLc vs it g t p)) := by rw [yLc_eq]; exact h
/-! one turn after another -/
theorem yfor_nil {g : GG} {b : GS} {D : GD} {γ : G} (k : D.nx γ) : yForP g b D [] γ := by rw [yForP_eq]; exact k
theorem yfor_cons {g : GG} {b : GS} {D : GD} {x : PV} {xs : List PV} {γ : G} (k : g x γ fun γ1 => b { D with nx := yForP g b D xs, ct := yForP g b D xs, bk := D.nx } γ1) : yForP g b D (x :: xs) γ := by
  rw [yForP_eq]
  have e : yForP g b D xs = forP g b D xs := funext fun γ => yForP_eq g b D xs γ
  rw [e] at k
  exact k
theorem ylc_nil {g : GG} {t : GT} {e : GE} {γ : G} {Q : List PV → Prop} (k : Q []) : yLcP g t e γ [] Q := by rw [yLcP_eq]; exact k
theorem ylc_cons {g : GG} {t : GT} {e : GE} {γ : G} {x : PV} {xs : List PV} {Q : List PV → Prop} (k : g x γ fun γ2 => t γ2 fun b => bfi b (e γ2 fun y => yLcP g t e γ xs fun ys => Q (y :: ys)) (yLcP g t e γ xs Q)) : yLcP g t e γ (x :: xs) Q := by
  rw [yLcP_eq]
  have h : yLcP g t e γ xs = lcP g t e γ xs := funext fun Q => yLcP_eq g t e γ xs Q
  rw [h] at k
  exact k
/-- a loop by an invariant over what is left -/
theorem yforI {α : Type} {g : GG} {b : GS} {D : GD} {h : α → PV} (I : List α → G → Prop) : ∀ {l : List α} {γ : G}, I l γ → (∀ a l γ, I (a :: l) γ → ∀ K : G → Prop, (∀ γ', I l γ' → K γ') → g (h a) γ fun γ1 => b { D with nx := K, ct := K, bk := D.nx } γ1) → (∀ γ, I [] γ → D.nx γ) → yForP g b D (l.map h) γ
  | [], _, i, _, k => yfor_nil (k _ i)
  | a :: l, γ, i, hs, k => yfor_cons (hs a l γ i _ fun γ' i' => yforI I i' hs k)
/-- the same, of a plain list of values -/
theorem yforL {g : GG} {b : GS} {D : GD} (I : List PV → G → Prop) : ∀ {l : List PV} {γ : G}, I l γ → (∀ a l γ, I (a :: l) γ → ∀ K : G → Prop, (∀ γ', I l γ' → K γ') → g a γ fun γ1 => b { D with nx := K, ct := K, bk := D.nx } γ1) → (∀ γ, I [] γ → D.nx γ) → yForP g b D l γ
  | [], _, i, _, k => yfor_nil (k _ i)
  | a :: l, γ, i, hs, k => yfor_cons (hs a l γ i _ fun γ' i' => yforL I i' hs k)
/-- range(n), the turn's number in the invariant -/
theorem yforR {g : GG} {b : GS} {D : GD} (I : Nat → G → Prop) {n : Nat} {γ : G} (i : I 0 γ) (hs : ∀ (m : Nat) γ, m < n → I m γ → ∀ K : G → Prop, (∀ γ', I (m + 1) γ' → K γ') → g (.int m) γ fun γ1 => b { D with nx := K, ct := K, bk := D.nx } γ1) (k : ∀ γ, I n γ → D.nx γ) : yForP g b D (Vl.upTo 0 n) γ := by
  unfold Vl.upTo
  rw [List.range_eq_range']
  suffices ∀ (c s : Nat) γ, s + c = n → I s γ → yForP g b D ((List.range' s c).map fun k : Nat => PV.int (0 + (k : Nat))) γ from this n 0 γ (by omega) i
  intro c
  induction c with
  | zero => intro s γ h i; exact yfor_nil (k _ (by rwa [show s = n by omega] at i))
  | succ c ih =>
    intro s γ h i
    rw [List.range'_succ, List.map_cons]
    refine yfor_cons ?_
    rw [Int.zero_add]
    exact hs s γ (by omega) i _ fun γ' i' => ih (s + 1) γ' (by omega) i'
theorem downTo_s (n : Nat) : Vl.downTo (n + 1) = .int n :: Vl.downTo n := by
  unfold Vl.downTo
  rw [List.range_succ_eq_map, List.map_cons, List.map_map]
  congr 1
  · congr 1; omega
  · apply List.map_congr_left; intro k _; show PV.int _ = PV.int _; congr 1; simp; omega
theorem yforD {g : GG} {b : GS} {D : GD} (I : Nat → G → Prop) : ∀ {n : Nat} {γ : G}, I n γ → (∀ m γ, m < n → I (m + 1) γ → ∀ K : G → Prop, (∀ γ', I m γ' → K γ') → g (.int m) γ fun γ1 => b { D with nx := K, ct := K, bk := D.nx } γ1) → (∀ γ, I 0 γ → D.nx γ) → yForP g b D (Vl.downTo n) γ
  | 0, _, i, _, k => yfor_nil (k _ i)
  | n + 1, γ, i, hs, k => by
    rw [downTo_s]
    exact yfor_cons (hs n γ (by omega) i _ fun γ' i' => yforD I i' (fun m γ hm => hs m γ (by omega)) k)
/-- a comprehension: each element told -/
theorem ylcM {α : Type} {g : GG} {e : GE} {γ : G} {h f : α → PV} : ∀ {l : List α} {Q : List PV → Prop}, (∀ a ∈ l, ∀ Q, Q (f a) → g (h a) γ fun γ2 => e γ2 Q) → Q (l.map f) → yLcP g pYes e γ (l.map h) Q
  | [], _, _, k => ylc_nil k
  | a :: l, Q, hf, k => ylc_cons (hf a (by simp) _ (ylcM (fun b m => hf b (by simp [m])) k))
/-- .. with a test -/
theorem ylcF {α : Type} {g : GG} {t : GT} {e : GE} {γ : G} {h f : α → PV} {c : α → Bool} : ∀ {l : List α} {Q : List PV → Prop}, (∀ a ∈ l, ∀ Q : Prop, ∀ Q' : PV → Prop, (c a = true → Q' (f a)) → (c a = false → Q) → g (h a) γ fun γ2 => t γ2 fun b => bfi b (e γ2 Q') Q) → Q ((l.filter c).map f) → yLcP g t e γ (l.map h) Q
  | [], _, _, k => ylc_nil k
  | a :: l, Q, hf, k => by
    refine ylc_cons (hf a (by simp) _ _ (fun h1 => ?_) (fun h1 => ?_))
    · exact ylcF (fun b m => hf b (by simp [m])) (by rw [List.filter_cons_of_pos h1] at k; exact k)
    · exact ylcF (fun b m => hf b (by simp [m])) (by rw [List.filter_cons_of_neg (by simp [h1])] at k; exact k)
/-- .. any value with a property -/
theorem ylcD {α : Type} {g : GG} {e : GE} {γ : G} {h : α → PV} {P : PV → Prop} : ∀ {l : List α} {Q : List PV → Prop}, (∀ a ∈ l, ∀ Q : PV → Prop, (∀ y, P y → Q y) → g (h a) γ fun γ2 => e γ2 Q) → (∀ ys, ys.length = l.length → (∀ y ∈ ys, P y) → Q ys) → yLcP g pYes e γ (l.map h) Q
  | [], _, _, k => ylc_nil (k [] rfl (by simp))
  | a :: l, Q, hf, k => ylc_cons (hf a (by simp) _ fun y hy => ylcD (fun b m => hf b (by simp [m])) fun ys hl hp => k (y :: ys) (by simp [hl]) fun z m => (List.mem_cons.mp m).elim (fun e => e ▸ hy) (hp z))
theorem bif2 {c : Prop} [Decidable c] {A B : Prop} (h1 : c → A) (h2 : ¬ c → B) : bfi (decide c) A B := by
  by_cases h : c
  · rw [decide_eq_true h]; exact h1 h
  · rw [decide_eq_false h]; exact h2 h
theorem bift {c : Prop} [Decidable c] {A B : Prop} (h : c) (k : A) : bfi (decide c) A B := by rw [decide_eq_true h]; exact k
theorem biff {c : Prop} [Decidable c] {A B : Prop} (h : ¬ c) (k : B) : bfi (decide c) A B := by rw [decide_eq_false h]; exact k
theorem nbift {c : Prop} [Decidable c] {A B : Prop} (h : c) (k : B) : bfi (!decide c) A B := by rw [decide_eq_true h]; exact k
theorem nbiff {c : Prop} [Decidable c] {A B : Prop} (h : ¬ c) (k : A) : bfi (!decide c) A B := by rw [decide_eq_false h]; exact k
theorem tdt {c : Prop} [Decidable c] {P : Bool → Prop} (h : c) (k : P true) : P (decide c) := by rw [decide_eq_true h]; exact k
/-- a while loop by an invariant with a measure -/
theorem wh_by {c : GT} {b : GS} {D : GD} {γ : G} (W : Nat → G → Prop) (m0 : Nat) (w0 : W m0 γ) (st : ∀ m γ, W m γ → c γ fun k => bfi k (b { D with nx := fun γ' => ∃ m', m' < m ∧ W m' γ', ct := fun γ' => ∃ m', m' < m ∧ W m' γ', bk := D.nx } γ) (D.nx γ)) : pWhile c b D γ := ⟨W, ⟨m0, w0⟩, st⟩
/-! where ways come together -/
@[irreducible] def jSeq (p q : GS) : GS := pSeq p q
theorem jSeq_eq (p q : GS) : jSeq p q = pSeq p q := by unfold jSeq; rfl
theorem jq {X : Cx} {ks ks' kl : List Kd} {sts : List Stmt} {p q : GS} (h : QB X ks ks' kl sts (pSeq p q)) : QB X ks ks' kl sts (jSeq p q) := by rw [jSeq_eq]; exact h
theorem jql {X : Cx} {ks : List Kd} {sts : List Stmt} {p q : GS} (h : QL X ks sts (pSeq p q)) : QL X ks sts (jSeq p q) := by rw [jSeq_eq]; exact h
theorem j_by {p q : GS} {D : GD} {γ : G} (I : G → Prop) (h1 : ∀ K : G → Prop, (∀ γ', I γ' → K γ') → p { D with nx := K } γ) (h2 : ∀ γ', I γ' → q D γ') : jSeq p q D γ := by rw [jSeq_eq]; exact h1 (q D) h2
theorem j_same {p q : GS} {D : GD} {γ : G} (h1 : ∀ K : G → Prop, K γ → p { D with nx := K } γ) (h2 : q D γ) : jSeq p q D γ := by rw [jSeq_eq]; exact h1 _ h2
theorem j_go {p q : GS} {D : GD} {γ : G} (h : p { D with nx := q D } γ) : jSeq p q D γ := by rw [jSeq_eq]; exact h
end Vl
namespace Vl
open PySem PySem.Spec L2 Lb PyProof.Rows
/-! ### x[::-1] of lists and texts -/
def revS (z : Str) : Str := ⟨z.cps.toList.reverse.toArray⟩
theorem revS_pick (z : Str) : ((Builtin.Str.strSliceIndices none none (-1) z.length).filterMap (z.cps[·]?)) = z.cps.toList.reverse := by
  have e : Builtin.Str.strSliceIndices none none (-1) z.length = sliceRange ((z.cps.size : Int) - 1) (-1) (-1) := rfl
  rw [e, PySem.W.krv_sliceRange, PySem.W.krv_range, List.filterMap_reverse, PySem.W.krv_all]
def tRevA (K : Fg) (te : TE) : TE := fun σ H Q => te σ H fun x H1 => (∃ a xs, x = .ref a ∧ SqL K H1 a xs ∧ ∀ p, H1 p = none → Q (.ref p) (upd H1 p (.lst xs.reverse))) ∨ ∃ z, x = .str z ∧ z.length ≤ sizeLine ∧ Q (.str (revS z)) H1
theorem pe_revA {X : Cx} {e : Expr} {te : TE} {k : Nat} {p1 p2 p3 pos : Pos} (he : PE X e te) : PE X (.Subscript e (.Slice none none (some (.UnaryOp .USub (.Constant (.int 1) k p1) p2)) p3) pos) (tRevA X.K te) := by
  refine ⟨fun pins s σ H Q I h => ?_⟩
  refine Subscript_ (thn (he.run pins s σ H _ I h) fun v s1 ⟨x, H1, I1, r1, q1⟩ => ?_)
  have hst : PO X (some (.UnaryOp .USub (.Constant (.int 1) k p1) p2)) (tPart (tUn (rU fun i => .int (-i)) (tC (.int 1)))) := po_some (pe_un un_neg pe_int)
  refine wpAny_Slice (thn (po_none.run pins s1 σ H1 (fun o H2 => o = none ∧ H2 = H1) I1 ⟨rfl, rfl⟩) fun vl s2 ⟨l, H2, I2, pl, el, e2⟩ => ?_)
  subst el e2
  refine thn (po_none.run pins s2 σ H2 (fun o H3 => o = none ∧ H3 = H2) I2 ⟨rfl, rfl⟩) fun vu s3 ⟨u, H3, I3, pu, eu, e3⟩ => ?_
  subst eu e3
  refine thn (hst.run pins s3 σ H3 (fun o H4 => o = some (-1) ∧ H4 = H3) I3 ⟨1, rfl, -1, rfl, rfl, rfl⟩) fun vs s4 ⟨o, H4, I4, ps, eo, e4⟩ => ?_
  subst eo e4
  have I5 : Inv X pins σ H4 { s4 with heap := s4.heap.push { cls := .type "slice", data := .fields #[vl, vu, vs] } } := I4.kept (t' := s4.toks) fun b ob q => Heap.get?_push_of_some _ q
  rcases q1 with ⟨a, xs, rfl, hx, q⟩ | ⟨z, rfl, hz, q⟩
  · cases r1
    obtain ⟨its, r, ht, hz⟩ := I5.list hx
    have hlen := r.length
    show wpAny (model X.prog X.w) X.A (subscriptTail e (.Slice none none (some (.UnaryOp .USub (.Constant (.int 1) k p1) p2)) p3) (.ref a) (.ref s4.heap.objs.size)) (EP X pins σ Q) X.xe { s4 with heap := s4.heap.push { cls := .type "slice", data := .fields #[vl, vu, vs] } }
    refine tail_any (ops := [.ref a, .ref s4.heap.objs.size]) ht.isList.typeIs (PySem.slot_list_getitem.lookup) ?_ (by with_unfolding_all rfl)
    refine wpAny_getItem_list_slice ht.isList (Heap.IsSliceOf.new _ vl vu vs) pl pu ps (by decide) ?_ (by rw [List.size_toArray]; omega)
    rw [PySem.W.krv_pick]
    refine ⟨.ref _, _, I5.laid (t' := s4.toks) (o := .lst xs.reverse) (fun b ob q => Heap.get?_push_of_some _ q) (Nat.le_refl _) ?_, rfl, q _ (I5.hok.fresh (Nat.le_refl _))⟩
    exact ⟨by rw [List.length_reverse]; exact hz, _, 0, r.reverse, Heap.get?_push_size _ rfl⟩
  · obtain ⟨t, rfl⟩ := r1
    obtain ⟨l1, rfl, e1⟩ := IsPart.raw pl
    obtain ⟨u1, rfl, e2⟩ := IsPart.raw pu
    obtain ⟨st, rfl, e3⟩ := IsPart.raw ps
    cases l1 with
    | some _ => simp at e1
    | none =>
    cases u1 with
    | some _ => simp at e2
    | none =>
    cases st with
    | none => simp at e3
    | some st =>
    obtain ⟨kk, tk⟩ := st
    simp at e3
    subst e3
    show wpAny (model X.prog X.w) X.A (subscriptTail e (.Slice none none (some (.UnaryOp .USub (.Constant (.int 1) k p1) p2)) p3) (.str z t) (.ref s4.heap.objs.size)) (EP X pins σ Q) X.xe _
    refine tail_any (ops := [.ref s4.heap.objs.size, .str z t]) (typeIs_str _ _ _) (PySem.F.slot_str_getitem.lookup) ?_ (by with_unfolding_all rfl)
    refine wpAny_getItem_str_slice (l := none) (u := none) (st := some (-1, tk)) ⟨_, Heap.get?_push_size _ rfl, rfl, rfl⟩ rfl ?_
    show Made.post (if (((-1 : Int) == 1 && (Builtin.Str.strSliceIndices none none (-1) z.length).length == z.length) = true) then Made.val (.str z t)
      else Made.str ⟨((Builtin.Str.strSliceIndices none none (-1) z.length).filterMap (z.cps[·]?)).toArray⟩) (EP X pins σ Q) _
    rw [if_neg (by simp), revS_pick]
    refine ⟨?_, .str _, H4, I5.tok _, ⟨_, rfl⟩, q⟩
    show (revS z).cps.size ≤ sizeLine
    unfold revS
    rw [List.size_toArray, List.length_reverse]; exact hz
def pRev (p : GE) : GE := fun γ Q => p γ fun x => match x with
  | .lst xs => Q (.lst xs.reverse)
  | .str z => z.length ≤ sizeLine ∧ Q (.str (revS z))
  | _ => False
theorem hu1 {n : Nat} (h : n + 64 < cLine) : n + 1 < cLine := Nat.lt_of_le_of_lt (Nat.add_le_add_left (by decide) n) h
section
variable {X : Cx} {ks : List Kd} {a s : Bool} {e : Expr} {p : GE} {pos : Pos}
theorem qe_rev {kk : Nat} {p1 p2 p3 : Pos} (h : QE X ks a s e p) : QE X ks a s (.Subscript e (.Slice none none (some (.UnaryOp .USub (.Constant (.int 1) kk p1) p2)) p3) pos) (pRev p) :=
  PEi (pe_revA h) fun σ H Q ⟨E, L, γ, Qp, hK, R, hp, k⟩ => by
    refine ⟨E, L, γ, _, hK, R, hp, fun x v H1 q1 x1 r1 => ?_⟩
    cases r1 <;> first | exact q1.elim | skip
    · exact .inr ⟨_, rfl, q1.1, k _ _ _ q1.2 x1 (.str _)⟩
    · rename_i b vs xs n h1 r
      exact .inl ⟨b, vs, rfl, .inl (.inl h1), fun c nc => k _ _ _ q1 (x1.trans (.new nc)) (Rp.new r.reverse av_q nc fun d z => av_nn (R.ex x1) z)⟩
/-! ### slices of tuples -/
def pSlT (p : GE) (l u : GO) : GE := fun γ Q => p γ fun x => l γ fun i => u γ fun j => match x with
  | .tup xs => Q (.tup (cutP xs i j))
  | _ => False
theorem cut_whole {α : Type} {xs : List α} {n m : Nat} (h : n = 0 ∧ m = xs.length) : (xs.drop n).take (m - n) = xs := by
  obtain ⟨rfl, rfl⟩ := h; simp
theorem qe_slT {lo hi : Option Expr} {pl pu : GO} {q2 : Pos} (h : QE X ks a s e p) (hl : QO X ks lo pl) (hu : QO X ks hi pu) : QE X ks a s (.Subscript e (.Slice lo hi none q2) pos) (pSlT p pl pu) :=
  PEi (pe_slice sl_tupA h hl hu) fun σ H Q ⟨E, L, γ, Qp, hK, R, hp, k⟩ => by
    refine ⟨E, L, γ, _, hK, R, hp, fun x v H1 q1 x1 r1 => ⟨E, L, γ, _, hK, R.ex x1, q1, fun i H2 q2 x2 => ⟨E, L, γ, _, hK, (R.ex x1).ex x2, q2, fun j H3 q3 x3 => ?_⟩⟩⟩
    have r3 := (r1.ex x2 av_q).ex x3 av_q
    cases r3 <;> first | exact q3.elim | skip
    rename_i b vs xs h1 r
    refine ⟨b, vs, rfl, hK ▸ h1.sq, fun hw => ?_, fun _ c nc => k _ _ _ q3 (x1.trans (x2.trans (x3.trans (.new nc)))) (Rp.newT (r.cut i j) av_q nc)⟩
    refine k _ _ _ q3 (x1.trans (x2.trans x3)) ?_
    have e : cutP xs i j = xs := cut_whole (by rw [← r.length] at hw; exact hw)
    rw [e]
    exact .tup h1 r
/-! ### dicts by texts or whole numbers: what stands there -/
def kOf : PV → Option Key
  | .int i => some (.inl i)
  | .str x => some (.inr x)
  | _ => none
def valP {κ : Type} [DecidableEq κ] (kvs : List (κ × PV)) (k : κ) : Option PV := (kvs.find? fun kv => decide (kv.1 = k)).map (·.2)
def oDGet : PO2
  | .dK kvs, y, Q => (match kOf y with | some k => (match valP kvs k with | some x => Q x | none => False) | none => False)
  | _, _, _ => False
theorem val_rp {κ : Type} [DecidableEq κ] {B : Bg} {A : Addr → Prop} {H : Hp} {k : κ} {x : PV} : ∀ {kvs : List (κ × PV)} {ws : List (κ × V)}, kvs.map (·.1) = ws.map (·.1) → RpL B A H (kvs.map (·.2)) (ws.map (·.2)) → valP kvs k = some x → ∃ v, valV ws k = some v ∧ Rp B A H x v
  | [], _, _, _, h => by simp [valP] at h
  | (k1, x1) :: kvs, [], e, _, _ => by simp at e
  | (k1, x1) :: kvs, (k2, v2) :: ws, e, r, h => by
    simp only [List.map_cons, List.cons.injEq] at e r
    obtain ⟨e1, e2⟩ := e
    cases r with
    | cons r1 r2 =>
      by_cases hk : k1 = k
      · have : valP ((k1, x1) :: kvs) k = some x1 := by simp [valP, List.find?_cons, hk]
        rw [this] at h; cases h
        exact ⟨v2, valV_pos (by show k2 = k; rw [← e1]; exact hk), r1⟩
      · have e3 : valP ((k1, x1) :: kvs) k = valP kvs k := by simp [valP, List.find?_cons, hk]
        rw [e3] at h
        obtain ⟨v, hv, rv⟩ := val_rp e2 r2 h
        have hk2 : ¬ k2 = k := by rw [← e1]; exact hk
        exact ⟨v, by rw [← hv]; simp [valV, List.find?_cons, hk2], rv⟩
theorem kOf_rp {B : Bg} {A : Addr → Prop} {H : Hp} {y : PV} {u : V} {k : Key} (r : Rp B A H y u) (h : kOf y = some k) : u = kV k := by
  cases r <;> simp [kOf] at h <;> subst h <;> rfl
theorem qe_dget {o i : Expr} {p1 p2 : GE} {a2 s2 : Bool} (hu : X.A.units + 1 < cLine) (h1 : QE X ks a s o p1) (h2 : QE X ks a2 s2 i p2) (hs : NoSl i := by exact fun _ _ => rfl) : QE X ks a s (.Subscript o i pos) (pOp oDGet p1 p2) :=
  PEi (pe_dget hu h1 h2 hs) fun σ H Q ⟨E, L, γ, Qp, hK, R, hp, k⟩ => by
    refine ⟨E, L, γ, _, hK, R, hp, fun x v H1 q1 x1 r1 => ⟨E, L, γ, _, hK, R.ex x1, q1, fun y u H2 q2 x2 r2 => ?_⟩⟩
    have r3 := r1.ex x2 av_q
    cases r3 <;> first | exact (q2 : False).elim | skip
    rename_i d ws kvs ks' xs vs hn hd e1 e2 e3 e4 rl
    have q3 : (match kOf y with | some k => (match valP kvs k with | some x => Qp x | none => False) | none => False) := q2
    cases hy : kOf y with
    | none => rw [hy] at q3; exact q3.elim
    | some kk =>
      rw [hy] at q3
      cases hx : valP kvs kk with
      | none => simp only [hx] at q3
      | some x =>
        simp only [hx] at q3
        subst e1; subst e3; subst e4
        obtain ⟨v, hv, rv⟩ := val_rp e2.symm rl hx
        have := kOf_rp r2 hy
        subst this
        exact ⟨d, v, rfl, by rw [← hv]; exact DGet.k hd, k _ _ _ q3 (x1.trans x2) rv⟩
/-- a dict written with texts for keys -/
def pDisp : List (Str × GE) → G → (List (Key × PV) → Prop) → Prop
  | [], _, Q => Q []
  | (x, p) :: t, γ, Q => p γ fun y => pDisp t γ fun r => Q ((.inr x, y) :: r)
def pDict (l : List (Str × GE)) : GE := fun γ Q => pDisp l γ fun kvs => Q (.dK kvs)
inductive QPs (X : Cx) (ks : List Kd) (a s : Bool) : List (Option Expr) → List Expr → List (Str × GE) → List (TE × TE) → Prop
  | nil : QPs X ks a s [] [] [] []
  | cons {n : Nat} {q : Pos} {x : Str} {v : Expr} {p : GE} {ks' : List (Option Expr)} {vs : List Expr} {l : List (Str × GE)} {t : List (TE × TE)} : QE X ks a s v p → QPs X ks a s ks' vs l t → QPs X ks a s (some (.Constant (.str x) n q) :: ks') (v :: vs) ((x, p) :: l) ((tC (.str x), tE X.K ks a s p) :: t)
theorem QPs.pps {ks' : List (Option Expr)} {vs : List Expr} {l : List (Str × GE)} {t : List (TE × TE)} (h : QPs X ks a s ks' vs l t) : PPs X pos ks' vs t := by
  induction h with
  | nil => exact pps_nil
  | cons hv _ ih => exact pps_cons pe_str hv ih
theorem QPs.len {ks' : List (Option Expr)} {vs : List Expr} {l : List (Str × GE)} {t : List (TE × TE)} (h : QPs X ks a s ks' vs l t) : ks'.length = vs.length ∧ ks'.all (·.isSome) = true ∧ l.length = vs.length := by
  induction h with
  | nil => exact ⟨rfl, rfl, rfl⟩
  | cons _ _ ih => exact ⟨by simp [ih.1], by simpa using ih.2.1, by simp [ih.2.2]⟩
theorem QPs.run {E : Ac} {L : List Addr} {γ : G} {σ : L2.St} {ks' : List (Option Expr)} {vs : List Expr} {l : List (Str × GE)} {t : List (TE × TE)} (h : QPs X ks a s ks' vs l t) (hK : E.B.K = X.K) : ∀ {H : Hp} {Q : List (V × V) → Hp → Prop} {Qp : List (Key × PV) → Prop}, Rel E L ks γ σ H → pDisp l γ Qp →
    (∀ (kvs : List (Key × PV)) (ws : List (Key × V)) H', Qp kvs → Ex E.B H H' → kvs.map (·.1) = ws.map (·.1) → kvs.map (·.1) = l.map (fun y => Sum.inr y.1) → RpL E.B (av E L a s) H' (kvs.map (·.2)) (ws.map (·.2)) → Q (ws.map fun kv => (kV kv.1, kv.2)) H') → tPairs t σ H Q := by
  induction h with
  | nil => intro H Q Qp R hp k; exact k [] [] H hp (.refl _ _) rfl rfl .nil
  | @cons n q x v p ks' vs l t hv ht ih =>
    intro H Q Qp R hp k
    show tPairs ((tC (.str x), tE X.K ks a s p) :: t) σ H Q
    show tE X.K ks a s p σ H fun y H2 => tPairs t σ H2 fun ps H3 => Q ((.str x, y) :: ps) H3
    refine ⟨E, L, γ, _, hK, R, hp, fun y u H1 q1 x1 r1 => ih (R.ex x1) q1 fun kvs ws H2 q2 x2 e1 e2 r2 => ?_⟩
    exact k ((.inr x, y) :: kvs) ((.inr x, u) :: ws) H2 q2 (x1.trans x2) (by simp [e1]) (by simp [e2]) (.cons (r1.ex x2 av_q) r2)
theorem put_new {kvs : List (Key × V)} {k : Key} {v : V} (h : ¬ k ∈ kvs.map (·.1)) : putK kvs k v = kvs ++ [(k, v)] := by
  unfold putK
  rw [if_neg]
  intro z
  simp only [List.any_eq_true, decide_eq_true_eq] at z
  obtain ⟨y, m, e⟩ := z
  exact h (List.mem_map.mpr ⟨y, m, e⟩)
theorem merge_new : ∀ {more kvs : List (Key × V)}, ((kvs ++ more).map (·.1)).Nodup → mergeK kvs more = kvs ++ more
  | [], kvs, _ => by simp [mergeK]
  | (k, v) :: more, kvs, h => by
    have e : mergeK kvs ((k, v) :: more) = mergeK (putK kvs k v) more := rfl
    have hn : ¬ k ∈ kvs.map (·.1) := by
      intro m
      rw [List.map_append, List.nodup_append] at h
      exact h.2.2 k m k (by simp) rfl
    rw [e, put_new hn, merge_new (by simpa using h), List.append_assoc]
    rfl
theorem qe_dict {keys : List (Option Expr)} {values : List Expr} {l : List (Str × GE)} {t : List (TE × TE)} (h : QPs X ks a true keys values l t) (h0 : keys ≠ [] := by exact nofun) (h15 : keys.length ≤ 15 := by decide) (hd : (l.map (·.1)).Nodup := by decide +kernel) : QE X ks a true (.Dict keys values pos) (pDict l) :=
  PEi (pe_disp h.pps h.len.2.1 h.len.1 h0 h15) fun σ H Q ⟨E, L, γ, Qp, hK, R, hp, k⟩ => by
    intro p np
    have R1 := R.more (D := p) (Ex.new (B := E.B) (o := .dK []) np) np (by rw [upd_same]; exact nofun)
    refine h.run hK R1 hp fun kvs ws H2 q x2 e1 e2 r2 => ?_
    have hp2 : H2 p = some (.dK []) := x2.st p _ upd_same fun z => by
      have := R.bag.q; rw [← z] at this; exact this np
    have hl : ws.length = l.length := by
      have := congrArg List.length (e1.symm.trans e2); simpa using this
    refine ⟨hp2, ws, rfl, by rw [hl, h.len.2.2, ← h.len.1]; exact h15, ?_⟩
    have nd : (ws.map (·.1)).Nodup := by
      rw [← e1, e2]
      have : (l.map fun y => (Sum.inr y.1 : Key)) = (l.map (·.1)).map Sum.inr := by rw [List.map_map]; rfl
      rw [this]
      exact List.Pairwise.map _ (fun _ _ h e => h (Sum.inr.inj e)) hd
    rw [merge_new (kvs := []) (by simpa using nd), List.nil_append]
    have na : ¬ av E L a true p := fun z => av_nn R z np
    have xx : Ex E.B H (upd H2 p (.dK ws)) := by
      refine ⟨fun b o hb nb => ?_, fun b vs hb => ?_, fun b hb => ?_, fun hbg => ?_⟩
      · have hne : b ≠ p := fun z => by rw [z] at hb; rw [np] at hb; cases hb
        rw [upd_ne hne]
        exact x2.st b o (by rw [upd_ne hne]; exact hb) nb
      · have hne : b ≠ p := fun z => by rw [z] at hb; rw [np] at hb; cases hb
        rw [upd_ne hne]
        exact x2.tp b vs (by rw [upd_ne hne]; exact hb)
      · have hne : b ≠ p := fun z => hb (by rw [z]; exact np)
        rw [upd_ne hne]
        exact x2.nn b (by rw [upd_ne hne]; exact hb)
      · have b1 : BagOk E.B H2 := x2.bg (hbg.stay (fun o e => by rw [upd_ne (fun z => by rw [z] at e; rw [np] at e; cases e)]; exact e) fun o e => by rw [upd_ne (fun z => by rw [z] at e; rw [np] at e; cases e)]; exact e)
        refine b1.stay (fun o e => ?_) fun o e => ?_
        · rw [upd_ne (fun z => by rw [z] at e; have := hbg.q; rw [z] at this; exact this np)]; exact e
        · rw [upd_ne (fun z => by
            obtain ⟨_, _, _, _, _, hr, _⟩ := hbg
            rw [z] at hr; rw [np] at hr; cases hr)]; exact e
    refine k _ _ _ q xx ?_
    refine .dK na upd_same rfl e1.symm rfl rfl ?_
    exact r2.mv (fun b o hb nb => by
      have hbp : b ≠ p := fun z => nb (.inr (.inr ⟨rfl, by rw [z]; exact List.mem_cons_self ..⟩))
      rw [upd_ne hbp]; exact hb) (fun b vs hb => by
      have hne : b ≠ p := fun z => by rw [z] at hb; rw [hp2] at hb; cases hb
      rw [upd_ne hne]; exact hb) fun b z _ => by
        rcases z with z | z | ⟨z1, z⟩
        · exact .inl z
        · exact .inr (.inl z)
        · exact .inr (.inr ⟨z1, List.mem_cons_of_mem _ z⟩)
end
end Vl
namespace Vl
open PySem PySem.Spec L2 Lb
/-! ### dicts by tuples of whole numbers and texts -/
def keysOf : List PV → Option (List Key)
  | [] => some []
  | x :: xs => match kOf x with | some k => (keysOf xs).map (k :: ·) | none => none
theorem keys_rp {B : Bg} {A : Addr → Prop} {H : Hp} : ∀ {xs : List PV} {vs : List V} {k : List Key}, RpL B A H xs vs → keysOf xs = some k → vs = k.map kV
  | _, _, k, .nil, h => by simp [keysOf] at h; subst h; rfl
  | _, _, k, .cons (x := x) (v := v) (xs := xs) (vs := vs) r rs, h => by
    simp only [keysOf] at h
    cases hx : kOf x with
    | none => rw [hx] at h; cases h
    | some k1 =>
      rw [hx] at h
      cases hk : keysOf xs with
      | none => rw [hk] at h; cases h
      | some k2 =>
        rw [hk] at h
        simp at h
        subst h
        rw [kOf_rp r hx, keys_rp rs hk]; rfl
def putP {κ : Type} [DecidableEq κ] (kvs : List (κ × PV)) (k : κ) (v : PV) : List (κ × PV) :=
  if (kvs.any fun kv => decide (kv.1 = k)) = true then kvs.map (fun kv => if kv.1 = k then (kv.1, v) else kv) else kvs ++ [(k, v)]
theorem valP_cons {κ : Type} [DecidableEq κ] (a : κ × PV) (kvs : List (κ × PV)) (k : κ) : valP (a :: kvs) k = if a.1 = k then some a.2 else valP kvs k := by
  unfold valP
  by_cases h : a.1 = k
  · simp [List.find?_cons, h]
  · simp [List.find?_cons, h]
theorem valP_app {κ : Type} [DecidableEq κ] (k k' : κ) (v : PV) : ∀ (kvs : List (κ × PV)), (kvs.any fun kv => decide (kv.1 = k)) = false → valP (kvs ++ [(k, v)]) k' = if k = k' then some v else valP kvs k'
  | [], _ => by rw [List.nil_append, valP_cons]
  | a :: kvs, h => by
    simp only [List.any_cons, Bool.or_eq_false_iff, decide_eq_false_iff_not] at h
    rw [List.cons_append, valP_cons, valP_cons, valP_app k k' v kvs h.2]
    by_cases ha : a.1 = k'
    · by_cases hk : k = k'
      · exact absurd (ha.trans hk.symm) h.1
      · simp [ha, hk]
    · simp [ha]
theorem valP_map {κ : Type} [DecidableEq κ] (k k' : κ) (v : PV) : ∀ (kvs : List (κ × PV)), (kvs.any fun kv => decide (kv.1 = k)) = true → valP (kvs.map (fun kv => if kv.1 = k then (kv.1, v) else kv)) k' = if k = k' then some v else valP kvs k'
  | [], h => by simp at h
  | a :: kvs, h => by
    rw [List.map_cons, valP_cons, valP_cons]
    by_cases ha : a.1 = k
    · by_cases hk : k = k'
      · simp [ha, hk]
      · have : ¬ a.1 = k' := fun z => hk (ha.symm.trans z)
        rw [if_pos ha]
        simp only [this, if_false, hk]
        by_cases hany : (kvs.any fun kv => decide (kv.1 = k)) = true
        · rw [valP_map k k' v kvs hany, if_neg hk]
        · congr 1
          conv => rhs; rw [← List.map_id kvs]
          apply List.map_congr_left
          intro b hb
          have : ¬ b.1 = k := fun z => hany (List.any_eq_true.mpr ⟨b, hb, by simp [z]⟩)
          simp [this]
    · rw [if_neg ha]
      have hany : (kvs.any fun kv => decide (kv.1 = k)) = true := by simpa [ha] using h
      rw [valP_map k k' v kvs hany]
      by_cases ha' : a.1 = k'
      · have : ¬ k = k' := fun z => ha (ha'.trans z.symm)
        simp [ha', this]
      · simp [ha']
theorem valP_put {κ : Type} [DecidableEq κ] (kvs : List (κ × PV)) (k k' : κ) (v : PV) : valP (putP kvs k v) k' = if k = k' then some v else valP kvs k' := by
  unfold putP
  cases h : (kvs.any fun kv => decide (kv.1 = k)) with
  | true => simp only [if_true]; exact valP_map k k' v kvs h
  | false => simp only [Bool.false_eq_true, if_false]; exact valP_app k k' v kvs h
theorem len_putP {κ : Type} [DecidableEq κ] (kvs : List (κ × PV)) (k : κ) (v : PV) : (putP kvs k v).length ≤ kvs.length + 1 := by
  unfold putP
  split <;> simp
theorem put_rp {κ : Type} [DecidableEq κ] {B : Bg} {A : Addr → Prop} {H : Hp} {k : κ} {x : PV} {v : V} (r : Rp B A H x v) {kvs : List (κ × PV)} {ws : List (κ × V)} (e : kvs.map (·.1) = ws.map (·.1)) (rs : RpL B A H (kvs.map (·.2)) (ws.map (·.2))) :
    (putP kvs k x).map (·.1) = (putK ws k v).map (·.1) ∧ RpL B A H ((putP kvs k x).map (·.2)) ((putK ws k v).map (·.2)) := by
  have ha : (kvs.any fun kv => decide (kv.1 = k)) = (ws.any fun kv => decide (kv.1 = k)) := by
    have h1 : (kvs.any fun kv => decide (kv.1 = k)) = (kvs.map (·.1)).any (fun y => decide (y = k)) := by rw [List.any_map]; rfl
    have h2 : (ws.any fun kv => decide (kv.1 = k)) = (ws.map (·.1)).any (fun y => decide (y = k)) := by rw [List.any_map]; rfl
    rw [h1, h2, e]
  unfold putP putK
  rw [ha]
  split
  · rename_i hany
    refine ⟨?_, ?_⟩
    · rw [List.map_map, List.map_map]
      have h1 : ((fun kv : κ × PV => kv.1) ∘ fun kv : κ × PV => if kv.1 = k then (kv.1, x) else kv) = fun kv => kv.1 := by funext kv; simp only [Function.comp]; split <;> rfl
      have h2 : ((fun kv : κ × V => kv.1) ∘ fun kv : κ × V => if kv.1 = k then (kv.1, v) else kv) = fun kv => kv.1 := by funext kv; simp only [Function.comp]; split <;> rfl
      rw [h1, h2]; exact e
    · clear ha hany
      induction kvs generalizing ws with
      | nil => cases ws with
        | nil => exact .nil
        | cons _ _ => simp at e
      | cons a kvs ih => cases ws with
        | nil => simp at e
        | cons b ws =>
          simp only [List.map_cons, List.cons.injEq] at e rs ⊢
          cases rs with
          | cons r1 r2 =>
            refine .cons ?_ (ih e.2 r2)
            rw [e.1]
            by_cases hb : b.1 = k
            · rw [if_pos hb, if_pos hb]; exact r
            · rw [if_neg hb, if_neg hb]; exact r1
  · exact ⟨by simp [e], by rw [List.map_append, List.map_append]; exact rs.append (.cons r .nil)⟩
def pDGetT (p : GE) (t : GA) : GE := fun γ Q => p γ fun d => t γ fun xs => match d with
  | .dT kvs => (match keysOf xs with | some k => (match valP kvs k with | some x => Q x | none => False) | none => False)
  | _ => False
section
variable {X : Cx} {ks kl : List Kd} {a s a1 s1 a2 s2 : Bool} {e e1 e2 o : Expr} {es : List Expr} {p p1 p2 : GE} {pa : GA} {pos tpos : Pos} {st : Stmt} {x1 : Nat}
theorem qe_dgetT (hu : X.A.units + 1 < cLine) (h1 : QE X ks a s o p1) (h2 : QA X ks a2 s2 es pa) (hn : es.length ≤ 1000 := by decide) (hs : NoSl (.Tuple es x1 tpos) := by exact fun _ _ => rfl) : QE X ks a s (.Subscript o (.Tuple es x1 tpos) pos) (pDGetT p1 pa) :=
  PEi (pe_dget hu h1 (pe_tup h2) hs) fun σ H Q ⟨E, L, γ, Qp, hK, R, hp, k⟩ => by
    refine ⟨E, L, γ, _, hK, R, hp, fun x v H1 q1 x1 r1 => ⟨E, L, γ, _, hK, R.ex x1, q1, fun xs vs H2 q2 x2 r2 l2 => ⟨by rw [← r2.length, l2]; exact few hn, fun b nb => ?_⟩⟩⟩
    have r3 := (r1.ex x2 av_q).ex (Ex.new (o := .tup vs) nb) av_q
    cases r3 <;> first | exact (q2 : False).elim | skip
    rename_i d ws kvs ks' xs' vs' hn' hd e1 e2 e3 e4 rl
    have q3 : (match keysOf xs with | some k => (match valP kvs k with | some x => Qp x | none => False) | none => False) := q2
    cases hy : keysOf xs with
    | none => rw [hy] at q3; exact q3.elim
    | some kk =>
      rw [hy] at q3
      cases hx : valP kvs kk with
      | none => simp only [hx] at q3
      | some x =>
        simp only [hx] at q3
        subst e1; subst e3; subst e4
        obtain ⟨v, hv, rv⟩ := val_rp e2.symm rl hx
        have ek := keys_rp r2 hy
        exact ⟨d, v, rfl, by rw [← hv]; exact DGet.t hd (by rw [upd_same, ek]), k _ _ _ q3 (x1.trans (x2.trans (.new nb))) rv⟩
theorem qe_dgetTO (i : Nat) (hu : X.A.units + 1 < cLine) (hi : PE X o (tVar i)) (h2 : QA X ks a2 s2 es pa) (hk : ks[i]? = some .own := by rfl) (hn : es.length ≤ 1000 := by decide) (hs : NoSl (.Tuple es x1 tpos) := by exact fun _ _ => rfl) : QE X ks true true (.Subscript o (.Tuple es x1 tpos) pos) (pDGetT (pVar i) pa) :=
  PEi (pe_dget hu hi (pe_tup h2) hs) fun σ H Q ⟨E, L, γ, Qp, hK, R, hp, k⟩ => by
    obtain ⟨x, hx, q⟩ := getS_of hp
    obtain ⟨b, hv, hb, _, _⟩ := R.upd1 hk hx
    refine ⟨.ref b, hv, E, L, γ, _, hK, R, q, fun xs vs H2 q2 x2 r2 l2 => ⟨by rw [← r2.length, l2]; exact few hn, fun d nd => ?_⟩⟩
    have x3 : Ex E.B H2 (upd H2 d (.tup vs)) := .new nd
    obtain ⟨b', hv', _, ob, _⟩ := ((R.ex x2).ex x3).upd1 hk hx
    rw [hv] at hv'; cases hv'
    match x, q2, ob with
    | .dT kvs, q2, ⟨ws, g1, g2, g3⟩ =>
      have q3 : (match keysOf xs with | some k => (match valP kvs k with | some x => Qp x | none => False) | none => False) := q2
      cases hy : keysOf xs with
      | none => rw [hy] at q3; exact q3.elim
      | some kk =>
        rw [hy] at q3
        cases hx : valP kvs kk with
        | none => simp only [hx] at q3
        | some x =>
          simp only [hx] at q3
          obtain ⟨v, hv, rv⟩ := val_rp g2 g3 hx
          have ek := keys_rp r2 hy
          exact ⟨b, v, rfl, by rw [← hv]; exact DGet.t g1 (by rw [upd_same, ek]), k _ _ _ q3 (x2.trans x3) rv⟩
    | .lst _, q2, _ => exact (q2 : False).elim
    | .dK _, q2, _ => exact (q2 : False).elim
    | .ins _ _, q2, _ => exact (q2 : False).elim
    | .non, q2, _ => exact (q2 : False).elim
    | .bl _, q2, _ => exact (q2 : False).elim
    | .int _, q2, _ => exact (q2 : False).elim
    | .str _, q2, _ => exact (q2 : False).elim
    | .ty _, q2, _ => exact (q2 : False).elim
    | .tup _, q2, _ => exact (q2 : False).elim
    | .cls _, q2, _ => exact (q2 : False).elim
    | .bag, q2, _ => exact (q2 : False).elim
/-- an empty dict of one's own -/
theorem qn_dT : QN X ks (.Dict [] [] pos) (pC (.dT [])) :=
  PEi pe_dnewT fun σ H Q ⟨E, L, γ, Qp, hK, R, hp, k⟩ => fun b nb => k _ b _ hp (.new nb) nb ⟨[], upd_same, rfl, .nil⟩
theorem qn_dK : QN X ks (.Dict [] [] pos) (pC (.dK [])) :=
  PEi pe_dnewK fun σ H Q ⟨E, L, γ, Qp, hK, R, hp, k⟩ => fun b nb => k _ b _ hp (.new nb) nb ⟨[], upd_same, rfl, .nil⟩
def xSetD (i : Nat) (t : GA) (e : GE) : GS := fun D γ => e γ fun y => getS γ i fun d => t γ fun xs => match d with
  | .dT kvs => (match keysOf xs with | some k => kvs.length < sizeLine ∧ setS γ i (some (.dT (putP kvs k y))) D.nx | none => False)
  | _ => False
theorem xs_setD {i : Nat} (pe : ∀ {t : TE} {t' : TA}, PE X e t → PA X es t' → PS X st (tAsg t (gSub (tVar i) (tTup t') rSetD))) (h : QE X ks true true e p) (h3 : QA X ks a s es pa) (hn : es.length ≤ 1000 := by decide) (hk : ks[i]? = some .own := by rfl) : QS X ks ks kl st (xSetD i pa p) :=
  PSi (pe h h3) fun D σ H ⟨E, L, γ, Dp, hK, R, hp, nx, rt, bk, ct⟩ => by
    refine ⟨E, L, γ, _, hK, R, hp, fun y u H1 q1 x1 ry => ?_⟩
    obtain ⟨x, hx, q⟩ := getS_of q1
    obtain ⟨b, hv, hb, -, -⟩ := (R.ex x1).upd1 hk hx
    refine ⟨.ref b, hv, E, L, γ, _, hK, R.ex x1, q, fun xs vs H2 q2 x2 r2 l2 => ⟨by rw [← r2.length, l2]; exact few hn, fun d nd => ?_⟩⟩
    have x3 : Ex E.B H2 (upd H2 d (.tup vs)) := .new nd
    have R3 := ((R.ex x1).ex x2).ex x3
    obtain ⟨b', hv', hb', ob', up⟩ := R3.upd1 hk hx
    rw [hv] at hv'; cases hv'
    cases x <;> first | exact (q2 : False).elim | skip
    rename_i kvs
    obtain ⟨ws, g1, g2, g3⟩ := ob'
    have q3 : (match keysOf xs with | some k => kvs.length < sizeLine ∧ setS γ i (some (.dT (putP kvs k y))) Dp.nx | none => False) := q2
    cases hy : keysOf xs with
    | none => rw [hy] at q3; exact q3.elim
    | some kk =>
      rw [hy] at q3
      obtain ⟨q4, q5⟩ := q3
      rw [setS_eq] at q5
      have ek := keys_rp r2 hy
      have nt : ∀ vs', (upd H2 d (.tup vs)) b ≠ some (.tup vs') := fun z => by rw [g1]; exact nofun
      have hl : kvs.length = ws.length := by have := congrArg List.length g2; simpa using this
      refine ⟨b, _, rfl, DPut.t (k := kk) g1 (by rw [upd_same, ek]) (by rw [← hl]; exact q4), ?_⟩
      have ryy : Rp E.B (av E L true true) (upd H2 d (.tup vs)) y u := (ry.ex x2 av_q).ex x3 av_q
      have pr := put_rp (k := kk) (ryy.upL (o := .dT (putK ws kk u)) hb nt) g2 (g3.upL (o := .dT (putK ws kk u)) hb nt)
      exact nx L _ _ _ (Fw.trans (x1.trans (x2.trans x3)).fw (.upd hb nt)) (up _ (.dT (putP kvs kk y)) ⟨_, upd_same, pr.1, pr.2⟩) q5
end
end Vl
namespace Vl
open PySem PySem.Spec L2 Lb
def xFldD (c j : Nat) (e : GE) : GS := fun D γ => e γ fun y => getS γ 0 fun x => match x with
  | .ins c' fs => c' = c ∧ fs.length = j ∧ setS γ 0 (some (.ins c' (fs ++ [y]))) D.nx
  | _ => False
def setL (l : List PV) : Nat → PV → (List PV → Prop) → Prop :=
  List.rec (motive := fun _ => Nat → PV → (List PV → Prop) → Prop) (fun _ _ K => K [])
    (fun a l ih i y K => Nat.rec (motive := fun _ => Prop) (K (y :: l)) (fun i _ => ih i y fun l' => K (a :: l')) i) l
theorem setL_eq : ∀ (l : List PV) (i : Nat) (y : PV) (K : List PV → Prop), setL l i y K = K (l.set i y)
  | [], _, _, _ => rfl
  | _ :: _, 0, _, _ => rfl
  | a :: l, i + 1, y, K => setL_eq l i y fun l' => K (a :: l')
/-- self.f[keys] = e -/
def xSetDF (c j : Nat) (t : GA) (e : GE) : GS := fun D γ => e γ fun y => getS γ 0 fun x => match x with
  | .ins c' fs => c' = c ∧ getS (fs.map some) j fun d => t γ fun xs => (match d with
    | .dT kvs => (match keysOf xs with | some k => kvs.length < sizeLine ∧ setL fs j (.dT (putP kvs k y)) fun fs' => setS γ 0 (some (.ins c' fs')) D.nx | none => False)
    | _ => False)
  | _ => False
section
variable {X : Cx} {ks ks' kl : List Kd} {a s a2 s2 : Bool} {e : Expr} {es : List Expr} {p : GE} {pa : GA} {pos : Pos} {st : Stmt} {sts : List Stmt} {q : GS}
/-- self.f = {}: the instance with an own dict -/
theorem xs_fldD (c j : Nat) {f : Str} (cl : Cls X.K (He.ga X.K (clsT c).1)) (na : NoAttr X.K (He.ga X.K (clsT c).1) f) (pe : ∀ {t : TE}, PE X e t → PS X st (sFld X.K (tVar 0) t f)) (h : QN X ks e p) (hk : ks[0]? = some .slf := by rfl)
    (hf : (clsT c).2[j]? = some f ∧ (clsT c).2.Nodup := by decide +kernel) : QS X ks (ks.set 0 (.slfD j)) kl st (xFldD c j p) :=
  PSi (pe h) fun D σ H ⟨E, L, γ, Dp, hK, R, hp, nx, rt, bk, ct⟩ => by
    refine ⟨E, L, γ, _, hK, R, hp, fun y d H1 q1 x1 nd ob => ?_⟩
    have hd : H1 d ≠ none := by cases y <;> first | exact (ob : False).elim | (obtain ⟨_, h, _⟩ := ob; rw [h]; exact nofun) | (obtain ⟨_, _, h, _⟩ := ob; rw [h]; exact nofun)
    have R1 := R.more x1 nd hd
    obtain ⟨x, hx, q⟩ := getS_of q1
    obtain ⟨O0, z1, z2, z3, z4⟩ := R.sl
    obtain ⟨v0, hv0, k0⟩ := z1 0 x hx
    rw [getElem?_kd hk] at k0
    obtain ⟨b, rfl, ho0, ⟨⟨c', fs, rfl⟩, hme⟩, ob0⟩ := k0
    have hbL : b ∈ L := z2 0 b (by rw [ho0]; simp)
    obtain ⟨O, h1, h2, h3, h4⟩ := R1.sl
    obtain ⟨v, hv, k⟩ := h1 0 _ hx
    rw [hv0] at hv; cases hv
    rw [getElem?_kd hk] at k
    obtain ⟨b', e0, ho, _, obI⟩ := k
    cases e0
    have nt := obI.nt
    obtain ⟨dx, ws, g1, g2, g3⟩ := obI
    obtain ⟨rfl, hjl, q⟩ := q
    rw [setS_eq] at q
    have hbd : b ≠ d := fun z => (R.lf b hbL).2 (by rw [z]; exact nd)
    have hb : b ∈ d :: L := List.mem_cons_of_mem _ hbL
    have hl : fs.length = ws.length := by rw [g3.length]; simp
    have hr : b ≠ E.B.r := fun z => R.ar (by rw [← z]; exact (R.lf b hbL).1)
    have hws : ws.length ≤ (clsT c').2.length := by
      have := congrArg List.length g2; simp at this; omega
    have hn : ws.length < 1000 := by
      have h10 : (clsT c').2.length ≤ 5 := by
        rcases c' with _ | _ | _ | _ | _ | _ | _ | _ | _ | _ | _ <;> simp [clsT]
      omega
    refine ⟨.ref b, hv0, b, _, dx, ws, rfl, by rw [← hK]; exact g1, cl, na, hn, ?_⟩
    rw [← hK]
    have hp2 := putF_at (v := .ref d) (by rw [← hl]; exact g2) hf.2 hf.1 (by omega)
    rw [hp2, if_pos (by omega)]
    refine nx (d :: L) (γ.set 0 (some (.ins c' (fs ++ [y])))) σ (upd H1 b (.ins (He.ga E.B.K (clsT c').1) dx (ws ++ [(f, .ref d)]))) (Fw.trans (.more x1 nd) (.upd hb nt)) ?_ q
    have ob2 : Ob E.B (av E (d :: L) true true) (upd H1 b (.ins (He.ga E.B.K (clsT c').1) dx (ws ++ [(f, .ref d)]))) d y := by
      have o1 : Ob E.B (av E (d :: L) true true) H1 d y := ob.mv (fun _ _ h _ => h) (fun _ _ h => h) (fun c z _ => by
        rcases z with z | z | ⟨_, z⟩
        · exact .inl (.inl z)
        · exact .inl (.inr (.inl z))
        · exact (List.mem_cons.mp z).elim .inr fun z => .inl (.inr (.inr ⟨rfl, z⟩))) fun _ h => h
      exact o1.mv (fun a o e n => by rw [upd_ne (fun z => n (.inr (.inr ⟨rfl, by rw [z]; exact hb⟩)))]; exact e) (fun a vs e => by rw [upd_ne (fun z => nt vs (by rw [← z]; exact e))]; exact e) (fun _ z _ => z) fun o e => by rw [upd_ne (Ne.symm hbd)]; exact e
    have g2' : (ws ++ [(f, V.ref d)]).map (·.1) = (clsT c').2.take (fs ++ [y]).length := by
      simp only [List.map_append, List.map_cons, List.map_nil, List.length_append, List.length_cons, List.length_nil, g2]
      rw [List.take_add_one, hjl, hf.1]; rfl
    have sf : (fs ++ [y]).set j .non = fs ++ [.non] := by rw [← hjl]; simp
    have hjw : j = (ws.map (·.2)).length := by simp; omega
    have sw : ((ws ++ [(f, V.ref d)]).map (·.2)).set j .non = ws.map (·.2) ++ [.non] := by
      rw [List.map_append, hjw]; simp
    have := R.put (i := 0) (k := .slfD j) (x := .ins c' (fs ++ [y])) (v := .ref b) (O' := [b, d]) (L' := d :: L) (H' := upd H1 b (.ins (He.ga E.B.K (clsT c').1) dx (ws ++ [(f, .ref d)]))) (Fw.trans (.more x1 nd) (.upd hb nt)) (fun c m n u e => by rw [upd_ne (fun z => n (by simp [z]))]; exact x1.st c u e (R.lq m))
      (fun c u e n => by rw [upd_ne (fun z => by rw [z, (R.lf b hbL).1] at e; cases e)]; exact R1.old c u e n) (R1.bag.stay (fun u e => by rw [upd_ne (R.lq hbL).symm]; exact e) fun u e => by rw [upd_ne hr.symm]; exact e)
      (fun c m => (List.mem_cons.mp m).elim (fun z => .inr (by rw [z]; exact (R1.lf d (by simp)).1)) .inl) (fun c m => (Fw.upd (B := E.B) hb nt).nn c (R1.lf c m).2) (fun _ h => List.mem_cons_of_mem _ h)
      ⟨b, d, c', fs ++ [y], ws ++ [(f, .ref d)], dx, y, rfl, rfl, ⟨rfl, hme⟩, upd_same, g2', by rw [← hjl]; simp, by rw [List.map_append, hjw]; simp, ob2, by rw [sf, sw]; exact (g3.upL hb nt).append (.cons .non .nil)⟩ (fun c m => by
        simp at m
        rcases m with m | m
        · rw [m]; exact hb
        · rw [m]; exact List.mem_cons_self ..) (by simp [hbd]) (fun O' k2 k3 k1 j' c hj hc m => by
        simp at hc
        rcases hc with hc | hc
        · subst hc
          obtain ⟨w, hw, kw⟩ := k1 0 _ hx
          rw [hv0] at hw; cases hw
          rw [getElem?_kd hk] at kw
          obtain ⟨d', e1, e2, _⟩ := kw
          cases e1
          exact hj (k3 j' 0 c m (by rw [e2]; simp))
        · subst hc
          exact (R.lf c (k2 j' c m)).2 nd) (List.getElem?_eq_some_iff.mp hk).1
    rw [set_self hv0] at this
    exact this
/-- the own dict of the instance is changed -/
theorem Rel.updD {E : Ac} {L : List Addr} {γ : G} {σ : St} {H : Hp} {x : PV} {j : Nat} (R : Rel E L ks γ σ H) (hk : ks[0]? = some (.slfD j)) (hx : γ[0]? = some (some x)) : ∃ b d c fs ws dx y, x = .ins c fs ∧ σ[0]? = some (some (.ref b)) ∧ d ∈ L ∧ H b = some (.ins (He.ga E.B.K (clsT c).1) dx ws) ∧ ws.map (·.1) = (clsT c).2.take fs.length ∧
    fs[j]? = some y ∧ (ws.map (·.2))[j]? = some (.ref d) ∧ Ob E.B (av E L true true) H d y ∧
    ∀ o y', Ob E.B (av E L true true) (upd H d o) d y' → Rel E L ks (γ.set 0 (some (.ins c (fs.set j y')))) σ (upd H d o) := by
  obtain ⟨O, h1, h2, h3, h4⟩ := R.sl
  obtain ⟨v, hv, k⟩ := h1 0 x hx
  rw [getElem?_kd hk] at k
  obtain ⟨b, d, c, fs, ws, dx, y, rfl, ho, ⟨rfl, hme⟩, hb, g2, hy, hd, ob, rl⟩ := k
  have hbL : b ∈ L := h2 0 b (by rw [ho]; simp)
  have hdL : d ∈ L := h2 0 d (by rw [ho]; simp)
  have hbd : b ≠ d := by have := h4 0; rw [ho] at this; simp at this; exact this
  have nt := ob.nt
  refine ⟨b, d, c, fs, ws, dx, y, rfl, hv, hdL, hb, g2, hy, hd, ob, fun o y' ob' => ?_⟩
  have hr : d ≠ E.B.r := fun z => R.ar (by rw [← z]; exact (R.lf d hdL).1)
  have hj : j < fs.length := (List.getElem?_eq_some_iff.mp hy).1
  have := R.put (i := 0) (k := .slfD j) (x := .ins c (fs.set j y')) (v := .ref b) (O' := [b, d]) (.upd (o := o) hdL nt) (fun c m n u e => by rw [upd_ne (fun z => n (by simp [z]))]; exact e)
    (fun c u e n => by rw [upd_ne (fun z => by rw [z, (R.lf d hdL).1] at e; cases e)]; exact R.old c u e n) (R.bag.stay (fun u e => by rw [upd_ne (R.lq hdL).symm]; exact e) fun u e => by rw [upd_ne hr.symm]; exact e)
    (fun c m => .inl m) (fun c m => (Fw.upd (B := E.B) hdL nt).nn c (R.lf c m).2) (fun _ h => h)
    ⟨b, d, c, fs.set j y', ws, dx, y', rfl, rfl, ⟨rfl, hme⟩, by rw [upd_ne hbd]; exact hb, by rw [List.length_set]; exact g2, by rw [List.getElem?_set_self hj], hd, ob', by rw [List.set_set]; exact rl.upL hdL nt⟩
    (fun c m => by
      simp at m
      rcases m with m | m
      · rw [m]; exact hbL
      · rw [m]; exact hdL) (by simp [hbd]) (fun O' k2 k3 k1 j' c hj' hc m => by
      obtain ⟨w, hw, kw⟩ := k1 0 _ hx
      rw [hv] at hw; cases hw
      rw [getElem?_kd hk] at kw
      obtain ⟨b2, d2, c2, fs2, ws2, dx2, y2, e1, e2, ⟨e3, _⟩, e4, e5, e6, e7, _⟩ := kw
      cases e1
      cases e3
      rw [hb] at e4; cases e4
      rw [hd] at e7; cases e7
      exact hj' (k3 j' 0 c m (by rw [e2]; simpa using hc))) (List.getElem?_eq_some_iff.mp hk).1
  rw [set_same hk, set_self hv] at this
  exact this
theorem xs_setDF (c j : Nat) {f : Str} (cl : Cls X.K (He.ga X.K (clsT c).1)) (na : NoAttr X.K (He.ga X.K (clsT c).1) f) (pe : ∀ {t : TE} {t' : TA}, PE X e t → PA X es t' → PS X st (tAsg t (gSub (tFld X.K (tVar 0) f) (tTup t') rSetD))) (h : QE X ks true true e p) (h3 : QA X ks a s es pa) (hn : es.length ≤ 1000 := by decide) (hk : ks[0]? = some (.slfD j) := by rfl)
    (hf : (clsT c).2[j]? = some f ∧ ((clsT c).2.take j).all (fun g => !decide (g = f)) = true := by decide +kernel) : QS X ks ks kl st (xSetDF c j pa p) :=
  PSi (pe h h3) fun D σ H ⟨E, L, γ, Dp, hK, R, hp, nx, rt, bk, ct⟩ => by
    refine ⟨E, L, γ, _, hK, R, hp, fun y u H1 q1 x1 ry => ?_⟩
    obtain ⟨x, hx, q⟩ := getS_of q1
    have R1 := R.ex x1
    obtain ⟨b, d, c', fs, ws, dx, y0, rfl, hv, hdL, hb, g2, hy, hd, ob, _⟩ := R1.updD hk hx
    obtain ⟨rfl, q⟩ := q
    obtain ⟨y1, hy1, q⟩ := getS_map q
    rw [hy] at hy1; cases hy1
    have f2 := fldn hf
    have hj : j < fs.length := (List.getElem?_eq_some_iff.mp hy).1
    refine ⟨.ref b, hv, b, _, dx, ws, .ref d, rfl, by rw [← hK]; exact hb, cl, na, lookup_at (j := j) g2 (by rw [List.getElem?_take, if_pos hj]; exact hf.1) (fun i hi => by rw [List.getElem?_take, if_pos (by omega)]; exact f2 i hi) hd, ?_⟩
    refine ⟨E, L, γ, _, hK, R1, q, fun xs vs H2 q2 x2 r2 l2 => ⟨by rw [← r2.length, l2]; exact few hn, fun t nt' => ?_⟩⟩
    have x3 : Ex E.B H2 (upd H2 t (.tup vs)) := .new nt'
    have R3 := (R1.ex x2).ex x3
    obtain ⟨b', d', c'', fs', ws', dx', y0', e1, hv', hdL', hb', g2', hy', hd', ob', up⟩ := R3.updD hk hx
    cases e1
    rw [hv] at hv'; cases hv'
    rw [hy] at hy'; cases hy'
    have hb2 : (upd H2 t (.tup vs)) b = some (.ins (He.ga E.B.K (clsT c').1) dx ws) := (x2.trans x3).st b _ hb fun z => by
      obtain ⟨O, z1, z2, z3, z4⟩ := R1.sl
      obtain ⟨w, hw, kw⟩ := z1 0 _ hx
      rw [hv] at hw; cases hw
      rw [getElem?_kd hk] at kw
      obtain ⟨b2, d2, c2, fs2, ws2, dx2, y2, e1, e2, _⟩ := kw
      cases e1
      exact R1.lq (z2 0 b (by rw [e2]; simp)) z
    rw [hb2] at hb'; cases hb'
    rw [hd] at hd'; cases hd'
    cases y0 <;> first | exact (q2 : False).elim | skip
    rename_i kvs
    obtain ⟨ws2, k1, k2, k3⟩ := ob'
    have q3 : (match keysOf xs with | some k => kvs.length < sizeLine ∧ setL fs j (.dT (putP kvs k y)) (fun fs' => setS γ 0 (some (.ins c' fs')) Dp.nx) | none => False) := q2
    cases hyk : keysOf xs with
    | none => rw [hyk] at q3; exact q3.elim
    | some kk =>
      rw [hyk] at q3
      obtain ⟨q4, q5⟩ := q3
      rw [setL_eq, setS_eq] at q5
      have ek := keys_rp r2 hyk
      have nt : ∀ vs', (upd H2 t (.tup vs)) d ≠ some (.tup vs') := fun z => by rw [k1]; exact nofun
      have hl : kvs.length = ws2.length := by have := congrArg List.length k2; simpa using this
      refine ⟨d, _, rfl, DPut.t (k := kk) k1 (by rw [upd_same, ek]) (by rw [← hl]; exact q4), ?_⟩
      have ryy : Rp E.B (av E L true true) (upd H2 t (.tup vs)) y u := (ry.ex x2 av_q).ex x3 av_q
      have pr := put_rp (k := kk) (ryy.upL (o := .dT (putK ws2 kk u)) hdL nt) k2 (k3.upL (o := .dT (putK ws2 kk u)) hdL nt)
      exact nx L _ _ _ (Fw.trans (x1.trans (x2.trans x3)).fw (.upd hdL nt)) (up _ (.dT (putP kvs kk y)) ⟨_, upd_same, pr.1, pr.2⟩) q5
/-- .. is no more changed -/
theorem qb_unD (j : Nat) (h : QB X (ks.set 0 .slf) ks' kl sts q) (hk : ks[0]? = some (.slfD j) := by rfl) : QB X ks ks' kl sts q :=
  PSsi h fun D σ H ⟨E, L, γ, Dp, hK, R, hp, nx, rt, bk, ct⟩ => by
    have : ∃ L', Fw E.B L H L' H ∧ Rel E L' (ks.set 0 .slf) γ σ H := by
      obtain ⟨O, h1, h2, h3, h4⟩ := R.sl
      have hk0 : kd ks 0 = .slfD j := getElem?_kd hk
      by_cases hx : ∃ x, γ[0]? = some (some x)
      · obtain ⟨x, hx⟩ := hx
        obtain ⟨v, hv, k⟩ := h1 0 x hx
        rw [hk0] at k
        obtain ⟨b, d, c, fs, ws, dx, y, rfl, ho, ⟨rfl, hme⟩, hb, g2, hy, hd, ob, rl⟩ := k
        have hbL : b ∈ L := h2 0 b (by rw [ho]; simp)
        have hdL : d ∈ L := h2 0 d (by rw [ho]; simp)
        have hbd : b ≠ d := by have := h4 0; rw [ho] at this; simp at this; exact this
        have g : ∀ {bb : Bool} c, av E (L.filter (fun c => !decide (c = d))) bb true c → H c ≠ none → av E L bb true c := fun c z _ => by
          rcases z with z | z | ⟨_, z⟩
          · exact .inl z
          · exact .inr (.inl z)
          · exact .inr (.inr ⟨rfl, (List.mem_filter.mp z).1⟩)
        have nd : ¬ av E (L.filter (fun c => !decide (c = d))) true true d := by
          rintro (z | ⟨_, z⟩ | ⟨_, z⟩)
          · exact R.lq hdL z
          · exact R.a0 d z (R.lf d hdL).1
          · have := (List.mem_filter.mp z).2; simp at this
        have ry : Rp E.B (av E (L.filter (fun c => !decide (c = d))) true true) H y (.ref d) := by
          cases y with
          | lst xs => obtain ⟨vs, g1, g2⟩ := ob; exact .lst nd g1 (g2.mv (fun _ _ h _ => h) (fun _ _ h => h) g)
          | dT kvs => obtain ⟨ws, g1, g2, g3⟩ := ob; exact .dT nd g1 g2 rfl rfl rfl (g3.mv (fun _ _ h _ => h) (fun _ _ h => h) g)
          | dK kvs => obtain ⟨ws, g1, g2, g3⟩ := ob; exact .dK nd g1 g2 rfl rfl rfl (g3.mv (fun _ _ h _ => h) (fun _ _ h => h) g)
          | ins c fs => obtain ⟨dx, ws, g1, g2, g3⟩ := ob; exact .ins nd g1 g2 rfl (g3.mv (fun _ _ h _ => h) (fun _ _ h => h) g)
          | _ => exact ob.elim
        have rf : RpL E.B (av E (L.filter (fun c => !decide (c = d))) true true) H fs (ws.map (·.2)) := by
          have r1 := (rl.mv (fun _ _ h _ => h) (fun _ _ h => h) g : RpL E.B (av E (L.filter (fun c => !decide (c = d))) true true) H _ _).set j ry
          rw [List.set_set, List.set_set, set_self hy, set_self hd] at r1
          exact r1
        refine ⟨L.filter (fun c => !decide (c = d)), ⟨fun c u e n m => e, fun _ _ h => h, fun _ h => h, fun c m => .inl (List.mem_filter.mp m).1⟩, ⟨R.old, R.onn, R.bag, R.a0, R.aq, R.ar, fun c m => R.lf c (List.mem_filter.mp m).1, R.len, ?_⟩⟩
        refine ⟨fun i => if i = 0 then [b] else O i, fun i y hy => ?_, fun i c m => ?_, fun i i' c m m' => ?_, fun i => ?_⟩
        · by_cases hi : i = 0
          · subst hi
            rw [hx] at hy; cases hy
            refine ⟨.ref b, hv, ?_⟩
            have e1 : kd (ks.set 0 .slf) 0 = .slf := by unfold kd; simp [List.getD, (List.getElem?_eq_some_iff.mp hk).1]
            rw [e1]
            exact ⟨b, rfl, rfl, ⟨⟨_, _, rfl⟩, hme⟩, dx, ws, hb, g2, rf⟩
          · obtain ⟨w, hw, kw⟩ := h1 i y hy
            refine ⟨w, hw, ?_⟩
            have e1 : kd (ks.set 0 .slf) i = kd ks i := by unfold kd; simp [List.getD, List.getElem?_set_ne (fun z => hi z.symm)]
            rw [e1]
            show Kr E _ H _ _ _ (if i = 0 then [b] else O i)
            rw [if_neg hi]
            exact kw.mv (fun _ _ h _ _ => h) (fun _ _ h => h) (fun c m => .inl (List.mem_filter.mp m).1) fun _ _ _ h => h
        · by_cases hi : i = 0
          · simp only [if_pos hi] at m
            simp at m
            rw [m]
            exact List.mem_filter.mpr ⟨hbL, by simp [hbd]⟩
          · simp only [if_neg hi] at m
            exact List.mem_filter.mpr ⟨h2 i c m, by simp; intro z; exact hi (h3 i 0 c m (by rw [ho, z]; simp))⟩
        · by_cases hi : i = 0 <;> by_cases hi' : i' = 0
          · rw [hi, hi']
          · simp only [if_pos hi, if_neg hi'] at m m'
            simp at m
            exact absurd (h3 i' 0 c m' (by rw [ho, m]; simp)) hi'
          · simp only [if_neg hi, if_pos hi'] at m m'
            simp at m'
            exact absurd (h3 i 0 c m (by rw [ho, m']; simp)) hi
          · simp only [if_neg hi, if_neg hi'] at m m'; exact h3 i i' c m m'
        · by_cases hi : i = 0
          · simp only [if_pos hi]; simp
          · simp only [if_neg hi]; exact h4 i
      · refine ⟨L, .refl _ _ _, ⟨R.old, R.onn, R.bag, R.a0, R.aq, R.ar, R.lf, R.len, O, fun i y hy => ?_, h2, h3, h4⟩⟩
        by_cases hi : i = 0
        · subst hi; exact absurd ⟨y, hy⟩ hx
        · have e1 : kd (ks.set 0 .slf) i = kd ks i := by unfold kd; simp [List.getD, List.getElem?_set_ne (fun z => hi z.symm)]
          rw [e1]; exact h1 i y hy
    obtain ⟨L1, f1, R1⟩ := this
    exact ⟨E, L1, γ, Dp, hK, R1, hp, fun L2 γ2 σ2 H2 f2 R2 q2 => nx L2 γ2 σ2 H2 (f1.trans f2) R2 q2, rt, fun L2 γ2 σ2 H2 f2 R2 q2 => bk L2 γ2 σ2 H2 (f1.trans f2) R2 q2, fun L2 γ2 σ2 H2 f2 R2 q2 => ct L2 γ2 σ2 H2 (f1.trans f2) R2 q2⟩
end
end Vl
namespace Vl
open PySem PySem.Spec L2 Lb
section
variable {X : Cx} {ks ks' kl : List Kd} {a s a1 s1 a2 s2 : Bool} {e e1 e2 : Expr} {es : List Expr} {p p1 p2 : GE} {pt pt1 pt2 : GT} {pa : GA} {pos : Pos} {st : Stmt}
/-! ### two tests of a comprehension -/
theorem pts_two {c d : Expr} {t u : TT} (h : PT X c t) (h2 : PT X d u) : PTs X [c, d] (fun σ H Q => t σ H fun b H1 => if b = true then u σ H1 Q else Q false H1) := ⟨fun pins s σ H Q I hw => by
  simp only [List.forIn_cons, List.forIn_nil, if_true]
  refine wpAny_bind (wpAny_bind (wpAny_mono (h.run pins s σ H _ I hw) (fun b s1 ⟨H1, I1, q⟩ => ?_) fun _ _ x => x))
  cases b with
  | true =>
    simp only [if_true] at q
    refine wpAny_pure ?_
    simp only [if_true]
    exact wpAny_bind (wpAny_bind (wpAny_mono (h2.run pins s1 σ H1 _ I1 q) (fun b s' hb => wpAny_pure (wpAny_pure hb)) fun _ _ x => x))
  | false =>
    simp only [Bool.false_eq_true, if_false] at q
    refine wpAny_pure ?_
    simp only [Bool.false_eq_true, if_false]
    exact wpAny_bind (wpAny_pure (wpAny_pure ⟨H1, I1, q⟩))⟩
theorem PTsi {ifs : List Expr} {t t' : TT} (h : PTs X ifs t) (i : ∀ σ H Q, t' σ H Q → t σ H Q) : PTs X ifs t' := ⟨fun pins s σ H Q I q => h.run pins s σ H Q I (i _ _ _ q)⟩
theorem qts_two (h1 : QT X ks e1 pt1) (h2 : QT X ks e2 pt2) : QTs X ks [e1, e2] (pAnd pt1 pt2) :=
  PTsi (pts_two h1 h2) fun σ H Q ⟨E, L, γ, Qp, hK, R, hp, k⟩ => by
    refine ⟨E, L, γ, _, hK, R, hp, fun b H1 q1 x1 => ?_⟩
    cases b with
    | true => simp only [if_true]; exact ⟨E, L, γ, Qp, hK, R.ex x1, q1, fun c H2 q2 x2 => k c H2 q2 (x1.trans x2)⟩
    | false => simp only [Bool.false_eq_true, if_false]; exact k false H1 q1 x1
/-! ### new lists -/
def oAddL : PO2
  | .lst xs, .lst ys, Q => xs.length + ys.length ≤ sizeLine ∧ Q (.lst (xs ++ ys))
  | _, _, _ => False
theorem qn_add (h1 : QE X ks true true e1 p1) (h2 : QE X ks true true e2 p2) : QN X ks (.BinOp e1 .Add e2 pos) (pOp oAddL p1 p2) :=
  PEi (pe_op op_addA h1 h2) fun σ H Q ⟨E, L, γ, Qp, hK, R, hp, k⟩ => by
    refine ⟨E, L, γ, _, hK, R, hp, fun x v H1 q1 x1 r1 => ⟨E, L, γ, _, hK, R.ex x1, q1, fun y u H2 q2 x2 r2 => ?_⟩⟩
    have r3 := r1.ex x2 av_q
    clear r1
    cases r3 <;> cases r2 <;> first | exact (q2 : False).elim | skip
    rename_i b vs xs n1 h1 ra c ws ys n2 h2 rb
    exact .inr (.inr ⟨_, _, _, _, rfl, rfl, h1, h2, by rw [← ra.length, ← rb.length]; exact q2.1, fun d nd => k _ d _ q2.2 (x1.trans (x2.trans (.new nd))) ((x1.trans x2).free nd) ⟨_, upd_same, ((ra.append rb).more nd).ex (.new nd) (.inl av_q)⟩⟩)
def pSlL (p : GE) (l u : GO) : GE := fun γ Q => p γ fun x => l γ fun i => u γ fun j => match x with
  | .lst xs => Q (.lst (cutP xs i j))
  | _ => False
theorem qn_sl {lo hi : Option Expr} {pl pu : GO} {q2 : Pos} (h : QE X ks true true e p) (hl : QO X ks lo pl) (hu : QO X ks hi pu) : QN X ks (.Subscript e (.Slice lo hi none q2) pos) (pSlL p pl pu) :=
  PEi (pe_slice sl_list h hl hu) fun σ H Q ⟨E, L, γ, Qp, hK, R, hp, k⟩ => by
    refine ⟨E, L, γ, _, hK, R, hp, fun x v H1 q1 x1 r1 => ⟨E, L, γ, _, hK, R.ex x1, q1, fun i H2 q2 x2 => ⟨E, L, γ, _, hK, (R.ex x1).ex x2, q2, fun j H3 q3 x3 => ?_⟩⟩⟩
    have r3 := (r1.ex x2 av_q).ex x3 av_q
    cases r3 <;> first | exact q3.elim | skip
    rename_i b vs xs n h1 r
    exact ⟨_, _, rfl, .inl (.inl h1), fun c nc => k _ c _ q3 (x1.trans (x2.trans (x3.trans (.new nc)))) ((x1.trans (x2.trans x3)).free nc) ⟨_, upd_same, ((r.cut i j).more nc).ex (.new nc) (.inl av_q)⟩⟩
/-! ### sorted whole numbers -/
def bSorted : PCl
  | [.lst xs], Q => match pInts xs with | some ns => ∀ ns' : List Int, ns'.Perm ns → ns'.Pairwise (· ≤ ·) → Q (.lst (ns'.map PV.int)) | none => False
  | _, _ => False
theorem rp_ints {B : Bg} {A : Addr → Prop} {H : Hp} : ∀ ns : List Int, RpL B A H (ns.map PV.int) (ns.map V.int)
  | [] => .nil
  | n :: ns => .cons (.int n) (rp_ints ns)
theorem sorted_ok {K : Fg} : CallS K (rSortedI K) bSorted := by
  intro B H xs vs Q Qp hK r h k
  match xs, r, h with
  | [_], .cons r .nil, h =>
    cases r <;> first | exact (h : False).elim | skip
    rename_i b ws ys n h1 r1
    have h' : (match pInts ys with | some ns => ∀ ns' : List Int, ns'.Perm ns → ns'.Pairwise (· ≤ ·) → Qp (.lst (ns'.map PV.int)) | none => False) := h
    cases e : pInts ys with
    | none => rw [e] at h'; exact h'.elim
    | some ns =>
      rw [e] at h'
      have ew := ints_ok r1 e
      subst ew
      exact ⟨b, ns, rfl, .inl (.inl h1), fun ns' p hp hs np => k _ _ _ (h' ns' hp hs) (.new np) fun A aq nn => Rp.new (rp_ints ns') aq np nn⟩
  | [], _, h => exact (h : False).elim
  | _ :: _ :: _, .cons r _, h => cases r <;> exact (h : False).elim
end
end Vl
namespace Vl
open PySem PySem.Spec L2 Lb
/-! ### own lists changed by their methods -/
abbrev PLm := List PV → List PV → (List PV → Prop) → Prop
def OwnM (r : V → List V → Hp → VK → Prop) (o : PLm) : Prop := ∀ (B : Bg) (A : Addr → Prop) (H : Hp) (b : Addr) (xs args : List PV) (vs us : List V) (Q : VK) (Kp : List PV → Prop), A b → RpL B A H xs vs → H b = some (.lst vs) → RpL B A H args us → o xs args Kp →
  (∀ ys ws, Kp ys → RpL B A H ys ws → Q .non (upd H b (.lst ws))) → r (.ref b) us H Q
def xOwn (i : Nat) (o : PLm) (t : GA) : GS := fun D γ => getS γ i fun x => match x with | .lst xs => t γ fun ys => o xs ys fun zs => setS γ i (some (.lst zs)) D.nx | _ => False
section
variable {X : Cx} {ks kl : List Kd} {e : Expr} {es : List Expr} {pa : GA} {st : Stmt} {r : V → List V → Hp → VK → Prop} {o : PLm}
theorem xs_own {i : Nat} (ok : OwnM r o) (pe : ∀ {t : TA}, PA X (e :: es) t → PS X st (tDrop (tBM X.K "list" r (tVar i) t))) (h : QA X ks true true (e :: es) pa) (hk : ks[i]? = some .own := by rfl) : QS X ks ks kl st (xOwn i o pa) :=
  PSi (pe h) fun D σ H ⟨E, L, γ, Dp, hK, R, hp, nx, rt, bk, ct⟩ => by
    obtain ⟨x, hx, q⟩ := getS_of hp
    obtain ⟨b, hv, hb, ob, _⟩ := R.upd1 hk hx
    cases x <;> first | exact (q : False).elim | skip
    rename_i xs
    obtain ⟨vs, h1, r1⟩ := ob
    refine ⟨.ref b, hv, .inl ⟨rfl, vs, .inl (.inl h1)⟩, E, L, γ, _, hK, R, q, fun ys us H1 q1 x1 ry _ => ?_⟩
    have R1 := R.ex x1
    obtain ⟨b', hv', hb', ob', up⟩ := R1.upd1 hk hx
    rw [hv] at hv'; cases hv'
    obtain ⟨vs', h1', r1'⟩ := ob'
    have nt : ∀ vs, H1 b ≠ some (.tup vs) := fun z => by rw [h1']; exact nofun
    refine ok E.B (av E L true true) H1 b xs ys vs' us _ _ (.inr (.inr ⟨rfl, hb⟩)) r1' h1' ry q1 fun zs ws kz rz => ?_
    rw [setS_eq] at kz
    exact nx L _ _ _ (Fw.trans x1.fw (.upd hb nt)) (up _ (.lst zs) ⟨ws, upd_same, rz.upL hb nt⟩) kz
theorem xs_own0 {i : Nat} (ok : OwnM r o) (pe : PS X st (tDrop (tBM0 X.K "list" r (tVar i)))) (hk : ks[i]? = some .own := by rfl) : QS X ks ks kl st (xOwn i o pNil) :=
  PSi pe fun D σ H ⟨E, L, γ, Dp, hK, R, hp, nx, rt, bk, ct⟩ => by
    obtain ⟨x, hx, q⟩ := getS_of hp
    obtain ⟨b, hv, hb, ob, up⟩ := R.upd1 hk hx
    cases x <;> first | exact (q : False).elim | skip
    rename_i xs
    obtain ⟨vs, h1, r1⟩ := ob
    have nt : ∀ vs, H b ≠ some (.tup vs) := fun z => by rw [h1]; exact nofun
    refine ⟨.ref b, hv, .inl ⟨rfl, vs, .inl (.inl h1)⟩, ?_⟩
    refine ok E.B (av E L true true) H b xs [] vs [] _ _ (.inr (.inr ⟨rfl, hb⟩)) r1 h1 .nil q fun zs ws kz rz => ?_
    rw [setS_eq] at kz
    exact nx L _ _ _ (.upd hb nt) (up _ (.lst zs) ⟨ws, upd_same, rz.upL hb nt⟩) kz
end
def l_reverse : PLm
  | xs, [], K => K xs.reverse
  | _, _, _ => False
theorem reverse_ok : OwnM rReverse l_reverse := by
  intro B A H b xs args vs us Q Kp _ r h ra q k
  cases ra with
  | nil => exact ⟨b, vs, rfl, rfl, h, k _ _ q r.reverse⟩
  | cons _ _ => exact (q : False).elim
def l_clear : PLm
  | _, [], K => K []
  | _, _, _ => False
theorem clear_ok : OwnM rClear l_clear := by
  intro B A H b xs args vs us Q Kp _ r h ra q k
  cases ra with
  | nil => exact ⟨b, vs, rfl, rfl, h, k _ _ q .nil⟩
  | cons _ _ => exact (q : False).elim
def l_remove : PLm
  | xs, [.int x], K => (match pInts xs with | some ns => x ∈ ns ∧ K ((ns.erase x).map PV.int) | none => False)
  | _, _, _ => False
theorem erase_idx (ns : List Int) (x : Int) (h : x ∈ ns) : ∃ j, ns[j]? = some x ∧ (∀ m : Nat, m < j → ns[m]? ≠ some x) ∧ ns.erase x = ns.eraseIdx j := by
  induction ns with
  | nil => cases h
  | cons y l ih =>
    by_cases hy : y = x
    · subst hy
      exact ⟨0, rfl, fun m hm => by omega, by simp⟩
    · obtain ⟨j, h1, h2, h3⟩ := ih ((List.mem_cons.mp h).resolve_left (Ne.symm hy))
      refine ⟨j + 1, by simpa using h1, fun m hm => ?_, ?_⟩
      · cases m with
        | zero => simp [hy]
        | succ m => simpa using h2 m (by omega)
      · rw [List.erase_cons_tail (by simpa using hy), h3]; rfl
theorem remove_ok : OwnM rRemI l_remove := by
  intro B A H b xs args vs us Q Kp _ r h ra q k
  cases ra with
  | nil => exact (q : False).elim
  | @cons x v args us rx ra =>
    cases ra with
    | cons _ _ => cases rx <;> exact (q : False).elim
    | nil =>
      cases rx <;> first | exact (q : False).elim | skip
      rename_i x
      have q' : (match pInts xs with | some ns => x ∈ ns ∧ Kp ((ns.erase x).map PV.int) | none => False) := q
      cases e : pInts xs with
      | none => rw [e] at q'; exact q'.elim
      | some ns =>
        rw [e] at q'
        have ew := ints_ok r e
        subst ew
        obtain ⟨j, h1, h2, h3⟩ := erase_idx ns x q'.1
        exact ⟨b, ns, x, j, rfl, rfl, h, h1, h2, k _ _ q'.2 (by rw [h3]; exact rp_ints _)⟩
/-! a new list of a list's or tuple's items -/
section
variable {X : Cx} {ks kl : List Kd} {e : Expr} {p : GE} {pa : GA} {pos q : Pos}
theorem qn_listOf (hm : X.mg "list" = none) (hg : Gl X "list") (h : QA X ks true true [e] pa) (hs : starEach [e] X.env = (false, eval e X.env) :: starEach [] X.env := by rfl) (hpl : (backTo pos (starEach [] X.env)).any (·.1) = false := by rfl) : QN X ks (.Call (.Name "list" q) [e] [] pos) (pCB bListOf pa) :=
  PEi (pe_callTy call_list_ofA hg hm (by decide +kernel) h (by decide) (by decide) hs hpl) fun σ H Q ⟨E, L, γ, Qp, hK, R, hp, k⟩ => by
    refine ⟨E, L, γ, _, hK, R, hp, fun xs vs H1 q1 x1 r l => ?_⟩
    rw [← hK]
    match xs, r, q1 with
    | [_], .cons r .nil, h =>
      cases r <;> first | exact (h : False).elim | skip
      · rename_i b vs xs n h1 r
        exact ⟨_, _, rfl, .inl (.inl (.inl h1)), fun p np => k _ p _ h (x1.trans (.new np)) (x1.free np) ⟨_, upd_same, (r.more np).ex (.new np) (.inl av_q)⟩⟩
      · rename_i b vs xs h1 r
        exact ⟨_, _, rfl, .inr h1.sq, fun p np => k _ p _ h (x1.trans (.new np)) (x1.free np) ⟨_, upd_same, (r.more np).ex (.new np) (.inl av_q)⟩⟩
    | [], _, h => exact (h : False).elim
    | _ :: _ :: _, .cons r _, h => cases r <;> exact (h : False).elim
theorem qn_listI {a s : Bool} (hm : X.mg "list" = none) (hg : Gl X "list") (h : QA X ks a s [e] pa) (hs : starEach [e] X.env = (false, eval e X.env) :: starEach [] X.env := by rfl) (hpl : (backTo pos (starEach [] X.env)).any (·.1) = false := by rfl) : QN X ks (.Call (.Name "list" q) [e] [] pos) (pCB bListOfI pa) :=
  PEi (pe_callTy call_list_ofA hg hm (by decide +kernel) h (by decide) (by decide) hs hpl) fun σ H Q ⟨E, L, γ, Qp, hK, R, hp, k⟩ => by
    refine ⟨E, L, γ, _, hK, R, hp, fun xs vs H1 q1 x1 r l => ?_⟩
    rw [← hK]
    match xs, r, q1 with
    | [_], .cons r .nil, h =>
      cases r <;> first | exact (h : False).elim | skip
      · rename_i b vs xs n h1 r
        exact ⟨_, _, rfl, .inl (.inl (.inl h1)), fun p np => k _ p _ h.2 (x1.trans (.new np)) (x1.free np) ⟨_, upd_same, ((r.im h.1).more np).ex (.new np) (.inl av_q)⟩⟩
      · rename_i b vs xs h1 r
        exact ⟨_, _, rfl, .inr h1.sq, fun p np => k _ p _ h.2 (x1.trans (.new np)) (x1.free np) ⟨_, upd_same, ((r.im h.1).more np).ex (.new np) (.inl av_q)⟩⟩
    | [], _, h => exact (h : False).elim
    | _ :: _ :: _, .cons r _, h => cases r <;> exact (h : False).elim
end
end Vl
namespace Vl
open PySem PySem.Spec L2 Lb
/-! ### range(a, b), and from its end; a call that never is made -/
def pRng2 (p q : GE) : GA := fun γ Q => p γ fun x => q γ fun y => match x, y with
  | .int i, .int j => (-(2 ^ 62) ≤ i ∧ i < 2 ^ 62 ∧ -(2 ^ 62) ≤ j ∧ j < 2 ^ 62) ∧ Q (upTo i (j - i).toNat)
  | _, _ => False
def downFrom (i : Int) (n : Nat) : List PV := (List.range n).map fun k => .int (i + (n : Int) - 1 - (k : Nat))
def pRevR2 (p q : GE) : GA := fun γ Q => p γ fun x => q γ fun y => match x, y with
  | .int i, .int j => (-(2 ^ 62) ≤ i ∧ i < 2 ^ 62 ∧ -(2 ^ 62) ≤ j ∧ j < 2 ^ 62) ∧ Q (downFrom i (j - i).toNat)
  | _, _ => False
def pNeverE : GE := fun _ _ => False
section
variable {X : Cx} {ks : List Kd} {a s a2 s2 : Bool} {tg e e2 : Expr} {p p2 : GE} {pos : Pos}
theorem qe_never : QE X ks true true e pNeverE := ⟨fun pins s σ H Q I ⟨E, L, γ, Qp, hK, R, hp, k⟩ => hp.elim⟩
theorem qi_rng2 {q1 : Pos} (hg : Gl X "range") (hm : X.mg "range" = none) (h : QE X ks a s e p) (h2 : QE X ks a2 s2 e2 p2) (hs : starEach [e, e2] X.env = [(false, eval e X.env), (false, eval e2 X.env)] := by rfl) (hs2 : starEach [e2] X.env = [(false, eval e2 X.env)] := by rfl) : QI X ks true tg (.Call (.Name "range" q1) [e, e2] [] pos) (pRng2 p p2) :=
  PIi (pi_range2 hg hm (pa_cons h (pa_cons h2 pa_nil hs2) (by rw [hs, hs2])) hs hs2) fun σ H R ⟨E, L, γ, Qp, hK, Rl, hp, k⟩ => by
    refine ⟨E, L, γ, _, hK, Rl, hp, fun x v H1 q1 x1 r1 => ⟨E, L, γ, _, hK, Rl.ex x1, q1, fun y u H2 q2 x2 r2 => ?_⟩⟩
    cases r1 <;> first | (cases r2 <;> exact (q2 : False).elim) | skip
    cases r2 <;> first | exact (q2 : False).elim | skip
    rename_i i j
    have hl : (upTo i (j - i).toNat).length = (j - i).toNat := by simp [upTo]
    refine ⟨i, j, rfl, q2.1, k _ _ H2 q2.2 (x1.trans x2) ⟨fun _ _ => True, trivial, fun _ _ _ _ _ _ => trivial, fun m L H _ hi => ⟨by show m < (j - i).toNat; omega, fun v H' ⟨e1, e2⟩ => ?_⟩, fun m L H _ hi => by show (j - i).toNat ≤ m; omega⟩⟩
    subst e1; subst e2
    exact ⟨.refl _ _, .int (i + (m : Nat)), by simp [upTo, List.getElem?_map, List.getElem?_range (show m < (j - i).toNat by omega)], .int _⟩
theorem qi_revR2 {q1 q2 p3 : Pos} (h : QE X ks a s e p) (h2 : QE X ks a2 s2 e2 p2)
    (hi : ∀ {t t' : TE}, PE X e t → PE X e2 t' → PI X tg (.Call (.Name "reversed" q1) [.Call (.Name "range" q2) [e, e2] [] p3] [] pos) (iRevR (tRg2 t t'))) : QI X ks true tg (.Call (.Name "reversed" q1) [.Call (.Name "range" q2) [e, e2] [] p3] [] pos) (pRevR2 p p2) :=
  PIi (hi h h2) fun σ H R ⟨E, L, γ, Qp, hK, Rl, hp, k⟩ => by
    refine ⟨E, L, γ, _, hK, Rl, hp, fun x v H1 q1 x1 r1 => ⟨E, L, γ, _, hK, Rl.ex x1, q1, fun y u H2 q2 x2 r2 => ?_⟩⟩
    cases r1 <;> first | (cases r2 <;> exact (q2 : False).elim) | skip
    cases r2 <;> first | exact (q2 : False).elim | skip
    rename_i i j
    have hl : (downFrom i (j - i).toNat).length = (j - i).toNat := by simp [downFrom]
    refine ⟨i, j, rfl, rfl, q2.1.1, q2.1.2.1, q2.1.2.2.1, q2.1.2.2.2, ?_⟩
    refine k _ _ H2 q2.2 (x1.trans x2) ⟨fun _ _ => True, trivial, fun _ _ _ _ _ _ => trivial, fun m L H _ hi => ⟨by show m < (j - i).toNat; omega, fun v H' ⟨e1, e2⟩ => ?_⟩, fun m L H _ hi => by show (j - i).toNat ≤ m; omega⟩
    subst e1; subst e2
    refine ⟨.refl _ _, .int (i + ((j - i).toNat : Int) - 1 - (m : Nat)), by simp [downFrom, List.getElem?_map, List.getElem?_range (show m < (j - i).toNat by omega)], ?_⟩
    have e3 : i + (((j - i).toNat : Nat) : Int) - 1 + ((m : Nat) : Int) * -1 = i + ((j - i).toNat : Int) - 1 - (m : Nat) := by omega
    rw [e3]; exact .int _
end
end Vl
namespace Vl
open PySem PySem.Spec L2 Lb
/-! ### max of a list of whole numbers with default=0 -/
def rMaxF (K : Fg) : List V → List V → Hp → VK → Prop := fun vs zs H Q => ∃ (a : Addr) (ns : List Int), vs = [V.ref a] ∧ zs = [.int 0] ∧ SqL K H a (ns.map V.int) ∧ Q (.int (maxL ns)) H
theorem maxOf_spec : ∀ (xs : List Int) (x : Int), PySem.W.maxOf x xs ∈ x :: xs ∧ ∀ y ∈ x :: xs, y ≤ PySem.W.maxOf x xs
  | [], x => ⟨List.mem_singleton.mpr rfl, fun y hy => by rw [List.mem_singleton.mp hy]; exact Int.le_refl _⟩
  | z :: xs, x => by
    have e : PySem.W.maxOf x (z :: xs) = PySem.W.maxOf (if PySem.W.DatumOrd.lt x z = true then z else x) xs := rfl
    have l : PySem.W.DatumOrd.lt x z = decide (x < z) := rfl
    rw [e, l]
    by_cases h : x < z
    · rw [decide_eq_true h, if_pos rfl]
      have i := maxOf_spec xs z
      refine ⟨List.mem_cons_of_mem _ i.1, fun y hy => ?_⟩
      rcases List.mem_cons.mp hy with rfl | hy
      · exact Int.le_trans (Int.le_of_lt h) (i.2 z (List.mem_cons_self ..))
      · exact i.2 y hy
    · rw [decide_eq_false h, if_neg (by simp)]
      have i := maxOf_spec xs x
      refine ⟨?_, fun y hy => ?_⟩
      · rcases List.mem_cons.mp i.1 with j | j
        · rw [j]; exact List.mem_cons_self ..
        · exact List.mem_cons_of_mem _ (List.mem_cons_of_mem _ j)
      · rcases List.mem_cons.mp hy with rfl | hy
        · exact i.2 _ (List.mem_cons_self ..)
        · rcases List.mem_cons.mp hy with rfl | hy
          · exact Int.le_trans (Int.not_lt.mp h) (i.2 x (List.mem_cons_self ..))
          · exact i.2 y (List.mem_cons_of_mem _ hy)
theorem cr_maxF {X : Cx} (hc : X.calm = true) (hu : X.A.units + 64 < cLine) : CallRK X (.builtin "max") [Str.ofString "default"] (rMaxF X.K) := by
  intro pins s σ H xs zs us ws Q I r r2 h
  obtain ⟨a, ns, rfl, rfl, hs, q⟩ := h
  obtain ⟨its, rv, hl, _⟩ := I.list hs
  rw [Vals.ref1 r]
  cases r2 with
  | cons r3 r4 =>
  cases r4
  obtain ⟨t, rfl⟩ := r3
  have hd : PySem.W.Datum.depth Int = 0 := rfl
  have hA : PySem.W.HoldAll (α := Int) s.heap its.toArray.toList ns := ⟨[], rv.ints.reads s.heap⟩
  refine PySem.W.max_list_datum_default (α := Int) (xs := ns) (I.ok.hd hc) hl.isList hA (by rw [hd]; omega) (fun e h' tk hk => ?_) fun y ys i v h' tk e hi hv hk => ?_
  · subst e
    exact ⟨.int _, H, I.kept hk, ⟨_, rfl⟩, q⟩
  · subst e
    obtain ⟨as, hv⟩ := hv
    obtain ⟨t, rfl⟩ := reads_int hv
    have h1 := maxL_spec (y :: ys) (by simp)
    have h2 := maxOf_spec ys y
    have : PySem.W.maxOf y ys = maxL (y :: ys) := Int.le_antisymm (h1.2 _ h2.1) (h2.2 _ h1.1)
    rw [this]
    exact ⟨.int _, H, I.kept hk, ⟨_, rfl⟩, q⟩
def pMaxF (p : GE) : GE := fun γ Q => p γ fun x => match x with
  | .lst xs => match pInts xs with | some bs => Q (.int (maxL bs)) | none => False
  | _ => False
section
variable {X : Cx} {ks : List Kd} {a s : Bool} {e : Expr} {p : GE} {pos : Pos}
theorem qe_maxF {n z kpos : Pos} {j} {x : Str} (pe : ∀ {t tk : TA}, PA X [e] t → PK X [⟨some "default", .Constant (.int 0) j z, kpos⟩] tk → PE X (.Call (.Name x n) [e] [⟨some "default", .Constant (.int 0) j z, kpos⟩] pos) (tCKw (rMaxF X.K) t tk)) (h : QE X ks a s e p) (hs : starEach [e] X.env = [(false, eval e X.env)] := by rfl) : QE X ks true true (.Call (.Name x n) [e] [⟨some "default", .Constant (.int 0) j z, kpos⟩] pos) (pMaxF p) :=
  PEi (pe (pa_cons h pa_nil hs) (pk_cons pe_int pk_nil)) fun σ H Q ⟨E, L, γ, Qp, hK, R, hp, k⟩ => by
    refine ⟨E, L, γ, _, hK, R, hp, fun x v H1 q1 x1 r1 => ?_⟩
    cases r1 <;> first | exact q1.elim | skip
    rename_i b vs xs n h1 r
    cases ei : pInts xs with
    | none => simp only [ei] at q1
    | some ns =>
      simp only [ei] at q1
      have ew := ints_ok r ei
      subst ew
      exact ⟨b, ns, rfl, rfl, hK ▸ .inl (.inl h1), k _ _ _ q1 x1 (.int _)⟩
end
end Vl
namespace Vl
open PySem PySem.Spec L2 Lb
/-! ### expressions that change own lists -/
abbrev GF := G → (PV → G → Prop) → Prop
def tF (K : Fg) (ks : List Kd) (p : GF) : TE := fun σ H Q => ∃ (E : Ac) (L : List Addr) (γ : G) (Qp : PV → G → Prop), E.B.K = K ∧ Rel E L ks γ σ H ∧ p γ Qp ∧
  ∀ x v γ' H', Qp x γ' → Fw E.B L H L H' → Rel E L ks γ' σ H' → Rp E.B (av E L true true) H' x v → Q v H'
abbrev QF (X : Cx) (ks : List Kd) (e : Expr) (p : GF) : Prop := PE X e (tF X.K ks p)
theorem RpL.split {B : Bg} {A : Addr → Prop} {H : Hp} : ∀ {x y : List PV} {v : List V}, RpL B A H (x ++ y) v → ∃ v1 v2, v = v1 ++ v2 ∧ RpL B A H x v1 ∧ RpL B A H y v2
  | [], _, v, h => ⟨[], v, rfl, .nil, h⟩
  | _ :: x, _, _, .cons a b => by
    obtain ⟨v1, v2, rfl, h1, h2⟩ := RpL.split b
    exact ⟨_ :: v1, v2, rfl, .cons a h1, h2⟩
def xPop (i : Nat) : GF := fun γ Q => getS γ i fun x => match x with | .lst xs => ∃ zs y, xs = zs ++ [y] ∧ setS γ i (some (.lst zs)) (Q y) | _ => False
def xPopAt (i : Nat) (p : GE) : GF := fun γ Q => getS γ i fun x => match x with
  | .lst xs => p γ fun n => ∃ zs y ws, xs = zs ++ y :: ws ∧ (n = .int (zs.length : Nat) ∧ xs.length ≤ sizeLine) ∧ setS γ i (some (.lst (zs ++ ws))) (Q y)
  | _ => False
def pOpF (o : PO2) (a : GE) (b : GF) : GF := fun γ Q => a γ fun x => b γ fun y γ1 => o x y fun z => Q z γ1
def xSetF (i : Nat) (p : GF) : GS := fun D γ => p γ fun x γ1 => setS γ1 i (some x) D.nx
def pAsgF (p : GF) (g : GG) : GS := fun D γ => p γ fun x γ1 => g x γ1 D.nx
def pDropF (p : GF) : GS := fun D γ => p γ fun _ γ1 => D.nx γ1
section
variable {X : Cx} {ks ks' kl : List Kd} {a s a2 s2 : Bool} {tg e e1 e2 : Expr} {p p1 p2 : GE} {pf : GF} {pos : Pos} {st : Stmt} {js : List Nat} {g : GG}
theorem qf_pop {i : Nat} (pe : PE X e (tBM0 X.K "list" rPop (tVar i))) (hk : ks[i]? = some .own := by rfl) : QF X ks e (xPop i) :=
  PEi pe fun σ H Q ⟨E, L, γ, Qp, hK, R, hp, k⟩ => by
    obtain ⟨x, hx, q⟩ := getS_of hp
    obtain ⟨b, hv, hb, ob, up⟩ := R.upd1 hk hx
    cases x <;> first | exact (q : False).elim | skip
    rename_i xs
    obtain ⟨zs, y, rfl, q⟩ := q
    obtain ⟨vs, h1, r1⟩ := ob
    obtain ⟨v1, v2, rfl, r2, r3⟩ := r1.split
    cases r3 with
    | cons r4 r5 =>
    cases r5
    rename_i u
    have nt : ∀ vs, H b ≠ some (.tup vs) := fun z => by rw [h1]; exact nofun
    refine ⟨.ref b, hv, .inl ⟨rfl, _, .inl (.inl h1)⟩, b, _, u, rfl, rfl, h1, by simp, ?_⟩
    rw [List.dropLast_concat]
    rw [setS_eq] at q
    exact k y _ _ _ q (.upd hb nt) (up _ (.lst zs) ⟨v1, upd_same, r2.upL hb nt⟩) (r4.upL hb nt)
theorem qf_popAt {i : Nat} (pe : ∀ {t : TA}, PA X [e1] t → PE X e (tBM X.K "list" rPopAt (tVar i) t)) (h : QE X ks a s e1 p) (hs : starEach [e1] X.env = [(false, eval e1 X.env)] := by rfl) (hk : ks[i]? = some .own := by rfl) : QF X ks e (xPopAt i p) :=
  PEi (pe (pa_cons h pa_nil hs)) fun σ H Q ⟨E, L, γ, Qp, hK, R, hp, k⟩ => by
    obtain ⟨x, hx, q⟩ := getS_of hp
    obtain ⟨b, hv, hb, ob, _⟩ := R.upd1 hk hx
    cases x <;> first | exact (q : False).elim | skip
    rename_i xs
    obtain ⟨vs, h1, r1⟩ := ob
    refine ⟨.ref b, hv, .inl ⟨rfl, vs, .inl (.inl h1)⟩, E, L, γ, _, hK, R, q, fun n u H1 q1 x1 rn => ?_⟩
    obtain ⟨zs, y, ws, rfl, ⟨rfl, hz⟩, q1⟩ := q1
    cases rn
    have R1 := R.ex x1
    obtain ⟨b', hv', hb', ob', up⟩ := R1.upd1 hk hx
    rw [hv] at hv'; cases hv'
    obtain ⟨vs', h1', r1'⟩ := ob'
    obtain ⟨v1, v2, rfl, r2, r3⟩ := r1'.split
    cases r3 with
    | cons r4 r5 =>
    rename_i u v3
    have nt : ∀ vs, H1 b ≠ some (.tup vs) := fun z => by rw [h1']; exact nofun
    have l1 := r2.length
    have l2 : zs.length + ws.length + 1 ≤ sizeLine := by simp at hz; omega
    rw [sizeLine_eq] at l2
    have l3 := r5.length
    refine ⟨b, _, _, zs.length, u, rfl, rfl, h1', by omega, by omega, ?_, ?_, ?_⟩
    · unfold seqIndex?
      rw [if_neg (show ¬ ((zs.length : Nat) : Int) < 0 by omega)]
      rw [if_pos (by simp; omega)]
      simp
    · rw [l1]; simp
    · rw [setS_eq] at q1
      have e : (v1 ++ u :: v3).eraseIdx zs.length = v1 ++ v3 := by rw [l1]; simp [List.eraseIdx_append_of_length_le]
      rw [e]
      exact k y _ _ _ q1 (Fw.trans x1.fw (.upd hb nt)) (up _ (.lst (zs ++ ws)) ⟨v1 ++ v3, upd_same, (r2.upL hb nt).append (r5.upL hb nt)⟩) (r4.upL hb nt)
theorem qf_op {r : R2} {o : PO2} (ho : OpP X.K r o) (pe : ∀ {ta tb : TE}, PE X e1 ta → PE X e2 tb → PE X e (tOp r ta tb)) (h1 : QE X ks true true e1 p1) (h2 : QF X ks e2 pf) : QF X ks e (pOpF o p1 pf) :=
  PEi (pe h1 h2) fun σ H Q ⟨E, L, γ, Qp, hK, R, hp, k⟩ => by
    refine ⟨E, L, γ, _, hK, R, hp, fun x v H1 q1 x1 r1 => ⟨E, L, γ, _, hK, R.ex x1, q1, fun y u γ2 H2 q2 f2 R2 r2 => ?_⟩⟩
    exact ho E.B (av E L true true) H2 x y v u Q _ hK av_q (fun b z => av_nn R2 z) (r1.fw f2) r2 q2 fun z t H' qz x3 rz => k z t γ2 H' qz (Fw.trans x1.fw (Fw.trans f2 x3.fw)) (R2.ex x3) rz
theorem qf_add (h1 : QE X ks true true e1 p1) (h2 : QF X ks e2 pf) : QF X ks (.BinOp e1 .Add e2 pos) (pOpF oAdd p1 pf) := qf_op add_ok (pe_op op_addV) h1 h2
theorem xs_setF {i : Nat} {k : Kd} (pe : ∀ {t : TE}, PE X e t → PS X st (tAsg t (gName i))) (h : QF X ks e pf) (hk : ks[i]? = some k := by rfl) (ht : takes k true true = true := by rfl) : QS X ks ks kl st (xSetF i pf) :=
  PSi (pe h) fun D σ H ⟨E, L, γ, Dp, hK, R, hp, nx, rt, bk, ct⟩ => ⟨E, L, γ, _, hK, R, hp, fun x v γ1 H1 q1 f1 R1 r1 => by
    rw [setS_eq] at q1
    refine nx L _ _ H1 f1 ?_ q1
    have := R1.set (i := i) (takes_ok ht r1) (List.getElem?_eq_some_iff.mp hk).1
    rw [set_same hk] at this; exact this⟩
theorem qs_asgF (pe : ∀ {t : TE} {g : TG}, PE X e t → PG X tg g → PS X st (tAsg t g)) (h : QF X ks e pf) (hg : QG X ks true true js tg g) : QS X ks ks kl st (pAsgF pf g) :=
  PSi (pe h hg) fun D σ H ⟨E, L, γ, Dp, hK, R, hp, nx, rt, bk, ct⟩ => ⟨E, L, γ, _, hK, R, hp, fun x v γ1 H1 q1 f1 R1 r1 => ⟨E, L, γ1, x, _, hK, R1, r1, q1, fun γ2 σ2 q2 R2 _ => nx L γ2 σ2 H1 f1 R2 q2⟩⟩
theorem qs_exprF (h : QF X ks e pf) (hs : swapsWith e none pos.line X.env = pure false := by rfl) : QS X ks ks kl (.Expr e pos) (pDropF pf) :=
  PSi (ps_expr h hs) fun D σ H ⟨E, L, γ, Dp, hK, R, hp, nx, rt, bk, ct⟩ => ⟨E, L, γ, _, hK, R, hp, fun x v γ1 H1 q1 f1 R1 r1 => nx L γ1 σ H1 f1 R1 q1⟩
/-! ### list(range(..)) -/
def pLstRg (p : GE) : GE := fun γ Q => p γ fun x => match x with | .int j => (-(2 ^ 62) ≤ j ∧ j ≤ 2 ^ 24) ∧ Q (.lst (upTo 0 j.toNat)) | _ => False
theorem rpl_rg {B : Bg} {A : Addr → Prop} {H : Hp} (j : Int) : RpL B A H (upTo 0 j.toNat) (rgV 0 j) := by
  unfold upTo rgV
  rw [show j - 0 = j by omega]
  induction (List.range j.toNat) with
  | nil => exact .nil
  | cons i l ih => exact .cons (.int _) ih
theorem qn_lstRg {q1 q2 p3 : Pos} (hc : X.calm = true) (hg : Gl X "list") (hm : X.mg "list" = none) (hg' : Gl X "range") (hm' : X.mg "range" = none) (h : QE X ks a s e p)
    (na : starEach [.Call (.Name "range" q2) [e] [] p3] X.env = (false, eval (.Call (.Name "range" q2) [e] [] p3) X.env) :: starEach [] X.env := by rfl) (hs : starEach [e] X.env = (false, eval e X.env) :: starEach [] X.env := by rfl) :
    QN X ks (.Call (.Name "list" q1) [.Call (.Name "range" q2) [e] [] p3] [] pos) (pLstRg p) :=
  PEi (pe_listRg hc hg hm (prg_1 hg' hm' h hs) na) fun σ H Q ⟨E, L, γ, Qp, hK, R, hp, k⟩ => by
    refine ⟨E, L, γ, _, hK, R, hp, fun x v H1 q1 x1 r1 => ?_⟩
    cases r1 <;> first | exact q1.elim | skip
    rename_i j
    refine ⟨j, rfl, ⟨by decide, by decide, q1.1.1, by omega, by omega⟩, fun b nb => k _ b _ q1.2 (x1.trans (.new nb)) (x1.free nb) ⟨_, upd_same, rpl_rg j⟩⟩
end
end Vl
namespace Vl
open PySem PySem.Spec L2 Lb
/-! ### d.items() of a dict by tuples that nobody else holds -/
theorem frzT2 {X : Cx} {pins : List (Addr × Obj)} {σ : St} {H : Hp} {s : Shared} {d : Addr} {o : Obj} {kvs : List (List Key × V)} (I : Inv X pins σ H s) (h : H d = some (.frz o (.dT kvs))) :
    (d == sysModules) = false ∧ s.heap.get? d = some o ∧ o.ExactDict ∧ ∃ (es : Array DictEntry) (ep : Nat), o.data = .dict es ep ∧ es.size = kvs.length ∧
      ∀ (i : Nat) (k : List Key) (v : V), kvs[i]? = some (k, v) → ∃ (en : DictEntry) (q : Addr), es[i]? = some en ∧ en.key = .ref q ∧ H q = some (.tup (k.map kV)) ∧ RelV v en.val := by
  obtain ⟨hd, z, hs, xs, pr, o', es, ep, ho, hx, hdt, he, _⟩ := I.hok d _ h
  rw [hd] at ho
  cases ho
  have l1 : es.size = xs.length := size_of_entries he
  have l2 : kvs.length = xs.length := Paired.length pr
  refine ⟨hs, hd, hx, es, ep, hdt, by omega, fun i k v e => ?_⟩
  obtain ⟨b, hb, e1, e2, e3⟩ := paired_get pr e
  have q := entry_at he i
  rw [hb] at q
  exact ⟨_, b.2.1, q, rfl, e2, e3⟩
def ItiT (d : Addr) (o : Obj) (kvs : List (List Key × V)) : It :=
  ⟨fun i H => H d = some (.frz o (.dT kvs)) ∧ i < kvs.length, fun i H x H' => ∃ T k v q, kvs[i]? = some (k, v) ∧ x = .ref T ∧ H T = none ∧ H q = some (.tup (k.map kV)) ∧ H' = upd H T (.tup [.ref q, v]), fun i H => H d = some (.frz o (.dT kvs)) ∧ kvs.length ≤ i⟩
theorem in_one {a b : Addr} (h : b ∈ [a]) : b = a := List.mem_singleton.mp h
/-- the dict's rows, as the walk's iterator meets them -/
theorem rows_at {X : Cx} {pins : List (Addr × Obj)} {σ : St} {H : Hp} {s : Shared} {d : Addr} {o : Obj} {es : Array DictEntry} {ep : Nat} {kvs : List (List Key × V)} (I : Inv X pins σ H s) (hod : o.data = .dict es ep) (h : H d = some (.frz o (.dT kvs))) :
    DT.Raw s.heap d es ep ∧ es.size = kvs.length ∧ ∀ (i : Nat) (hi : i < es.size) (k : List Key) (v : V), kvs[i]? = some (k, v) → ∃ q, es[i].key = .ref q ∧ H q = some (.tup (k.map kV)) ∧ RelV v es[i].val := by
  obtain ⟨_, hg, ex, es2, ep2, hdt, n, ent⟩ := frzT2 I h
  cases hod.symm.trans hdt
  refine ⟨⟨o, hg, ex, hod⟩, n, fun i hi k v e => ?_⟩
  obtain ⟨en, q, he, a, b, c⟩ := ent i k v e
  rw [Array.getElem?_eq_getElem hi] at he
  cases he
  exact ⟨q, a, b, c⟩
theorem turn_itemsT {P : Program} {w : World} {K : PySem.W.Frag} {d : Addr} {o : Obj} {es : Array DictEntry} {ep : Nat} {kvs : List (List Key × V)} {elts : List Expr} {kk : Nat} {tpos : Pos} (it : Addr) (hod : o.data = .dict es ep) :
    Turn P w K (.Tuple elts kk tpos) (ItiT d o kvs) [it] it (fun i h => ∃ ok ov, IsItemIter h it d i kvs.length ep ok ov) where
  mem := List.mem_singleton.mpr rfl
  obj := by
    rintro i h ⟨ok, ov, at1⟩ b hb
    cases in_one hb
    exact ⟨_, at1, nofun⟩
  keep := by
    rintro i h h' ⟨ok, ov, at1⟩ k
    exact ⟨ok, ov, k it (List.mem_singleton.mpr rfl) _ at1⟩
  item := by
    rintro X rfl rfl rfl hc i pins s σ H E I off ⟨ok, ov, at1⟩ ⟨hd, hi⟩
    obtain ⟨raw, n, ent⟩ := rows_at I hod hd
    rw [← n] at at1 hi
    obtain ⟨k, v, row⟩ : ∃ k v, kvs[i]? = some (k, v) := ⟨_, _, List.getElem?_eq_getElem (show i < kvs.length by omega)⟩
    obtain ⟨q, ek, hq, rv⟩ := ent i hi k v row
    have below := Heap.lt_size at1
    refine DT.nextI at1 raw hi fun h1 out pair _ same => ⟨_, rfl, wpAny_letOwnedTupleGo_items (s := { s with heap := h1 }) out fun h2 at2 but => ?_⟩
    have pair2 := (but.2 _ (Nat.ne_of_gt below)).trans pair
    have kept : ∀ b ob, b ∉ [it] → s.heap.get? b = some ob → h2.get? b = some ob := fun b ob hb e => by
      have ne : b ≠ it := fun z => hb (by rw [z]; exact List.mem_singleton.mpr rfl)
      exact (but.2 b ne).trans (same b ob ne e)
    have new : ObjOk X.prog X.w (upd H s.heap.objs.size (.tup [.ref q, v])) h2 s.heap.objs.size (.tup [.ref q, v]) :=
      ⟨few (n := 2) (by omega), [es[i].key, es[i].val], .cons ek (.cons rv .nil), _, pair2, rfl, _, rfl⟩
    refine ⟨.ref s.heap.objs.size, _, I.turnedNew (t' := s.toks) (ch := [it]) kept off (Nat.le_refl _) new, rfl, ⟨_, k, v, q, row, rfl, I.hok.fresh (Nat.le_refl _), hq, rfl⟩, ⟨_, _, by rw [← n]; exact at2⟩, fun b hb => ?_⟩
    cases in_one hb
    rw [upd_ne (Nat.ne_of_lt below)]
    exact (off it (List.mem_singleton.mpr rfl)).1
  done := by
    rintro X rfl rfl rfl hc i pins s σ H E I off ⟨ok, ov, at1⟩ ⟨hd, hi⟩
    obtain ⟨raw, n, _⟩ := rows_at I hod hd
    rw [← n] at at1 hi
    obtain ⟨a0, a1, _, a3, a4, a5⟩ := off it (List.mem_singleton.mpr rfl)
    exact DT.endI (I.ok.hd hc) at1 raw hi fun h1 but => ⟨rfl, I.turned (t' := s.toks) (fun b ob hb e => but b ob hb e) a0 a1 a3 a4 a5⟩
  self := by
    rintro A i s Q E ⟨_, _, at1⟩ h
    exact PySem.W.kcp_self at1 h
def iItemsT (td : TE) : TI := fun σ H R => td σ H fun x H1 => ∃ d kvs, x = .ref d ∧ H1 d = some (.dT kvs) ∧ ∀ od, R (ItiT d od kvs) (upd H1 d (.frz od (.dT kvs)))
theorem pi_itemsT {X : Cx} {e : Expr} {td : TE} {apos cpos : Pos} {elts : List Expr} {kk : Nat} {tpos : Pos} (he : PE X e td) (hbase : attributeBase e "items" X.env (eval e X.env) = eval e X.env := by rfl) (hline : (apos.endLine == cpos.line) = true := by rfl) :
    PI X (.Tuple elts kk tpos) (.Call (.Attribute e "items" apos) [] [] cpos) (iItemsT td) := by
  constructor
  intro pins s σ H R I h
  refine wpAny_Call_method hbase rfl hline PySem.F.plainAttrs_dict PySem.F.slot_dict_items PySem.F.type_dict_items (thn (he.run pins s σ H _ I h) ?_)
  rintro u s1 ⟨x, H1, I1, rx, d, kvs, rfl, hd, q⟩
  cases (show u = Value.ref d from rx)
  -- the dict is locked for good: nobody else holds it
  obtain ⟨od, I2⟩ := I1.lock hd (show Mut (some (HO.dT kvs)) from trivial)
  obtain ⟨low, hg, ex, es, ep, hdt, _⟩ := frzT2 I2 upd_same
  obtain ⟨raw, n, _⟩ := rows_at I2 hdt upd_same
  have none1 : ∀ a, Value.ref d = .ref a → ∃ ob, s1.heap.get? a = some ob ∧ ob.dict = none := by
    rintro a ⟨⟩
    exact ⟨od, hg, by first | exact ex.2 | exact ex.2.1⟩
  refine ⟨raw.typeIs, none1, method_meetsIn PySem.F.slot_dict_items PySem.F.entry_dict_items rfl (PySem.evalArgs_none ⟨rfl, raw.typeIs, PySem.F.args_dict_items_1 _, _, DT.meetsItems (es := es) (ep := ep) low, raw, ?_⟩)⟩
  have I3 := I2.kept (h' := s1.heap.push { cls := .type "dict_items", data := .fields #[.ref d] }) (t' := s1.toks) fun b ob z => Heap.get?_push_of_some _ z
  refine DT.iterI ⟨_, Heap.get?_push_size _ rfl, rfl, rfl⟩ (raw.push _) (pi_one (tk := s1.toks) I3 _ (turn_itemsT _ hdt) ⟨.none, .none, ?_⟩ (q od))
  rw [← n]
  exact Heap.get?_push_size _ rfl
def kP : Key → PV
  | .inl i => .int i
  | .inr x => .str x
def itemsP (kvs : List (List Key × PV)) : List PV := kvs.map fun kv => .tup [.tup (kv.1.map kP), kv.2]
def pItems (p : GE) : GA := fun γ Q => p γ fun x => match x with | .dT kvs => Q (itemsP kvs) | _ => False
theorem rp_keys {B : Bg} {A : Addr → Prop} {H : Hp} : ∀ k : List Key, RpL B A H (k.map kP) (k.map kV)
  | [] => .nil
  | .inl i :: k => .cons (.int i) (rp_keys k)
  | .inr x :: k => .cons (.str x) (rp_keys k)
theorem qi_itemsN {X : Cx} {ks : List Kd} {e : Expr} {p : GE} {apos cpos : Pos} {elts : List Expr} {kk : Nat} {tpos : Pos} (h : QN X ks e p) (hbase : attributeBase e "items" X.env (eval e X.env) = eval e X.env := by rfl) (hline : (apos.endLine == cpos.line) = true := by rfl) :
    QI X ks true (.Tuple elts kk tpos) (.Call (.Attribute e "items" apos) [] [] cpos) (pItems p) :=
  PIi (pi_itemsT h hbase hline) fun σ H R ⟨E, L, γ, Qp, hK, Rl, hp, k⟩ => by
    refine ⟨E, L, γ, _, hK, Rl, hp, fun x a H1 q1 x1 na ob => ?_⟩
    cases x <;> first | exact q1.elim | skip
    rename_i kvs
    obtain ⟨ws, h1, h2, h3⟩ := ob
    refine ⟨a, ws, rfl, h1, fun od => ?_⟩
    have nL : a ∉ L := fun z => (Rl.lf a z).2 na
    have nq : a ≠ E.B.q := fun z => Rl.bag.q (by rw [← z]; exact na)
    have hl : kvs.length = ws.length := by have := congrArg List.length h2; simpa using this
    refine k (itemsP kvs) _ _ q1 (Ex.inner x1 na Rl.bag) ⟨fun L H => H a = some (.frz od (.dT ws)) ∧ a ∉ L ∧ RpL E.B (av E L true true) H (kvs.map (·.2)) (ws.map (·.2)), ⟨upd_same, nL, ?_⟩, ?_, ?_, ?_⟩
    · refine h3.mv (fun b o e n => by rw [upd_ne (fun z => n (.inr z))]; exact e) (fun b vs e => by rw [upd_ne (fun z => by rw [z, h1] at e; cases e)]; exact e) fun b z _ => .inl z
    · intro L1 H1 L2 H2 ⟨g1, g2, g3⟩ f
      exact ⟨f.st _ _ g1 g2 nq, fun z => (f.ls a z).elim g2 (fun e => by rw [g1] at e; cases e), g3.fw f⟩
    · intro i L2 H2 ⟨g1, g2, g3⟩ hi
      have hi2 : i < kvs.length := by simpa [itemsP] using hi
      refine ⟨⟨g1, by omega⟩, fun v H3 hy => ?_⟩
      obtain ⟨T, kk, v', q, e1, rfl, nT, hq, rfl⟩ := hy
      refine ⟨.new nT, .tup [.tup (kk.map kP), (kvs[i]).2], ?_, ?_⟩
      · unfold itemsP
        rw [List.getElem?_map, List.getElem?_eq_getElem hi2]
        have e2 : (ws.map (·.1))[i]? = some kk := by rw [List.getElem?_map, e1]; rfl
        rw [← h2, List.getElem?_map, List.getElem?_eq_getElem hi2] at e2
        simp at e2
        simp [e2]
      · have g4 : (kvs.map (·.2))[i]? = some (kvs[i]).2 := by rw [List.getElem?_map, List.getElem?_eq_getElem hi2]; rfl
        obtain ⟨u, hu, ru⟩ := g3.get g4
        rw [List.getElem?_map, e1] at hu
        simp at hu; subst hu
        exact Rp.newT (.cons (.tup (.inl hq) (rp_keys kk)) (.cons ru .nil)) av_q nT
    · intro i L2 H2 ⟨g1, g2, g3⟩ hi
      have hi2 : kvs.length ≤ i := by simpa [itemsP] using hi
      exact ⟨g1, by omega⟩
end Vl
namespace Vl
open PySem PySem.Spec L2 Lb
/-! ### keys: tuples made just now, or held in a slot -/
abbrev GK := G → (List Key → Prop) → Prop
def tK (K : Fg) (ks : List Kd) (p : GK) : TE := fun σ H Q => ∃ (E : Ac) (L : List Addr) (γ : G) (Qp : List Key → Prop), E.B.K = K ∧ Rel E L ks γ σ H ∧ p γ Qp ∧
  ∀ k b H', Qp k → Ex E.B H H' → H' b = some (.tup (k.map kV)) → Q (.ref b) H'
abbrev QKy (X : Cx) (ks : List Kd) (e : Expr) (p : GK) : Prop := PE X e (tK X.K ks p)
def keyQ (xs : List PV) (Q : List Key → Prop) : Prop := match keysOf xs with | some k => Q k | none => False
def kTup (t : GA) : GK := fun γ Q => t γ fun xs => keyQ xs Q
def kVar (j : Nat) : GK := fun γ Q => getS γ j fun x => match x with | .tup xs => keyQ xs Q | _ => False
def pDGetK (p : GE) (pk : GK) : GE := fun γ Q => p γ fun d => pk γ fun k => match d with
  | .dT kvs => (match valP kvs k with | some x => Q x | none => False)
  | _ => False
def pGetKO (i : Nat) (pk : GK) (p : GE) : GE := fun γ Q => getS γ i fun d => match d with
  | .dT kvs => pk γ fun k => p γ fun z => Q ((valP kvs k).getD z)
  | _ => False
def xSetDK (i : Nat) (pk : GK) (e : GE) : GS := fun D γ => e γ fun y => getS γ i fun d => match d with
  | .dT kvs => pk γ fun k => kvs.length < sizeLine ∧ setS γ i (some (.dT (putP kvs k y))) D.nx
  | _ => False
section
variable {X : Cx} {ks kl : List Kd} {a s a1 s1 a2 s2 : Bool} {e e1 e2 e3 o ek : Expr} {es : List Expr} {p p1 p2 : GE} {pa : GA} {pk : GK} {pos tpos apos : Pos} {st : Stmt} {x1 : Nat}
theorem qk_tup (h : QA X ks a s es pa) (hn : es.length ≤ 1000 := by decide) : QKy X ks (.Tuple es x1 pos) (kTup pa) :=
  PEi (pe_tup h) fun σ H Q ⟨E, L, γ, Qp, hK, R, hp, k⟩ => by
    refine ⟨E, L, γ, _, hK, R, hp, fun xs vs H1 q1 x1 r1 l1 => ⟨by rw [← r1.length, l1]; exact few hn, fun b nb => ?_⟩⟩
    unfold keyQ at q1
    cases hy : keysOf xs with
    | none => simp only [hy] at q1
    | some kk =>
      simp only [hy] at q1
      have ek := keys_rp r1 hy
      exact k kk b _ q1 (x1.trans (.new nb)) (by rw [upd_same, ek])
theorem qk_var (j : Nat) (pe : PE X e (tVar j)) (hk : ks[j]? = some .tt := by rfl) : QKy X ks e (kVar j) :=
  PEi pe fun σ H Q ⟨E, L, γ, Qp, hK, R, hp, k⟩ => by
    obtain ⟨x, hx, q⟩ := getS_of hp
    obtain ⟨O, h1, h2, h3, h4⟩ := R.sl
    obtain ⟨v, hv, kr⟩ := h1 j x hx
    rw [getElem?_kd hk] at kr
    obtain ⟨-, b, xs, vs, rfl, rfl, hb, r⟩ := kr
    have q : keyQ xs Qp := q
    unfold keyQ at q
    cases hy : keysOf xs with
    | none => simp only [hy] at q
    | some kk =>
      simp only [hy] at q
      have ek := keys_rp r hy
      exact ⟨.ref b, hv, k kk b H q (.refl _ _) (by rw [hb, ek])⟩
theorem xs_setTT {i : Nat} (pe : ∀ {t : TE}, PE X (.Tuple es x1 pos) t → PS X st (tAsg t (gName i))) (h : QA X ks true true es pa) (hk : ks[i]? = some .tt := by rfl) (hn : es.length ≤ 1000 := by decide) : QS X ks ks kl st (xSet i (pTup pa)) :=
  PSi (pe (pe_tup h)) fun D σ H ⟨E, L, γ, Dp, hK, R, hp, nx, rt, bk, ct⟩ => by
    refine ⟨E, L, γ, _, hK, R, hp, fun xs vs H1 q1 x1 r1 l1 => ⟨by rw [← r1.length, l1]; exact few hn, fun b nb => ?_⟩⟩
    have q1 : setS γ i (some (.tup xs)) Dp.nx := q1
    rw [setS_eq] at q1
    have R1 := (R.ex x1).ex (Ex.new (o := .tup vs) nb)
    have := R1.set (i := i) (k := .tt) (x := .tup xs) (v := .ref b) ⟨rfl, b, xs, vs, rfl, rfl, upd_same, r1.ex (.new nb) av_q⟩ (List.getElem?_eq_some_iff.mp hk).1
    rw [set_same hk] at this
    exact nx L _ _ _ (x1.trans (.new nb)).fw this q1
theorem qe_dgetK (hu : X.A.units + 1 < cLine) (h1 : QE X ks a s o p1) (h2 : QKy X ks ek pk) (hs : NoSl ek := by exact fun _ _ => rfl) : QE X ks a s (.Subscript o ek pos) (pDGetK p1 pk) :=
  PEi (pe_dget hu h1 h2 hs) fun σ H Q ⟨E, L, γ, Qp, hK, R, hp, k⟩ => by
    refine ⟨E, L, γ, _, hK, R, hp, fun x v H1 q1 x1 r1 => ⟨E, L, γ, _, hK, R.ex x1, q1, fun kk b H2 q2 x2 hb => ?_⟩⟩
    have r3 := r1.ex x2 av_q
    cases r3 <;> first | exact (q2 : False).elim | skip
    rename_i d ws kvs ks' xs' vs' hn' hd e1 e2 e3 e4 rl
    cases hx : valP kvs kk with
    | none => simp only [hx] at q2
    | some x =>
      simp only [hx] at q2
      subst e1; subst e3; subst e4
      obtain ⟨v, hv, rv⟩ := val_rp e2.symm rl hx
      exact ⟨d, v, rfl, by rw [← hv]; exact DGet.t hd hb, k _ _ _ q2 (x1.trans x2) rv⟩
theorem qe_getKO (i : Nat) (hu : X.A.units + 1 < cLine) (ho : PE X o (tVar i)) (h2 : QKy X ks ek pk) (h3 : QE X ks true true e p) (m : M2 X o "get" apos ek e pos) (hk : ks[i]? = some .own := by rfl) : QE X ks true true (.Call (.Attribute o "get" apos) [ek, e] [] pos) (pGetKO i pk p) :=
  PEi (pe_dget2 hu ho h2 h3 m) fun σ H Q ⟨E, L, γ, Qp, hK, R, hp, k⟩ => by
    obtain ⟨x, hx, q⟩ := getS_of hp
    obtain ⟨b, hv, hb, ob0, _⟩ := R.upd1 hk hx
    cases x <;> first | exact (q : False).elim | skip
    rename_i kvs
    obtain ⟨ws0, g0, _⟩ := ob0
    refine ⟨.ref b, hv, b, rfl, .inr ⟨ws0, .inl g0⟩, E, L, γ, _, hK, R, q, fun kk bk H2 q2 x2 hbk => ⟨E, L, γ, _, hK, R.ex x2, q2, fun z t H3 q3 x3 rz => ?_⟩⟩
    obtain ⟨b', hv', _, ob, _⟩ := ((R.ex x2).ex x3).upd1 hk hx
    rw [hv] at hv'; cases hv'
    obtain ⟨ws, g1, g2, g3⟩ := ob
    refine ⟨valV ws kk, DGet.t g1 (x3.tp _ _ hbk), ?_⟩
    cases hy : valP kvs kk with
    | some y =>
      obtain ⟨v, hv, rv⟩ := val_rp g2 g3 hy
      rw [hv]
      rw [hy] at q3
      exact k _ _ _ q3 (x2.trans x3) rv
    | none =>
      have hn : valV ws kk = none := by
        have h1 : ∀ {kvs : List (List Key × PV)} {ws : List (List Key × V)}, kvs.map (·.1) = ws.map (·.1) → valP kvs kk = none → valV ws kk = none := by
          intro kvs
          induction kvs with
          | nil => intro ws e _; cases ws with
            | nil => rfl
            | cons _ _ => simp at e
          | cons c kvs ih => intro ws e h; cases ws with
            | nil => simp at e
            | cons d ws =>
              simp only [List.map_cons, List.cons.injEq] at e
              rw [valP_cons] at h
              by_cases hc : c.1 = kk
              · rw [if_pos hc] at h; cases h
              · rw [if_neg hc] at h
                have := ih e.2 h
                unfold valV at this ⊢
                rw [List.find?_cons_of_neg (by simpa [← e.1] using hc)]
                exact this
        exact h1 g2 hy
      rw [hn]
      rw [hy] at q3
      exact k _ _ _ q3 (x2.trans x3) rz
theorem xs_setDK {i : Nat} (pe : ∀ {t : TE} {t' : TE}, PE X e t → PE X ek t' → PS X st (tAsg t (gSub (tVar i) t' rSetD))) (h : QE X ks true true e p) (h3 : QKy X ks ek pk) (hk : ks[i]? = some .own := by rfl) : QS X ks ks kl st (xSetDK i pk p) :=
  PSi (pe h h3) fun D σ H ⟨E, L, γ, Dp, hK, R, hp, nx, rt, bk, ct⟩ => by
    refine ⟨E, L, γ, _, hK, R, hp, fun y u H1 q1 x1 ry => ?_⟩
    obtain ⟨x, hx, q⟩ := getS_of q1
    obtain ⟨b, hv, hb, -, -⟩ := (R.ex x1).upd1 hk hx
    cases x <;> first | exact (q : False).elim | skip
    rename_i kvs
    refine ⟨.ref b, hv, E, L, γ, _, hK, R.ex x1, q, fun kk d H2 q2 x2 hd => ?_⟩
    have R3 := (R.ex x1).ex x2
    obtain ⟨b', hv', hb', ob', up⟩ := R3.upd1 hk hx
    rw [hv] at hv'; cases hv'
    obtain ⟨ws, g1, g2, g3⟩ := ob'
    obtain ⟨q4, q5⟩ := q2
    rw [setS_eq] at q5
    have nt : ∀ vs', H2 b ≠ some (.tup vs') := fun z => by rw [g1]; exact nofun
    have hl : kvs.length = ws.length := by have := congrArg List.length g2; simpa using this
    refine ⟨b, _, rfl, DPut.t (k := kk) g1 hd (by rw [← hl]; exact q4), ?_⟩
    have ryy : Rp E.B (av E L true true) H2 y u := ry.ex x2 av_q
    have pr := put_rp (k := kk) (ryy.upL (o := .dT (putK ws kk u)) hb nt) g2 (g3.upL (o := .dT (putK ws kk u)) hb nt)
    exact nx L _ _ _ (Fw.trans (x1.trans x2).fw (.upd hb nt)) (up _ (.dT (putP kvs kk y)) ⟨_, upd_same, pr.1, pr.2⟩) q5
end
/-! ### d[k] = v of a new dict by tuples -/
theorem d_dictSetT {X : Cx} {pins : List (Addr × Obj)} {σ : St} {H : Hp} {s : Shared} {E : Value → Shared → Prop} {D b : Addr} {kvs : List (List Key × V)} {k : List Key} {v : V} {r : Value} {Q : Unit → Shared → Prop} (hu : X.A.units + 1 < cLine) (I : Inv X pins σ H s) (hD : H D = some (.dT kvs)) (hz : kvs.length < sizeLine)
    (eb : H b = some (.tup (k.map kV))) (rv : RelV v r) (h : ∀ s', Inv X pins σ (upd H D (.dT (putK kvs k v))) s' → Q () s') : wpAny (model X.prog X.w) X.A (dictSet D (.ref b) r) Q E s := by
  obtain ⟨z, hd, xs, rel, dd⟩ := dt_of I.hok hD
  have hzx : xs.length ≤ sizeLine := by rw [← Paired.length rel]; exact z
  have hl : (putK kvs k v).length ≤ sizeLine := by have := length_putK kvs k v; omega
  refine wpAny_dictSet_heap (hsz := hzx) (knd := tupleKind (mixKind X.prog X.w)) (Nat.lt_of_succ_lt hu) (key_of I.hok eb) dd fun h' dd' hs => h _ ?_
  obtain ⟨q, es, ep, hq, h2, h3, h4, _, h5⟩ := dd'
  refine d_write I (by rw [hD]; exact True.intro) hs ⟨q, hq⟩ ⟨hl, hd, _, (rel.put k eb rv).keeps fun c ys ec => ?_, q, es, ep, hq, h2, h3, h4, h5⟩
  rw [upd_ne (ne_of ec hD (fun z => nomatch z))]
  exact ec
/-! ### sorted pairs -/
def pairAt (h : Heap) : Value → Addr × Int × Int
  | .ref t => (match ((h.get? t).map fun o : Obj => o.data : Option Data) with
    | some (Data.seq its _) => (match its.toList with
      | [.int i _, .int j _] => (t, i, j)
      | _ => (t, 0, 0))
    | _ => (t, 0, 0))
  | _ => (0, 0, 0)
theorem stp_pair {X : Cx} {pins : List (Addr × Obj)} {σ : St} {H : Hp} {s : Shared} (I : Inv X pins σ H s) {t : Addr} {i j : Int} (h : STp X.K H t [.int i, .int j]) : ∃ o t1 t2 n, s.heap.get? t = some o ∧ o.cls = .type "tuple" ∧ o.data = .seq #[.int i t1, .int j t2] n := by
  have fin : ∀ {its : List Value}, Vals [V.int i, V.int j] its → ∃ t1 t2, its = [.int i t1, .int j t2] := fun r => by
    cases r with
    | cons a r =>
    cases r with
    | cons b r =>
    cases r
    obtain ⟨t1, rfl⟩ := a
    obtain ⟨t2, rfl⟩ := b
    exact ⟨t1, t2, rfl⟩
  rcases h with h | ⟨o, its, n, hk, hc, hd, _, r⟩
  · obtain ⟨_, l, r, o, ho, hc, n, hd⟩ := (show ObjOk X.prog X.w H s.heap t (.tup [.int i, .int j]) from I.hok t _ h)
    obtain ⟨t1, t2, rfl⟩ := fin r
    exact ⟨o, t1, t2, n, ho, hc, hd⟩
  · obtain ⟨t1, t2, e⟩ := fin r
    refine ⟨o, t1, t2, n, I.kIn t o hk, hc, hd.trans ?_⟩
    obtain ⟨l⟩ := its
    have e : l = _ := e
    rw [e]
theorem pairAt_of {X : Cx} {pins : List (Addr × Obj)} {σ : St} {H : Hp} {s : Shared} (I : Inv X pins σ H s) {t : Addr} {i j : Int} (h : STp X.K H t [.int i, .int j]) : pairAt s.heap (.ref t) = (t, i, j) := by
  obtain ⟨o, t1, t2, n, ho, _, hd⟩ := stp_pair I h
  simp [pairAt, ho, hd]
def leP (x y : Int × Int) : Prop := x.1 < y.1 ∨ (x.1 = y.1 ∧ x.2 ≤ y.2)
def rSortedPS (K : Fg) : List V → Hp → VK → Prop := fun vs H Q => ∃ (a : Addr) (l : List (Addr × Int × Int)), vs = [V.ref a] ∧ SqL K H a (l.map fun x => .ref x.1) ∧ (∀ x ∈ l, STp K H x.1 [.int x.2.1, .int x.2.2]) ∧
  ∀ (l' : List (Addr × Int × Int)) p, l'.Perm l → l'.Pairwise (fun x y => leP x.2 y.2) → H p = none → Q (.ref p) (upd H p (.lst (l'.map fun x => .ref x.1)))
theorem vals_refs : ∀ {l : List (Addr × Int × Int)} {us : List Value}, Vals (l.map fun x => V.ref x.1) us → us = l.map fun x => Value.ref x.1
  | [], _, .nil => rfl
  | x :: l, _, .cons a r => by
    have a : _ = Value.ref x.1 := a
    rw [a, vals_refs r]; rfl
theorem refs_vals : ∀ l : List (Addr × Int × Int), Vals (l.map fun x => V.ref x.1) (l.map fun x => Value.ref x.1)
  | [] => .nil
  | x :: l => .cons rfl (refs_vals l)
theorem cr_sortedPS {X : Cx} : CallR X (.builtin "sorted") (rSortedPS X.K) := by
  intro pins s σ H vs us Q I r h
  obtain ⟨a, l, rfl, hs, hx, q⟩ := h
  have hu := Vals.ref1 r
  subst hu
  obtain ⟨its, rv, pl, hz⟩ := I.list hs
  have e := vals_refs rv
  subst e
  have hp : ∀ x ∈ l, pairAt s.heap (.ref x.1) = x := fun x m => pairAt_of I (hx x m)
  refine SrtO.sorted_pairsO (k := fun u => (pairAt s.heap u).2) pl.isList (by rw [List.length_map] at hz ⊢; exact hz) (fun v hv => ?_) fun h' d out h1 h2 kp hd hn => ?_
  · obtain ⟨x, mx, rfl⟩ := List.mem_map.mp hv
    obtain ⟨o, t1, t2, n, ho, hc, hdd⟩ := stp_pair I (hx x mx)
    exact ⟨x.1, o, t1, t2, n, rfl, ho, hc, by rw [hp x mx]; exact hdd⟩
  · obtain ⟨n, hn⟩ := hn
    have back : ∀ u ∈ out, ∃ x ∈ l, u = Value.ref x.1 := fun u m => by
      obtain ⟨x, mx, rfl⟩ := List.mem_map.mp (h2.perm.mem_iff.mp m)
      exact ⟨x, mx, rfl⟩
    have pm : (out.map (pairAt s.heap)).Perm l := by
      have := h2.perm.map (pairAt s.heap)
      rw [List.map_map] at this
      have e : l.map (pairAt s.heap ∘ fun x => Value.ref x.1) = l := by
        conv => rhs; rw [← List.map_id l]
        exact List.map_congr_left fun x m => hp x m
      rw [e] at this
      exact this
    have eo : (out.map (pairAt s.heap)).map (fun x => Value.ref x.1) = out := by
      rw [List.map_map]
      conv => rhs; rw [← List.map_id out]
      refine List.map_congr_left fun u m => ?_
      obtain ⟨x, mx, rfl⟩ := back u m
      show Value.ref (pairAt s.heap (.ref x.1)).1 = _
      rw [hp x mx]; rfl
    have sz : (out.map (pairAt s.heap)).length ≤ sizeLine := by rw [pm.length_eq]; rw [List.length_map] at hz; exact hz
    refine ⟨.ref d, upd H d (.lst ((out.map (pairAt s.heap)).map fun x => V.ref x.1)), I.laid (t' := s.toks) kp hd ⟨by rw [List.length_map]; exact sz, out, n, ?_, hn⟩, rfl, q _ d pm ?_ (I.hok.fresh hd)⟩
    · have := refs_vals (out.map (pairAt s.heap))
      rw [eo] at this
      exact this
    · rw [List.pairwise_map]
      refine h1.imp fun {u v} hl => ?_
      have := SrtO.lexB_no.mp hl
      unfold leP
      omega
def pPairs : List PV → Option (List (Int × Int))
  | [] => some []
  | .tup [.int i, .int j] :: l => (pPairs l).map ((i, j) :: ·)
  | _ :: _ => none
def pr2 (x : Int × Int) : PV := .tup [.int x.1, .int x.2]
theorem pairs_ok {B : Bg} {A : Addr → Prop} {H : Hp} : ∀ {xs : List PV} {vs : List V} {ns : List (Int × Int)}, RpL B A H xs vs → pPairs xs = some ns → ∃ l : List (Addr × Int × Int), vs = l.map (fun x => .ref x.1) ∧ ns = l.map (·.2) ∧ ∀ x ∈ l, STp B.K H x.1 [.int x.2.1, .int x.2.2]
  | [], _, _, .nil, e => by cases e; exact ⟨[], rfl, rfl, by simp⟩
  | x :: xs, _, ns, .cons r t, e => by
    match x, r, e with
    | .tup [.int i, .int j], .tup h1 h2, e =>
      simp only [pPairs] at e
      cases e2 : pPairs xs with
      | none => rw [e2] at e; cases e
      | some ms =>
        rw [e2] at e; cases e
        obtain ⟨l, e3, e4, e5⟩ := pairs_ok t e2
        cases h2 with
        | cons a b =>
        cases a
        cases b with
        | cons a b =>
        cases a
        cases b
        rename_i ad
        exact ⟨(ad, i, j) :: l, by rw [e3]; rfl, by rw [e4]; rfl, fun x m => by
          rcases List.mem_cons.mp m with rfl | m
          · exact h1
          · exact e5 x m⟩
def bSortedP : PCl
  | [.lst xs], Q => match pPairs xs with | some ns => ∀ ns' : List (Int × Int), ns'.Perm ns → ns'.Pairwise leP → Q (.lst (ns'.map pr2)) | none => False
  | _, _ => False
theorem sortedP_ok {K : Fg} : CallS K (rSortedPS K) bSortedP := by
  intro B H xs vs Q Qp hK r h k
  subst hK
  match xs, r, h with
  | [_], .cons r .nil, h =>
    cases r <;> first | exact (h : False).elim | skip
    rename_i b ws ys n h1 r1
    have h' : (match pPairs ys with | some ns => ∀ ns' : List (Int × Int), ns'.Perm ns → ns'.Pairwise leP → Qp (.lst (ns'.map pr2)) | none => False) := h
    cases e : pPairs ys with
    | none => rw [e] at h'; exact h'.elim
    | some ns =>
      rw [e] at h'
      obtain ⟨l, e1, e2, e3⟩ := pairs_ok r1 e
      subst e1; subst e2
      refine ⟨b, l, rfl, .inl (.inl h1), e3, fun l' p hp hs np => k _ _ _ (h' (l'.map (·.2)) (hp.map _) (by rw [List.pairwise_map]; exact hs)) (.new np) fun A aq nn => ?_⟩
      refine Rp.new (v := l'.map fun x => .ref x.1) ?_ aq np nn
      have e4 : ∀ x ∈ l', STp B.K H x.1 [.int x.2.1, .int x.2.2] := fun x m => e3 x (hp.mem_iff.mp m)
      clear hp hs h' e
      induction l' with
      | nil => exact .nil
      | cons x l' ih => exact .cons (.tup (e4 x (by simp)) (.cons (.int _) (.cons (.int _) .nil))) (ih fun y m => e4 y (by simp [m]))
  | [], _, h => exact (h : False).elim
  | _ :: _ :: _, .cons r _, h => cases r <;> exact (h : False).elim
end Vl
namespace Vl
open PySem PySem.Spec L2 Lb
/-! ### {(..): v} -/
def tOneT (tk tv : TE) : TE := fun σ H Q => ∀ p, H p = none → tPairs [(tk, tv)] σ (upd H p (.dT [])) fun ps H2 => ∃ z b k, ps = [(.ref b, z)] ∧ H2 b = some (.tup (k.map kV)) ∧ H2 p = some (.dT []) ∧ Q (.ref p) (upd H2 p (.dT [(k, z)]))
theorem vv1 {p : V × V} {ws : List (Value × Value)} (h : VV [p] ws) : ∃ q, ws = [q] ∧ RelV p.1 q.1 ∧ RelV p.2 q.2 := by
  cases h with
  | cons r1 r2 => cases r2; exact ⟨_, rfl, r1.1, r1.2⟩
theorem pe_oneT {X : Cx} {ek e : Expr} {pos : Pos} {tk tv : TE} (hu : X.A.units + 1 < cLine) (h1 : PE X ek tk) (h2 : PE X e tv) : PE X (.Dict [some ek] [e] pos) (tOneT tk tv) := by
  refine ⟨fun pins s σ H Q I q => ?_⟩
  have new := I.hok.fresh (Nat.le_refl s.heap.objs.size)
  have I1 := I.laid (a := s.heap.objs.size) (o := .dT []) (h' := s.heap.push { cls := .type "dict", data := .dict #[] }) (t' := s.toks) (fun _ _ q => Heap.get?_push_of_some _ q) (Nat.le_refl _) (dt_empty s.heap I.big)
  refine PySem.wpAny_Dict_any rfl rfl (by simp) (by simp) (thn ((pps_cons h1 h2 pps_nil).run pins _ σ _ _ I1 (q _ new)) fun ws s2 ⟨ps, H2, I2, rel, z, b, k, e, hb, hp, q2⟩ => ?_)
  subst e
  obtain ⟨⟨ck, cv⟩, rfl, ry, rz⟩ := vv1 rel
  have ry : ck = Value.ref b := ry
  subst ry
  show wpAny _ _ (forIn [(Value.ref b, cv)] PUnit.unit _) _ _ _
  rw [List.forIn_cons]
  refine wpAny_bind (wpAny_bind (d_dictSetT hu I2 hp (by rw [sizeLine_eq]; simp) hb rz fun s3 I3 => wpAny_pure (wpAny_pure ?_)))
  exact ⟨.ref s.heap.objs.size, _, I3, rfl, q2⟩
def pOneT (pk : GK) (p : GE) : GE := fun γ Q => pk γ fun k => p γ fun z => imm z = true ∧ Q (.dT [(k, z)])
section
variable {X : Cx} {ks : List Kd} {a s a1 s1 : Bool} {e ek o : Expr} {es : List Expr} {p : GE} {pa : GA} {pk : GK} {pos apos : Pos} {w : Vl.PW} {k n c : Nat} {f : Str} {ps' : List Str} {dvs : List V} {ds : List PV}
theorem qn_oneT (hu : X.A.units + 1 < cLine) (h1 : QKy X ks ek pk) (h2 : QE X ks true true e p) : QN X ks (.Dict [some ek] [e] pos) (pOneT pk p) :=
  PEi (pe_oneT hu h1 h2) fun σ H Q ⟨E, L, γ, Qp, hK, R, hp, k⟩ => fun d nd => by
    have x0 : Ex E.B H (upd H d (.dT [])) := .new nd
    refine ⟨E, L, γ, _, hK, R.ex x0, hp, fun kk b H1 q1 x1 hb => ⟨E, L, γ, _, hK, (R.ex x0).ex x1, q1, fun z t H2 q2 x2 rz => ?_⟩⟩
    have hd : H2 d = some (.dT []) := x2.st _ _ (x1.st _ _ upd_same (fun z => R.bag.q (z ▸ nd))) (fun z => R.bag.q (z ▸ nd))
    refine ⟨t, b, kk, rfl, x2.tp _ _ hb, hd, k _ d _ q2.2 (Ex.inner (x0.trans (x1.trans x2)) nd R.bag) nd ⟨_, upd_same, rfl, ?_⟩⟩
    exact .cons ((rz.im (A' := fun b => av E L true true b ∨ b = d) q2.1).mv (fun c u e n => by rw [upd_ne (fun z => n (.inr z))]; exact e) (fun c u e => by rw [upd_ne (fun z => by rw [z, hd] at e; cases e)]; exact e) (fun c z _ => z)) .nil
/-! methods that tell a new list or dict -/
theorem qn_mth0L {pl : Sem Bool} (cc : CalM X.prog X.w X.K X.mg X.base (clsT c).1 f k ps' (spL n w X.K) dvs) (hd : Dfl X.K ds dvs) (hr : Room k X.A) (ho : QE X ks a1 s1 o p) (hm : (clsT c).2.all (fun g => !decide (g = f)) = true := by decide +kernel) (hn : dvs.length + 1 = n := by rfl)
    (ht : eval (.Call (.Attribute o f apos) [] [] pos) X.env = (do
      let ov ← eval o X.env
      standAt apos.atName
      let (f, first) ← holding [ov] (getMethod ov f pl)
      callWith pos f first (backTo pos (starEach [] X.env)) (backToKw pos (keywordEach [] X.env))) := by rfl) :
    QN X ks (.Call (.Attribute o f apos) [] [] pos) (pMeth c w ds p pNil) :=
  PEi (pe_mth0 cc hr ho ht) fun σ H Q ⟨E, L, γ, Qp, hK, R, hp, k⟩ => by
    refine ⟨E, L, γ, _, hK, R, hp, fun x v H1 q1 x1 r1 => ?_⟩
    have r1' := r1
    cases r1 <;> first | exact q1.elim | skip
    rename_i b dx c' ws xs vs n1 h1 h2 h3 r
    obtain ⟨rfl, q1⟩ := q1
    have R1 := R.ex x1
    have rr : RpL E.B (fun b => b = E.B.q) H1 ((PV.ins c' xs :: []) ++ ds) ((V.ref b :: []) ++ dvs) := by
      have := RpL.cons r1' (hd.b hK (av E L a1 s1) H1)
      exact this.q
    have nn : ∀ b, av E L true true b → H1 b ≠ none := fun b z => av_nn R1 z
    have bg := R1.bag
    refine ⟨b, dx, ws, rfl, by rw [← hK]; exact h1, no_lookup h2 hm, ?_⟩
    clear R R1 r1'
    obtain ⟨⟨K, q, r0⟩, A0, H0, me⟩ := E
    cases hK
    exact ⟨q, r0, _, Qp, by rw [List.length_cons]; exact hn, bg, rr, q1, fun z b H' qz x2 nb ob => k z b H' qz (x1.trans x2) (x1.free nb) (ob.mv (fun _ _ h _ => h) (fun _ _ h => h) (fun c z _ => z.elim (fun z => .inl (nn c z)) .inr) fun _ h => h)⟩
end
/-! great factors -/
def oMulW : PO2
  | .int i, .int j, Q => CMulW i j ∧ Q (.int (i * j))
  | _, _, _ => False
theorem mulW_ok {K : Fg} : OpS K (rI CMulW fun i j => .int (i * j)) oMulW := OpS.cg (o := oIc CMulW fun i j => .int (i * j)) (oic_ok fun _ _ _ _ _ => .int _) fun x y Q h => by cases x <;> cases y <;> exact h
theorem qe_mulW {X : Cx} {ks : List Kd} {a1 s1 a2 s2 : Bool} {e1 e2 : Expr} {p1 p2 : GE} {pos : Pos} (h1 : QE X ks a1 s1 e1 p1) (h2 : QE X ks a2 s2 e2 p2) : QE X ks true true (.BinOp e1 .Mult e2 pos) (pOp oMulW p1 p2) := qe_opS mulW_ok (pe_op op_mulW) h1 h2
/-! a new list or dict told: what stands ahead of the end tells nothing -/
def pSeqL (p q : GS) : GS := fun D γ => p { nx := q D, rt := fun _ _ => False, bk := D.bk, ct := D.ct } γ
theorem ql_consL {X : Cx} {ks ks1 : List Kd} {st : Stmt} {sts : List Stmt} {ps q : GS} (h1 : QS X ks ks1 [] st ps) (h2 : QL X ks1 sts q) : QL X ks (st :: sts) (pSeqL ps q) :=
  PSsi (pss_cons h1 h2) fun D σ H ⟨E, L, γ, Dp, hK, R, hp, n1, n2, n3, rt⟩ =>
    ⟨E, L, γ, { nx := q Dp, rt := fun _ _ => False, bk := Dp.bk, ct := Dp.ct }, hK, R, hp, fun L1 γ1 σ1 H1 f1 R1 q1 => ⟨E, L1, γ1, Dp, hK, R1, q1, n1, n2, n3, rt⟩, fun _ _ _ _ _ z => z.elim, fun _ γ2 _ _ _ _ z => (n2 γ2 z).elim, fun _ γ2 _ _ _ _ z => (n3 γ2 z).elim⟩
end Vl
namespace Vl
open PySem PySem.Spec L2 Lb PySem.Builtin PySem.Builtin.Str
/-! ### x.replace(y, z, 1), y and z unlike written texts: asks that a token is out -/
def cut1 (x y : Str) : List Nat := Builtin.Str.occurrences x y 0 x.length 1
def repl1 (x y z : Str) : Str := if ((cut1 x y).isEmpty || (y.length == 0 && z.length == 0)) = true then x else Builtin.Str.glued z (Builtin.Str.partsBetween x (cut1 x y) y.length)
theorem gives_repl1 (x y z : Str) (t u v w : Tok) (h0 : (u == 0 || v == 0) = false) (huv : (u == v) = false) (hyz : (y == z) = false) (hl : tooLong (x.length + (cut1 x y).length * z.length) = false) :
    Gives (Builtin.«str.replace» ⟨[.str x t, .str y u, .str z v, .int 1 w], []⟩) (if ((cut1 x y).isEmpty || (y.length == 0 && z.length == 0)) = true then .val (.str x t) else .str (Builtin.Str.glued z (Builtin.Str.partsBetween x (cut1 x y) y.length))) := by
  show Gives (if ((cut1 x y).isEmpty || (y.length == 0 && z.length == 0)) = true then (do rule "str.replace.nothing"; ret (.str x t)) else (do
      let same ← isSame (.str y u) (.str z v)
      if same = true then (do rule "str.replace.old-is-new"; ret (.str x t)) else
        if tooLong (x.length + (cut1 x y).length * z.length) = true then unsupported "str.replace:memory" else retStr (Builtin.Str.glued z (Builtin.Str.partsBetween x (cut1 x y) y.length)))) _
  by_cases hc : ((cut1 x y).isEmpty || (y.length == 0 && z.length == 0)) = true
  · rw [if_pos hc, if_pos hc]
    exact .rule (.of_eq rfl)
  · rw [if_neg hc, if_neg hc, isSame_str_other y z u v h0 huv hyz, hl]
    exact .of_eq rfl
theorem cut1_len (x y : Str) : (cut1 x y).length ≤ 1 := StrLaws.occ_length_le x y 0 x.length 1
theorem cut1_at {x y : Str} {k : Nat} (h : k ∈ cut1 x y) : k + y.length ≤ x.length ∧ Builtin.Str.subAt x y k = true := StrLaws.occ_spec x y 0 x.length 1 k h
/-- x with z put for the first y -/
def put1 (x : Str) (k w : Nat) (z : Str) : Str := ⟨x.cps.extract 0 k ++ z.cps ++ x.cps.extract (k + w) x.length⟩
theorem repl1_cases (x y z : Str) (hy : 1 ≤ y.length) : repl1 x y z = x ∨ ∃ k, k + y.length ≤ x.length ∧ Builtin.Str.subAt x y k = true ∧ repl1 x y z = put1 x k y.length z := by
  unfold repl1
  have h1 := cut1_len x y
  match e : cut1 x y, h1 with
  | [], _ => left; rfl
  | [k], _ =>
    right
    have h := cut1_at (x := x) (y := y) (k := k) (by rw [e]; simp)
    refine ⟨k, h.1, h.2, ?_⟩
    rw [if_neg (by simp; intro hz; omega)]
    rfl
theorem put1_len {x : Str} {k w : Nat} {z : Str} (h : k + w ≤ x.length) : (put1 x k w z).length = x.length - w + z.length := by
  unfold put1 Str.length at *
  simp
  omega
theorem repl1_len (x y z : Str) (hy : 1 ≤ y.length) : (repl1 x y z).length ≤ x.length + z.length := by
  rcases repl1_cases x y z hy with h | ⟨k, hk, _, h⟩
  · rw [h]; omega
  · rw [h, put1_len hk]; omega
theorem call_repl1 {prog : Program} {w : World} {A : Around} {E : Value → Shared → Prop} {s : Shared} {x y z : Str} {t u v c : Tok} {Q : Value → Shared → Prop} (hu : u ≠ 0) (hv : v ≠ 0) (huv : u ≠ v) (hyz : (y == z) = false) (hy : 1 ≤ y.length) (hb : x.length + z.length ≤ 16777216)
    (hq : ∀ t' k, Q (.str (repl1 x y z) t') { s with toks := k }) : wpAny (model prog w) A (call (.builtin "str.replace") [.str x t, .str y u, .str z v, .int 1 c]) Q E s := by
  have h1 := cut1_len x y
  have hl : tooLong (x.length + (cut1 x y).length * z.length) = false := by
    have : (cut1 x y).length * z.length ≤ 1 * z.length := Nat.mul_le_mul_right _ h1
    unfold tooLong
    rw [sizeLine_eq]
    exact decide_eq_false (by omega)
  have hlen := repl1_len x y z hy
  refine call_gives PySem.F.slot_str_replace (typeIs_str _ _ _) PySem.F.entry_str_replace (PySem.F.args_str_replace_4 _ _ _ _) (gives_repl1 x y z t u v c (by simp [hu, hv]) (by simp [huv]) hyz hl) ?_
  unfold repl1 at hq hlen
  by_cases hc : ((cut1 x y).isEmpty || (y.length == 0 && z.length == 0)) = true
  · rw [if_pos hc]
    simp only [if_pos hc] at hq
    exact hq t s.toks
  · rw [if_neg hc]
    simp only [if_neg hc] at hq hlen
    exact ⟨by rw [sizeLine_eq]; omega, hq _ _⟩
/-! readings where a token is out -/
section
variable {X : Cx} {ks ks' kl : List Kd} {a s a1 s1 a2 s2 : Bool} {e e1 e2 o : Expr} {es : List Expr} {p p1 p2 : GE} {pa : GA} {ps q : GS} {pos apos cpos c0 c1 c2 : Pos} {st : Stmt} {sts : List Stmt} {y z : Str}
abbrev QET (X : Cx) (ks : List Kd) (a s : Bool) (e : Expr) (p : GE) : Prop := PET X e (tE X.K ks a s p)
abbrev QAT (X : Cx) (ks : List Kd) (a s : Bool) (es : List Expr) (p : GA) : Prop := PAT X es (tA X.K ks a s es.length p)
theorem PETi {t t' : TE} (h : PET X e t) (i : ∀ σ H Q, t' σ H Q → t σ H Q) : PET X e t' := fun pins s σ H Q h0 I q => h pins s σ H Q h0 I (i _ _ _ q)
theorem PATi {t t' : TA} (h : PAT X es t) (i : ∀ σ H Q, t' σ H Q → t σ H Q) : PAT X es t' := fun pos pins s σ H Q h0 I q => h pos pins s σ H Q h0 I (i _ _ _ q)
theorem qet_of (h : QE X ks a s e p) : QET X ks a s e p := CwR.PET.of h
def tRep1 (to : TE) (y z : Str) : TE := fun σ H Q => to σ H fun v H1 => ∃ x, v = .str x ∧ x.length + z.length ≤ 16777216 ∧ Q (.str (repl1 x y z)) H1
theorem pet_rep1 {to : TE} {j0 j1 j2 : Nat} (ho : PE X o to) (hyz : (y == z) = false) (hy : 1 ≤ y.length)
    (hst : backTo pos (starEach [.Constant (.str y) j0 c0, .Constant (.str z) j1 c1, .Constant (.int 1) j2 c2] X.env) = [(false, eval (.Constant (.str y) j0 c0) X.env), (false, eval (.Constant (.str z) j1 c1) X.env), (false, eval (.Constant (.int 1) j2 c2) X.env)])
    (hbase : attributeBase o "replace" X.env (eval o X.env) = eval o X.env) (hline : (apos.endLine == pos.line) = true) :
    PET X (.Call (.Attribute o "replace" apos) [.Constant (.str y) j0 c0, .Constant (.str z) j1 c1, .Constant (.int 1) j2 c2] [] pos) (tRep1 to y z) := by
  intro pins s σ H Q h0 I h
  refine wpAny_Call_method_lateS hbase (by rw [hst]; rfl) hline (wpAny_mono (PySem.wpAny_toks (ho.run pins s σ H _ I h)) ?_ fun _ _ z => z.2)
  rintro v s1 ⟨hk, xv, H1, I1, r1, x, rfl, hb, q⟩
  obtain ⟨tx, rfl⟩ := r1
  refine ⟨"str", "str.replace", PySem.F.plainAttrs_str, PySem.F.slot_str_replace, PySem.F.type_str_replace, typeIs_str _ _ _, (fun _ e => nomatch e), ?_⟩
  rw [hst]
  refine Calls.callWith_builtin rfl (Calls.evalArgs_plain (Calls.spliced_cons (Calls.Constant_str (Calls.spliced_cons (Calls.Constant_str (Calls.spliced_cons ?_))))))
  refine thn (pe_int.run pins _ σ H1 (fun c H2 => c = .int 1 ∧ H2 = H1) (I1.tok (s1.toks + 1 + 1)) ⟨rfl, rfl⟩) ?_
  rintro cv s2 ⟨c, H2, I2, rc, rfl, rfl⟩
  obtain ⟨tc, rfl⟩ := rc
  refine Calls.spliced_nil (call_repl1 (show s1.toks ≠ 0 by omega) (show s1.toks + 1 ≠ 0 by omega) (show s1.toks ≠ s1.toks + 1 by omega) hyz hy hb fun t' k => ⟨.str _, H2, I2.tok k, ⟨t', rfl⟩, q⟩)
def pRep1 (y z : Str) (p : GE) : GE := fun γ Q => p γ fun x => match x with | .str x => x.length + z.length ≤ 16777216 ∧ Q (.str (repl1 x y z)) | _ => False
theorem qet_rep1 {j0 j1 j2 : Nat} (h : QE X ks a s o p) (hyz : (y == z) = false := by decide +kernel) (hy : 1 ≤ y.length := by decide +kernel)
    (hst : backTo pos (starEach [.Constant (.str y) j0 c0, .Constant (.str z) j1 c1, .Constant (.int 1) j2 c2] X.env) = [(false, eval (.Constant (.str y) j0 c0) X.env), (false, eval (.Constant (.str z) j1 c1) X.env), (false, eval (.Constant (.int 1) j2 c2) X.env)] := by rfl)
    (hbase : attributeBase o "replace" X.env (eval o X.env) = eval o X.env := by rfl) (hline : (apos.endLine == pos.line) = true := by rfl) :
    QET X ks true true (.Call (.Attribute o "replace" apos) [.Constant (.str y) j0 c0, .Constant (.str z) j1 c1, .Constant (.int 1) j2 c2] [] pos) (pRep1 y z p) :=
  PETi (pet_rep1 h hyz hy hst hbase hline) fun σ H Q ⟨E, L, γ, Qp, hK, R, hp, k⟩ => by
    refine ⟨E, L, γ, _, hK, R, hp, fun x v H1 q1 x1 r1 => ?_⟩
    cases r1 <;> first | exact q1.elim | skip
    exact ⟨_, rfl, q1.1, k _ _ H1 q1.2 x1 (.str _)⟩
theorem qat_nil : QAT X ks true true [] pNil := PATi pat_nil fun σ H Q ⟨E, L, γ, Qp, hK, R, hp, k⟩ => k [] [] H hp (.refl _ _) .nil rfl
theorem qat_cons (h : QET X ks a1 s1 e p) (t : QAT X ks a2 s2 es pa) (hs : starEach (e :: es) X.env = (false, eval e X.env) :: starEach es X.env := by rfl) (ha : a = (a1 && a2) := by rfl) (hb : s = (s1 && s2) := by rfl) : QAT X ks a s (e :: es) (pCons p pa) := by
  subst ha hb
  exact PATi (pat_cons h t hs) fun σ H Q ⟨E, L, γ, Qp, hK, R, hp, k⟩ => by
    refine ⟨E, L, γ, _, hK, R, hp, fun x v H1 q1 x1 r1 => ⟨E, L, γ, _, hK, R.ex x1, q1, fun xs vs H2 q2 x2 r2 l2 => ?_⟩⟩
    exact k _ _ H2 q2 (x1.trans x2) (.cons ((r1.ex x2 av_q).anti fun c z => av_mono and_l and_l z) (r2.anti fun c z => av_mono and_r and_r z)) (by simp [l2])
theorem qet_lst (h : QAT X ks a s es pa) (hn : es.length ≤ 1000 := by decide) : QET X ks a s (.List es pos) (pLst pa) :=
  PETi (pet_lst h) fun σ H Q ⟨E, L, γ, Qp, hK, R, hp, k⟩ => by
    refine ⟨E, L, γ, _, hK, R, hp, fun xs vs H1 q1 x1 r1 l1 => ⟨by rw [← r1.length, l1]; exact few hn, fun b nb => ?_⟩⟩
    exact k _ _ _ q1 (x1.trans (.new nb)) (Rp.new r1 av_q nb fun c z => av_nn (R.ex x1) z)
theorem pet_ix {r : R2} {ta tb : TE} (hr : IxR X r) (ha : PET X e1 ta) (hb : PE X e2 tb) (hs : PlainIx e2) : PET X (.Subscript e1 e2 pos) (tOp r ta tb) := by
  intro pins s σ H Q h0 I h
  refine PyProof.Rows.Subscript_ (thn (ha pins s σ H _ h0 I h) ?_)
  rintro v s1 ⟨x, H1, I1, rx, h1⟩
  refine thn (hb.run pins s1 σ H1 _ I1 h1) ?_
  rintro u s2 ⟨y, H2, I2, ry, h2⟩
  exact hr e1 e2 pins s2 σ H2 x y v u Q I2 rx ry h2 (hs _ _)
theorem qet_ix (h1 : QET X ks a1 s1 e1 p1) (h2 : QE X ks a2 s2 e2 p2) (hs : PlainIx e2 := by intro _ _; rfl) (ha : a = (a1 && a2) := by rfl) (hb : s = (s1 && s2) := by rfl) : QET X ks a s (.Subscript e1 e2 pos) (pOp oIx p1 p2) := by
  subst ha hb
  exact PETi (pet_ix ix_seq h1 h2 hs) fun σ H Q ⟨E, L, γ, Qp, hK, R, hp, k⟩ => by
    refine ⟨E, L, γ, _, hK, R, hp, fun x v H1 q1 x1 r1 => ⟨E, L, γ, _, hK, R.ex x1, q1, fun y u H2 q2 x2 r2 => ?_⟩⟩
    refine ix_ok E.B (av E L (a1 && a2) (s1 && s2)) H2 x y v u Q Qp hK av_q (fun b z => av_nn ((R.ex x1).ex x2) z) ((r1.ex x2 av_q).anti fun c z => av_mono and_l and_l z)
      (r2.anti fun c z => av_mono and_r and_r z) q2 fun z t H' qz x3 rz => k z t H' qz (x1.trans (x2.trans x3)) rz
theorem qbt_ret (h : QET X ks true s e p) : PSsT X [.Return (some e) pos] (tS X.K ks ks' kl (pRet p)) := by
  intro pins s0 σ H D h0 I ⟨E, L, γ, Dp, hK, R, hp, nx, rt, bk, ct⟩
  refine CwR.psst_one (CwR.pst_ret (te := tE X.K ks true s p) h) pins s0 σ H D h0 I ?_
  exact ⟨E, L, γ, _, hK, R, hp, fun x v H1 q1 x1 r1 => rt x γ v H1 ⟨r1.anti fun c z => .inr (.inl ⟨rfl, z⟩), (R.ex x1).old, (R.ex x1).onn, (R.ex x1).bag⟩ q1⟩
/-! x = "c".m(e): behind it a token is out -/
theorem pss_recv {i j : Nat} {x c name : Str} {id : String} {r : V → List V → Hp → VK → Prop} {ta : TE} {u : TS} {rest : List Stmt} {pos' pos1 : Pos} (hN : X.N.Nodup) (hi : X.N[i]? = some x) (hx : Loc X.env.scope x) (slot : Slot "str" name id) (hty : typeOf (.builtin id) = pure (.type "method_descriptor")) (hm : MtR X id r) (he : PE X e ta) (h2 : PSsT X rest u)
    (hs : swapsWith (.Call (.Attribute (.Constant (.str c) j cpos) name apos) [e] [] pos1) (some (.Name x pos')) pos.line X.env = pure false) (hf : X.fn x = true ∨ X.env.scope.names.lookup x = some .local) (hst : backTo pos1 (starEach [e] X.env) = [(false, eval e X.env)])
    (hbase : attributeBase (.Constant (.str c) j cpos) name X.env (eval (.Constant (.str c) j cpos) X.env) = eval (.Constant (.str c) j cpos) X.env) (hline : (apos.endLine == pos1.line) = true) :
    PSs X (.Assign [.Name x pos'] (.Call (.Attribute (.Constant (.str c) j cpos) name apos) [e] [] pos1) pos :: rest) (tSeq (tAsg (fun σ H Q => ta σ H fun y H1 => r (.str c) [y] H1 Q) (gName i)) u) := by
  refine ⟨fun pins s σ H D I h => wpAny_execs_cons (wpAny_Assign_Name ?_ hs)⟩
  have ev : wpAny (model X.prog X.w) X.A (eval (.Call (.Attribute (.Constant (.str c) j cpos) name apos) [e] [] pos1) X.env) (fun v s1 => s.toks + 1 ≤ s1.toks ∧ EP X pins σ (fun y H1 => u D (σ.set i (some y)) H1) v s1) X.xe s := by
    refine wpAny_Call_method_lateS hbase (by rw [hst]; rfl) hline (Calls.Constant_str ⟨"str", id, PySem.F.plainAttrs_str, slot, hty, typeIs_str _ _ _, (fun _ e => nomatch e), ?_⟩)
    refine wpAny_mono (PySem.wpAny_toks ?_) (fun _ _ q => q) fun _ _ z => z.2
    rw [hst]
    refine Calls.callWith_builtin rfl (Calls.evalArgs_plain (Calls.spliced_cons (thn (he.run pins _ σ H _ (I.tok (s.toks + 1)) h) ?_)))
    rintro v s2 ⟨y, H2, I2, r2, q2⟩
    exact Calls.spliced_nil (hm pins s2 σ H2 (.str c) [y] _ _ _ I2 ⟨_, rfl⟩ (.cons r2 .nil) q2)
  refine wpAny_mono ev ?_ fun _ _ z => z
  rintro v s1 ⟨hk, y, H1, I1, r1, q1⟩
  refine wpAny_mono (PySem.wpAny_toks (store_ok (Q := fun _ s2 => Inv X pins (σ.set i (some y)) H1 s2) I1 hN hi hx r1 (fun _ I2 => I2) hf)) ?_ fun _ _ z => z.2
  rintro _ s2 ⟨hk2, I2⟩
  exact h2 pins s2 _ H1 D (by omega) I2 q1
theorem qb_joinT {i j : Nat} {x c : Str} {k : Kd} {rest : List Stmt} {pos' pos1 : Pos} (hN : X.N.Nodup) (hi : X.N[i]? = some x) (hx : Loc X.env.scope x) (h : QE X ks a s e p) (h2 : PSsT X rest (tS X.K ks ks' kl q)) (hk : ks[i]? = some k := by rfl) (htk : takes k true true = true := by rfl)
    (hs : swapsWith (.Call (.Attribute (.Constant (.str c) j cpos) "join" apos) [e] [] pos1) (some (.Name x pos')) pos.line X.env = pure false := by rfl) (hf : X.fn x = true ∨ X.env.scope.names.lookup x = some .local := by first | exact .inl rfl | exact .inr rfl | assumption) (hst : backTo pos1 (starEach [e] X.env) = [(false, eval e X.env)] := by rfl)
    (hbase : attributeBase (.Constant (.str c) j cpos) "join" X.env (eval (.Constant (.str c) j cpos) X.env) = eval (.Constant (.str c) j cpos) X.env := by rfl) (hline : (apos.endLine == pos1.line) = true := by rfl) :
    QB X ks ks' kl (.Assign [.Name x pos'] (.Call (.Attribute (.Constant (.str c) j cpos) "join" apos) [e] [] pos1) pos :: rest) (pSeq (xSet i (pJoin (pC (.str c)) p)) q) :=
  PSsi (pss_recv hN hi hx PySem.F.slot_str_join PySem.F.type_str_join mt_join h h2 hs hf hst hbase hline) fun D σ H ⟨E, L, γ, Dp, hK, R, hp, nx, rt, bk, ct⟩ => by
    refine ⟨E, L, γ, _, hK, R, hp, fun y u H2 q2 x2 r2 => ?_⟩
    cases r2 <;> first | exact q2.elim | skip
    rename_i b vs xs n h1 r
    cases e : pStrs xs with
    | none => simp only [e] at q2
    | some l =>
      simp only [e] at q2
      refine ⟨c, b, l, rfl, rfl, .inl (.inl (.inl (by rw [h1, strs_ok r e]))), q2.1, ?_⟩
      have q3 := q2.2
      rw [setS_eq] at q3
      have := (R.ex x2).set (i := i) (takes_ok (L := L) (H := H2) (k := k) htk (.str (Txt.join c l))) (List.getElem?_eq_some_iff.mp hk).1
      rw [set_same hk] at this
      exact ⟨E, L, _, Dp, hK, this, q3, fun L2 γ2 σ2 H3 f2 R2 q2 => nx L2 γ2 σ2 H3 (Fw.trans x2.fw f2) R2 q2, rt, fun L2 γ2 σ2 H3 f2 R2 q2 => bk L2 γ2 σ2 H3 (Fw.trans x2.fw f2) R2 q2, fun L2 γ2 σ2 H3 f2 R2 q2 => ct L2 γ2 σ2 H3 (Fw.trans x2.fw f2) R2 q2⟩
end
end Vl
namespace Vl
open PySem PySem.Spec L2 Lb
/-! ### xs[i], xs[j] = .., .. of an own list -/
def ixSet (i : Nat) (p : GE) (y : PV) (γ : G) (Q : G → Prop) : Prop := getS γ i fun x => p γ fun n => match x, n with
  | .lst xs, .int n => (match ixN xs.length n with | some j => setS γ i (some (.lst (xs.set j y))) Q | none => False)
  | _, _ => False
def two (z : PV) (K : PV → PV → Prop) : Prop := match z with
  | .tup [x, y] => K x y
  | _ => False
theorem two_of {K : PV → PV → Prop} : ∀ {z : PV}, two z K → ∃ x y, z = .tup [x, y] ∧ K x y
  | .tup [x, y], h => ⟨x, y, rfl, h⟩
  | .tup [], h => False.elim h
  | .tup [_], h => False.elim h
  | .tup (_ :: _ :: _ :: _), h => False.elim h
  | .non, h => False.elim h
  | .bl _, h => False.elim h
  | .int _, h => False.elim h
  | .str _, h => False.elim h
  | .ty _, h => False.elim h
  | .lst _, h => False.elim h
  | .dK _, h => False.elim h
  | .dT _, h => False.elim h
  | .ins _ _, h => False.elim h
  | .cls _, h => False.elim h
  | .bag, h => False.elim h
def xSwap (i : Nat) (a b p : GE) : GS := fun D γ => p γ fun z => two z fun x y => ixSet i a x γ fun γ1 => ixSet i b y γ1 D.nx
section
variable {X : Cx} {ks kl : List Kd} {a s a1 s1 a2 s2 : Bool} {e ea eb : Expr} {p p1 p2 pa pb : GE} {st : Stmt}
theorem ixSet_ok {i : Nat} {E : Ac} {L : List Addr} {γ : G} {σ : St} {H : Hp} {Q : St → Hp → Prop} {Qp : G → Prop} {y : PV} {u : V} (hK : E.B.K = X.K) (R : Rel E L ks γ σ H) (ry : Rp E.B (av E L true true) H y u) (hp : ixSet i p y γ Qp) (hk : ks[i]? = some .own) (k : ∀ γ' H', Qp γ' → Fw E.B L H L H' → Rel E L ks γ' σ H' → Q σ H') :
    gSub (tVar i) (tE X.K ks a s p) rSetL u σ H Q := by
  obtain ⟨x, hx, q⟩ := getS_of hp
  obtain ⟨b, hv, hb, -, -⟩ := R.upd1 hk hx
  refine ⟨.ref b, hv, E, L, γ, _, hK, R, q, fun n w H2 q2 x2 rn => ?_⟩
  obtain ⟨b', hv', hb', ob', up⟩ := (R.ex x2).upd1 hk hx
  rw [hv] at hv'; cases hv'
  cases x <;> first | exact (q2 : False).elim | skip
  cases rn <;> first | exact (q2 : False).elim | skip
  rename_i xs n
  obtain ⟨vs, h1, r1⟩ := ob'
  have nt : ∀ vs, H2 b ≠ some (.tup vs) := fun z => by rw [h1]; exact nofun
  cases e : ixN xs.length n with
  | none => simp only [e] at q2
  | some j =>
    simp only [e] at q2
    rw [setS_eq] at q2
    exact ⟨b, vs, n, j, rfl, rfl, h1, by rw [← r1.length]; exact e, k _ _ q2 (Fw.trans x2.fw (.upd hb nt)) (up _ (.lst (xs.set j y)) ⟨vs.set j u, upd_same, (r1.upL hb nt).set j ((ry.ex x2 av_q).upL hb nt)⟩)⟩
theorem xs_swap {i : Nat} (pe : ∀ {t ta tb : TE}, PE X e t → PE X ea ta → PE X eb tb → PS X st (tAsg t (gTup X.K 2 (gCons (gSub (tVar i) ta rSetL) (gCons (gSub (tVar i) tb rSetL) gNil))))) (h : QE X ks true true e p) (ha : QE X ks a1 s1 ea pa) (hb : QE X ks a2 s2 eb pb) (hk : ks[i]? = some .own := by rfl) : QS X ks ks kl st (xSwap i pa pb p) :=
  PSi (pe h ha hb) fun D σ H ⟨E, L, γ, Dp, hK, R, hp, nx, rt, bk, ct⟩ => by
    refine ⟨E, L, γ, _, hK, R, hp, fun z v H1 q1 x1 r1 => ?_⟩
    obtain ⟨x, y, rfl, q1⟩ := two_of q1
    cases r1 with
    | tup h1 r =>
    cases r with
    | cons rx r =>
    cases r with
    | cons ry r =>
    cases r
    refine ⟨_, _, rfl, hK ▸ h1.sq, rfl, _, _, rfl, ?_⟩
    refine ixSet_ok hK (R.ex x1) rx q1 hk fun γ1 H2 q2 f2 R2 => ⟨_, _, rfl, ?_⟩
    exact ixSet_ok hK R2 (ry.fw f2) q2 hk fun γ2 H3 q3 f3 R3 => ⟨rfl, nx L γ2 σ H3 (Fw.trans x1.fw (Fw.trans f2 f3)) R3 q3⟩
end
end Vl
namespace Vl
open PySem PySem.Spec L2 Lb
/-! ### x = [.. for ..], a list of one's own -/
theorem Rel.newOwn {ks : List Kd} {E : Ac} {L : List Addr} {γ : G} {σ : St} {H H1 : Hp} {i : Nat} {x : PV} {b : Addr} (R : Rel E L ks γ σ H) (x1 : Ex E.B H H1) (nb : H b = none) (ob : Ob E.B (fun c => av E L true true c ∨ c = b) H1 b x) (hi : i < ks.length) :
    Fw E.B L H (b :: L) H1 ∧ Rel E (b :: L) (ks.set i .own) (γ.set i (some x)) (σ.set i (some (.ref b))) H1 := by
  have hb : H1 b ≠ none := by cases x <;> first | exact (ob : False).elim | (obtain ⟨_, h, _⟩ := ob; rw [h]; exact nofun) | (obtain ⟨_, _, h, _⟩ := ob; rw [h]; exact nofun)
  have R1 := R.more x1 nb hb
  have nL : b ∉ L := fun z => (R.lf b z).2 nb
  refine ⟨.more x1 nb, R.put (i := i) (k := .own) (x := x) (v := .ref b) (O' := [b]) (.more x1 nb) (fun c m _ o e => x1.st c o e (R.lq m)) R1.old R1.bag (fun c h => (List.mem_cons.mp h).elim (fun z => .inr (by rw [z]; exact (R1.lf b (by simp)).1)) .inl) (fun a h => (R1.lf a h).2) (fun _ h => List.mem_cons_of_mem _ h) ⟨b, rfl, rfl, ?_⟩ (fun c m => by simp at m; simp [m]) (by simp) ?_ hi⟩
  · exact ob.mv (fun _ _ h _ => h) (fun _ _ h => h) (fun c z _ => by
      rcases z with z | z | ⟨_, z⟩
      · exact .inl (.inl z)
      · exact .inl (.inr (.inl z))
      · exact (List.mem_cons.mp z).elim .inr fun z => .inl (.inr (.inr ⟨rfl, z⟩))) fun _ h => h
  · intro O h2 h3 h1 j c hj hc m
    simp at hc; subst hc
    exact nL (h2 j c m)
theorem yq_setLcN {X : Cx} {ks kl : List Kd} {st : Stmt} {i : Nat} {tg elt iter : Expr} {ifs : List Expr} {scope : Scope} {own : List (Str × Nat)} {pa : GA} {g : GG} {pt : GT} {p : GE} {a1 : Bool} (pe : ∀ {wi : TI} {g : TG} {tt : TT} {te : TE}, PI X tg iter wi → (∀ (s : Shared) (H : Hp) (C : Addr) (cl : List (Str × Addr)) (fp : List Addr), PG (X.blk s H scope (compEnvC scope cl C X.env) fp) tg g) →
      (∀ (s : Shared) (H : Hp) (C : Addr) (cl : List (Str × Addr)) (fp : List Addr), PTs (X.blk s H scope (compEnvC scope cl C X.env) fp) ifs tt) → (∀ (s : Shared) (H : Hp) (C : Addr) (cl : List (Str × Addr)) (fp : List Addr), PE (X.blk s H scope (compEnvC scope cl C X.env) fp) elt te) → PS X st (tAsg (tLc wi g tt te (own.map (·.2))) (gName i)))
    (hi : QI X ks a1 tg iter pa) (hg : ∀ (s : Shared) (H : Hp) (C : Addr) (cl : List (Str × Addr)) (fp : List Addr), QG (X.blk s H scope (compEnvC scope cl C X.env) fp) ks a1 true (own.map (·.2)) tg g)
    (ht : ∀ (s : Shared) (H : Hp) (C : Addr) (cl : List (Str × Addr)) (fp : List Addr), QTs (X.blk s H scope (compEnvC scope cl C X.env) fp) ks ifs pt) (he : ∀ (s : Shared) (H : Hp) (C : Addr) (cl : List (Str × Addr)) (fp : List Addr), QE (X.blk s H scope (compEnvC scope cl C X.env) fp) ks true true elt p)
    (hik : i < ks.length := by decide) : QS X ks (ks.set i .own) kl st (xSet i (yLc (own.map (·.2)) pa g pt p)) := by
  rw [yLc_eq, xSet_eq, xLc_eq]
  refine PSi (pe hi hg ht he) fun D σ H ⟨E, L, γ, Dp, hK, R, hp, nx, rt, bk, ct⟩ => lc_ok hK R hp (fun _ h => h) fun ys acc D H1 q1 x1 n h r => ?_
  have := R.newOwn (i := i) (x := .lst ys) (b := D) x1 n ⟨acc, h, r.mv (fun _ _ h _ => h) (fun _ _ h => h) fun c z _ => ?_⟩ hik
  · exact nx (D :: L) _ _ H1 this.1 this.2 q1
  · rcases z with z | z
    · exact av_cons z
    · exact .inr (.inr ⟨rfl, by rw [z]; simp⟩)
end Vl
namespace Vl
open PySem PySem.Spec L2 Lb
/-! ### k in d, d by tuples; x in l, of any data -/
theorem units65 {k : Nat} {A : Around} (r : Room k A) : A.units + 65 < cLine := by have := r.un; omega
def pInK (neg : Bool) (pk : GK) (p : GE) : GT := fun γ Q => pk γ fun k => p γ fun d => match d with
  | .dT kvs => Q (if neg then !(valP kvs k).isSome else (valP kvs k).isSome)
  | _ => False
theorem val_some {kk : List Key} : ∀ {kvs : List (List Key × PV)} {ws : List (List Key × V)}, kvs.map (·.1) = ws.map (·.1) → (valV ws kk).isSome = (valP kvs kk).isSome
  | [], [], _ => rfl
  | [], _ :: _, e => by simp at e
  | _ :: _, [], e => by simp at e
  | c :: kvs, d :: ws, e => by
    simp only [List.map_cons, List.cons.injEq] at e
    have ih := val_some (kk := kk) e.2
    unfold valV valP at *
    by_cases hc : c.1 = kk
    · rw [List.find?_cons_of_pos (by simpa [← e.1] using hc), List.find?_cons_of_pos (by simpa using hc)]; rfl
    · rw [List.find?_cons_of_neg (by simpa [← e.1] using hc), List.find?_cons_of_neg (by simpa using hc)]; exact ih
section
variable {X : Cx} {ks : List Kd} {a s a1 s1 a2 s2 : Bool} {e ek e1 e2 : Expr} {p p1 p2 : GE} {pk : GK} {pos : Pos}
theorem qt_inK (hu : X.A.units + 1 < cLine) (h1 : QKy X ks ek pk) (h2 : QE X ks a s e p) (hm : behindInMarks .In e = false := by rfl) : QT X ks (.Compare ek [.In] [e] pos) (pInK false pk p) :=
  PTi (pt_cmp (pc_din hu h1 h2) hm) fun σ H Q ⟨E, L, γ, Qp, hK, R, hp, k⟩ => by
    refine ⟨E, L, γ, _, hK, R, hp, fun kk b H1 q1 x1 hb => ⟨E, L, γ, _, hK, R.ex x1, q1, fun x v H2 q2 x2 r2 => ?_⟩⟩
    cases r2 <;> first | exact (q2 : False).elim | skip
    rename_i d ws kvs ks' xs' vs' hn' hd e1 e2 e3 e4 rl
    exact ⟨d, _, rfl, DGet.t hd (x2.tp _ _ hb), _, rfl, k _ _ (by rw [val_some (e1.trans e2.symm)]; exact q2) (x1.trans x2)⟩
theorem qt_notInK (hu : X.A.units + 1 < cLine) (h1 : QKy X ks ek pk) (h2 : QE X ks a s e p) (hm : behindInMarks .NotIn e = false := by rfl) : QT X ks (.Compare ek [.NotIn] [e] pos) (pInK true pk p) :=
  PTi (pt_cmp (pc_dnotin hu h1 h2) hm) fun σ H Q ⟨E, L, γ, Qp, hK, R, hp, k⟩ => by
    refine ⟨E, L, γ, _, hK, R, hp, fun kk b H1 q1 x1 hb => ⟨E, L, γ, _, hK, R.ex x1, q1, fun x v H2 q2 x2 r2 => ?_⟩⟩
    cases r2 <;> first | exact (q2 : False).elim | skip
    rename_i d ws kvs ks' xs' vs' hn' hd e1 e2 e3 e4 rl
    exact ⟨d, _, rfl, DGet.t hd (x2.tp _ _ hb), _, rfl, k _ _ (by rw [val_some (e1.trans e2.symm)]; exact q2) (x1.trans x2)⟩
end
def oInDp (neg : Bool) : PO2
  | x, .lst ys, Q => dat 8 x = true ∧ dat 8 (.lst ys) = true ∧ Q (.bl (if neg then !ys.any (fun y => peq y x) else ys.any fun y => peq y x))
  | _, _, _ => False
theorem any_toD (x : PV) : ∀ ys : List PV, (toDs ys).any (fun z => PyData.eqv z (toD x)) = ys.any fun y => peq y x
  | [] => rfl
  | y :: ys => by rw [toDs, List.any_cons, List.any_cons, any_toD x ys]; rfl
theorem inDp_ok {K : Fg} : OpS K (rInD K) (oInDp false) := by
  intro B H x y v u Q Qp hK rx ry h k
  subst hK
  cases y <;> first | exact (h : False).elim | skip
  rename_i ys
  obtain ⟨h1, h2, h3⟩ := h
  have d2 := dat_dp 8 ry h2
  have s2 := dat_sh h2
  rw [toD] at d2 s2
  exact ⟨_, _, dat_dp 8 rx h1, d2, dat_sh h1, s2, by rw [any_toD]; exact k _ _ H h3 (.refl _ _) fun A => .bl _⟩
theorem notInDp_ok {K : Fg} : OpS K (rNotInD K) (oInDp true) := by
  intro B H x y v u Q Qp hK rx ry h k
  subst hK
  cases y <;> first | exact (h : False).elim | skip
  rename_i ys
  obtain ⟨h1, h2, h3⟩ := h
  have d2 := dat_dp 8 ry h2
  have s2 := dat_sh h2
  rw [toD] at d2 s2
  exact ⟨_, _, dat_dp 8 rx h1, d2, dat_sh h1, s2, by rw [any_toD]; exact k _ _ H h3 (.refl _ _) fun A => .bl _⟩
section
variable {X : Cx} {ks : List Kd} {a s a1 s1 a2 s2 : Bool} {e ek e1 e2 : Expr} {p p1 p2 : GE} {pos : Pos}
theorem qt_inDp (hu : X.A.units + 65 < cLine) (h1 : QE X ks a1 s1 e1 p1) (h2 : QE X ks a2 s2 e2 p2) (hm : behindInMarks .In e2 = false := by rfl) : QT X ks (.Compare e1 [.In] [e2] pos) (pTest (pOp (oInDp false) p1 p2)) := qt_opS inDp_ok (fun x y => pt_cmpR (op_inD hu) x y hm) h1 h2
theorem qt_notInDp (hu : X.A.units + 65 < cLine) (h1 : QE X ks a1 s1 e1 p1) (h2 : QE X ks a2 s2 e2 p2) (hm : behindInMarks .NotIn e2 = false := by rfl) : QT X ks (.Compare e1 [.NotIn] [e2] pos) (pTest (pOp (oInDp true) p1 p2)) := qt_opS notInDp_ok (fun x y => pt_cmpR (op_notInD hu) x y hm) h1 h2
end
end Vl
namespace Vl
open PySem PySem.Spec L2 Lb
/-! ### d[t], d by tuples, t any tuple that is held -/
theorem key_st {X : Cx} {pins : List (Addr × Obj)} {σ : St} {H : Hp} {s : Shared} (I : Inv X pins σ H s) {b : Addr} {k : List Key} (h : STp X.K H b (k.map kV)) : (tupleKind (mixKind X.prog X.w)).is s.heap k b := by
  rcases h with h | ⟨o, its, n, hk, hc, hd, _, r⟩
  · exact key_of I.hok h
  · exact ⟨o, its, n, I.kIn b o hk, hc, hd, items_are r⟩
def tGetS (K : Fg) (td ty : TE) : TE := fun σ H Q => td σ H fun x H1 => ty σ H1 fun y H2 => ∃ a b kvs k v, x = .ref a ∧ y = .ref b ∧ H2 a = some (.dT kvs) ∧ STp K H2 b (k.map kV) ∧ valV kvs k = some v ∧ Q v H2
theorem pe_getS {X : Cx} {o i : Expr} {pos : Pos} {td ty : TE} (hu : X.A.units + 1 < cLine) (ho : PE X o td) (hi : PE X i ty) (hs : NoSl i) : PE X (.Subscript o i pos) (tGetS X.K td ty) :=
  ⟨fun pins s σ H Q I h => subD_of PySem.F.slot_dict_getitem.lookup hs (thn (ho.run pins s σ H _ I h) fun u s1 ⟨x, H1, I1, rx, q1⟩ => thn (hi.run pins s1 σ H1 _ I1 q1) fun w s2 ⟨y, H2, I2, ry, a, b, kvs, k, v, ex, ey, ea, eb, ev, q2⟩ => by
    subst ex; subst ey
    obtain rfl : u = Value.ref a := rx
    obtain rfl : w = Value.ref b := ry
    obtain ⟨_, _, xs, rel, dd⟩ := dt_of I2.hok ea
    have rv := rel.val k
    rw [ev] at rv
    obtain ⟨z, hz, rz⟩ := RelO.some_of rv
    obtain ⟨p, hp, e⟩ := Option.map_eq_some_iff.mp hz
    subst e
    exact ⟨dd.typeIs, wpAny_getItem_heap (tupleKind_room_in1 hu) (key_st I2 eb) dd hp ⟨v, H2, I2.tok _, rz, q2⟩⟩)⟩
def pDGetS (p q : GE) : GE := fun γ Q => p γ fun d => q γ fun y => match d, y with
  | .dT kvs, .tup xs => keyQ xs fun k => match valP kvs k with | some x => Q x | none => False
  | _, _ => False
theorem qe_dgetS {X : Cx} {ks : List Kd} {a s a2 s2 : Bool} {o e : Expr} {p q : GE} {pos : Pos} (hu : X.A.units + 1 < cLine) (h1 : QE X ks a s o p) (h2 : QE X ks a2 s2 e q) (hs : NoSl e := by exact fun _ _ => rfl) : QE X ks a s (.Subscript o e pos) (pDGetS p q) :=
  PEi (pe_getS hu h1 h2 hs) fun σ H Q ⟨E, L, γ, Qp, hK, R, hp, k⟩ => by
    refine ⟨E, L, γ, _, hK, R, hp, fun x v H1 q1 x1 r1 => ⟨E, L, γ, _, hK, R.ex x1, q1, fun y u H2 q2 x2 r2 => ?_⟩⟩
    have r3 := r1.ex x2 av_q
    cases r3 <;> first | exact (q2 : False).elim | skip
    rename_i d ws kvs ks' xs' vs' hn' hd e1 e2 e3 e4 rl
    cases r2 <;> first | exact (q2 : False).elim | skip
    rename_i b us ys st ru
    have q2 : keyQ ys fun k => match valP kvs k with | some x => Qp x | none => False := q2
    unfold keyQ at q2
    cases hy : keysOf ys with
    | none => simp only [hy] at q2
    | some kk =>
      simp only [hy] at q2
      have ek := keys_rp ru hy
      subst ek
      cases hx : valP kvs kk with
      | none => simp only [hx] at q2
      | some z =>
        simp only [hx] at q2
        subst e1; subst e3; subst e4
        obtain ⟨v, hv, rv⟩ := val_rp e2.symm rl hx
        exact ⟨d, b, ws, kk, v, rfl, rfl, hd, by rw [← hK]; exact st, hv, k _ _ _ q2 (x1.trans x2) rv⟩
end Vl
namespace Vl
open PySem PySem.Spec PyProof.Rows L2 Lb
/-! ### a comprehension's clause, whatever is done with its items -/
def clauseT (ce : Expr) (i : Nat) (it acc : Value) (env : Env) (tg iter : Expr) (ifs : List Expr) (B : Sem PySem.Fin) : Sem PySem.Fin := do
  standAt iter.pos
  match ← pyNext it with
  | none => pure (.done .next)
  | some v =>
    letOwnedTupleGo tg it v
    assign tg env v
    let mut ok := true
    for c in ifs do
      if ok then ok ← isTrue c env (eval c env)
    if ok then B else again (.compLoop ce i it acc env)
structure Clause (prog : Program) (w : World) (A : Around) (ce : Expr) (i : Nat) (it acc : Value) (env : Env) (tg iter : Expr) (ifs : List Expr) (B : Sem PySem.Fin) : Prop where
  quiet : (Code.compLoop ce i it acc env).quiet = true
  den : (model prog w).den (.compLoop ce i it acc env) = (compTurn ce i it acc env).onRaise (fun x => do noteFrame x env; theTreesLotGoes x)
  under : A.under (.compLoop ce i it acc env) = A
  turn : compTurn ce i it acc env = clauseT ce i it acc env tg iter ifs B
/-- what a body tells of the state behind it -/
def PBody (X : Cx) (vs : List Nat) (c : Code) (B : Sem PySem.Fin) (tb : L2.St → Hp → (Hp → Prop) → Prop) : Prop :=
  ∀ pins s σ H (N : Hp → Prop), Inv X pins σ H s → tb σ H N → wpAny (model X.prog X.w) X.A B (fun f s' => f = .again c ∧ ∃ σ' H', Inv X pins σ' H' s' ∧ wipe σ' vs = wipe σ vs ∧ N H') (fun _ _ => False) s
def tClause (J : It) (g : TG) (tt : TT) (tb : L2.St → Hp → (Hp → Prop) → Prop) (vs : List Nat) (σ0 : L2.St) (H : Hp) (Qd : Hp → Prop) : Prop :=
  ∃ W : Nat → Nat → Hp → Prop, (∃ m, W 0 m H) ∧ ∀ j m H, W j m H → (J.stop j H ∧ Qd H) ∨ (J.go j H ∧ ∃ N : Hp → Prop, (∀ H', N H' → ∃ m', m' < m ∧ W (j + 1) m' H') ∧
    ∀ x H', J.yld j H x H' → g x σ0 H' fun σ2 H2 => wipe σ2 vs = σ0 ∧ tt σ2 H2 fun b H3 => if b = true then tb σ2 H3 N else N H3)
theorem clause_run {X : Cx} (hc : X.calm = true) (hx : X.xe = fun _ _ => False) {ce : Expr} {i : Nat} {it : Addr} {acc : Value} {tg iter : Expr} {ifs : List Expr} {B : Sem PySem.Fin} {fp : List Addr} {tn : Nat → Heap → Prop} {J : It}
    (C : Clause X.prog X.w X.A ce i (.ref it) acc X.env tg iter ifs B) (T : Turn X.prog X.w X.K tg J fp it tn) {g : TG} {tt : TT} (pg : PG X tg g) (pt : PTs X ifs tt) {tb : L2.St → Hp → (Hp → Prop) → Prop} {vs : List Nat} {σ0 : L2.St} (pb : PBody X vs (.compLoop ce i (.ref it) acc X.env) B tb)
    {pins : List (Addr × Obj)} {Qd : Hp → Prop} {s : Shared} {H : Hp} (I : Inv X pins σ0 H s) (st : tn 0 s.heap) (ff : ∀ b ∈ fp, FpOk X pins H b) (q : tClause J g tt tb vs σ0 H Qd) :
    codeAny (model X.prog X.w) X.A (.compLoop ce i (.ref it) acc X.env) (fun r s' => r = .ok .next ∧ ∃ H', Inv X pins σ0 H' s' ∧ Qd H') s := by
  obtain ⟨W, ⟨m0, w0⟩, turn⟩ := q
  have keepF : ∀ {H' : Hp}, (∀ b ∈ fp, H' b = none) → ∀ b ∈ fp, FpOk X pins H' b := fun hn b hb => ⟨hn b hb, (ff b hb).2⟩
  refine codeAny_loop C.quiet (fun n s' => ∃ j H', Inv X pins σ0 H' s' ∧ tn j s'.heap ∧ (∀ b ∈ fp, H' b = none) ∧ W j n H') (fun n s5 hI => ?_) m0 ⟨0, H, I, st, fun b hb => (ff b hb).1, w0⟩
  rw [C.den, C.under]
  refine wpAny_noted ?_
  rw [C.turn]
  obtain ⟨j, H5, I5, st5, n5, w5⟩ := hI
  have f5 := keepF n5
  unfold clauseT
  refine wpAny_bind (wpAny_standAt (wpAny_bind ?_))
  rcases turn j n H5 w5 with ⟨stop, qd⟩ | ⟨go, N, hN, body⟩
  · refine thnF (T.done X rfl rfl rfl hc j pins s5 σ0 H5 _ I5 f5 st5 stop) fun r s6 hr => ?_
    obtain ⟨rfl, I6⟩ := hr
    exact wpAny_pure ⟨rfl, H5, I6, qd⟩
  · refine thnF (T.item X rfl rfl rfl hc j pins s5 σ0 H5 _ I5 f5 st5 go) fun r s6 hr => ?_
    obtain ⟨u, rfl, hu⟩ := hr
    refine wpAny_bind (thnF hu fun _ s7 hy => ?_)
    obtain ⟨x, H7, I7, rx, y7, st7, n7⟩ := hy
    have P7 := I7.pinned (keepF n7) (T.obj _ _ st7)
    have gr := pg.run _ s7 σ0 H7 x u _ P7 rx (body x H7 y7)
    rw [hx] at gr
    refine wpAny_bind (thnF gr fun _ s8 h8 => ?_)
    obtain ⟨σ8, H8, I8, e8, q8⟩ := h8
    have tr := pt.run _ s8 σ8 H8 _ I8 q8
    rw [hx] at tr
    refine wpAny_bind (thnF tr fun b s9 h9 => ?_)
    obtain ⟨H9, I9, q9⟩ := h9
    -- behind the item
    have back : ∀ {σ' : L2.St} {H' : Hp} {s' : Shared}, Inv X (pins ++ pinsAt fp s7.heap) σ' H' s' → wipe σ' vs = wipe σ8 vs → N H' → ∃ m, m < n ∧ ∃ j H', Inv X pins σ0 H' s' ∧ tn j s'.heap ∧ (∀ b ∈ fp, H' b = none) ∧ W j m H' := by
      intro σ' H' s' I' e' nx
      obtain ⟨m', hm, w'⟩ := hN H' nx
      have pin' : ∀ b ∈ fp, ∀ o, s7.heap.get? b = some o → s'.heap.get? b = some o ∧ H' b = none := by
        intro b hb o e
        have z := I'.pin (b, o) (List.mem_append_right _ (List.mem_append_right _ (mem_pinsAt hb e)))
        exact ⟨z.1, z.2.1⟩
      have e0 : wipe σ' vs = σ0 := e'.trans e8
      refine ⟨m', hm, j + 1, H', I'.unpinned.weak ?_ ?_, T.keep _ _ _ st7 fun b hb o e => (pin' b hb o e).1, ?_, w'⟩
      · rw [← e0, wipe_length]
      · intro k v e
        rw [← e0] at e
        exact (wipe_some e).1
      · intro b hb
        obtain ⟨o, e, _⟩ := T.obj _ _ st7 b hb
        exact (pin' b hb o e).2
    cases b with
    | false =>
      exact wpAny_pure ⟨rfl, back I9 rfl (by simpa using q9)⟩
    | true =>
      refine thnF (pb _ s9 σ8 H9 N I9 (by simpa using q9)) fun f s10 h10 => ?_
      obtain ⟨rfl, σ', H', I', e', nx⟩ := h10
      exact ⟨rfl, back I' e' nx⟩
/-- {..: .. for ..}: D the new dict, by tuples -/
def tDictC (wi : TI) (g : TG) (tt : TT) (tb : Addr → L2.St → Hp → (Hp → Prop) → Prop) (vs : List Nat) : TE := fun σ H Q => wi σ H fun J H1 => ∀ D, H1 D = none → tClause J g tt (tb D) vs (wipe σ vs) (upd H1 D (.dT [])) fun H' => Q (.ref D) H'
theorem dictc_run {X : Cx} (hc : X.calm = true) (hN : X.N.Nodup) {kx vx tg iter : Expr} {ifs : List Expr} {gs : List Comprehension} {scope : Scope} {own : List (Str × Nat)} {pos : Pos} {B : Env → Addr → Value → Sem PySem.Fin} {wi : TI} {g : TG} {tt : TT} {tb : Addr → L2.St → Hp → (Hp → Prop) → Prop} {vs : List Nat}
    (hi : PI X tg iter wi) (ok : BlkOk X.N X.env.scope scope own)
    (hg : ∀ (s : Shared) (H : Hp) (C : Addr) (cl : List (Str × Addr)) (fp : List Addr), PG (X.blk s H scope (compEnvC scope cl C X.env) fp) tg g) (ht : ∀ (s : Shared) (H : Hp) (C : Addr) (cl : List (Str × Addr)) (fp : List Addr), PTs (X.blk s H scope (compEnvC scope cl C X.env) fp) ifs tt)
    (hb : ∀ (s : Shared) (H : Hp) (C : Addr) (cl : List (Str × Addr)) (fp : List Addr) (D : Addr) (it : Value), PBody (X.blk s H scope (compEnvC scope cl C X.env) fp) vs (.compLoop (.DictComp kx vx (⟨tg, iter, ifs, 0⟩ :: gs) scope pos) 0 it (.ref D) (compEnvC scope cl C X.env)) (B (compEnvC scope cl C X.env) D it) (tb D))
    (hC : ∀ (it : Value) (D C : Addr) (cl : List (Str × Addr)), Clause X.prog X.w X.A (.DictComp kx vx (⟨tg, iter, ifs, 0⟩ :: gs) scope pos) 0 it (.ref D) (compEnvC scope cl C X.env) tg iter ifs (B (compEnvC scope cl C X.env) D it))
    (hvs : ∀ j ∈ own.map (·.2), j ∈ vs) (hs : ∀ x, foldedSetIterable iter X.env x = pure x := by intro _; rfl) :
    PE X (.DictComp kx vx (⟨tg, iter, ifs, 0⟩ :: gs) scope pos) (tDictC wi g tt tb vs) := by
  refine ⟨fun pins s σ H Q I h => ?_⟩
  have cells : ∀ y ∈ scope.names, y.2 = .free → ∃ c, X.env.cells.lookup y.1 = some c := by
    intro y hy e
    rcases ok.free y hy e with k | k
    · exact I.ok.has _ (.inl k)
    · exact I.ok.has _ (.inr k)
  have uniq : ∀ y ∈ scope.names, y.2 = .local → scope.names.lookup y.1 = some .local := by
    intro y hy e
    rw [ok.uniq y hy, e]
  rw [arm_eval_DictComp]
  refine wpAny_comprehension_free (use := none) rfl hs (closure_ok cells) ok.kind uniq (thn (hi.run pins s σ H _ I h) fun xv s1 hx => thn hx fun itv s2 h2 => ?_)
  obtain ⟨it, fp, tn, J, H2, rfl, I2, T, st2, f2, q⟩ := h2
  refine wpAny_newObj_type (newEnv_comp ?_)
  have q := q s2.heap.objs.size (I2.hok.fresh (Nat.le_refl _))
  have low : ∀ b ∈ fp, b < s2.heap.objs.size := by
    intro b hb
    obtain ⟨o, e, _⟩ := T.obj _ _ st2 b hb
    exact Heap.lt_size e
  have I3 : Inv X pins σ (upd H2 s2.heap.objs.size (.dT [])) { s2 with heap := s2.heap.push { cls := .type "dict", data := .dict #[] } } :=
    I2.laid (t' := s2.toks) (fun b o e => Heap.get?_push_of_some _ e) (Nat.le_refl _) (dt_empty s2.heap I2.big)
  have f3 : ∀ b ∈ fp, FpOk X pins (upd H2 s2.heap.objs.size (.dT [])) b ∧ b < (s2.heap.push { cls := .type "dict", data := .dict #[] }).objs.size := by
    intro b hb
    have lt := low b hb
    refine ⟨⟨?_, (f2 b hb).2⟩, by rw [Heap.size_push]; exact Nat.lt_succ_of_lt lt⟩
    rw [upd_ne (Nat.ne_of_lt lt)]
    exact (f2 b hb).1
  have I4 := (block_start I3 ok hN f3).weak (σ' := L2.wipe σ vs) (by rw [wipe_length, wipe_length]) fun i v e => by
    obtain ⟨h1, h2⟩ := wipe_some e
    rw [wipe_out fun z => h2 (hvs i z)]
    exact h1
  have st4 : tn 0 (pushCells ((s2.heap.push { cls := .type "dict", data := .dict #[] }).push { cls := .type "dict", data := .dict #[] }) scope.names) :=
    T.keep _ _ _ st2 fun b _ o e => pushCells_keeps _ _ _ _ (Heap.get?_push_of_some _ (Heap.get?_push_of_some _ e))
  have f4 : ∀ b ∈ fp, FpOk (X.blk { s2 with heap := s2.heap.push { cls := .type "dict", data := .dict #[] } } (upd H2 s2.heap.objs.size (.dT [])) scope (compEnvC scope (cellsFrom ((s2.heap.push { cls := .type "dict", data := .dict #[] }).objs.size + 1) scope.names (cloFrom X.env.cells scope.names [])) (s2.heap.push { cls := .type "dict", data := .dict #[] }).objs.size X.env) fp) [] (upd H2 s2.heap.objs.size (.dT [])) b := by
    intro b hb
    exact ⟨(f3 b hb).1.1, (I4.ok.exf b hb).1, I4.ok.exfs b hb, .inl hb, fun x c e => (I4.ok.exf b hb).2 x c e, fun p hp => by cases hp⟩
  have run := clause_run (X := X.blk { s2 with heap := s2.heap.push { cls := .type "dict", data := .dict #[] } } (upd H2 s2.heap.objs.size (.dT [])) scope (compEnvC scope (cellsFrom ((s2.heap.push { cls := .type "dict", data := .dict #[] }).objs.size + 1) scope.names (cloFrom X.env.cells scope.names [])) (s2.heap.push { cls := .type "dict", data := .dict #[] }).objs.size X.env) fp) hc rfl (hC (.ref it) s2.heap.objs.size _ _) T (hg _ _ _ _ _) (ht _ _ _ _ _) (hb _ _ _ _ _ s2.heap.objs.size (.ref it)) I4 st4 f4 q
  have fin := codeAny_mono (R' := compPost (model X.prog X.w) X.A X.xe none (EP X pins σ Q) (.ref s2.heap.objs.size) (s2.heap.push { cls := .type "dict", data := .dict #[] }).objs.size) run fun r s6 h6 => by
    obtain ⟨rfl, H6, I6, qd⟩ := h6
    obtain ⟨m, hn, _⟩ := I6.loc
    have hn : s6.heap.Ns (s2.heap.push { cls := .type "dict", data := .dict #[] }).objs.size m := hn
    have nC : H6 (s2.heap.push { cls := .type "dict", data := .dict #[] }).objs.size = none := I6.free
    have I7 : Inv X pins σ H6 s6 := I3.call' (ch := fp) I6.os I6.base I6.hok I6.bare fun b hb => ⟨(f3 b hb).1.2.2.2.1, (f3 b hb).1.2.1, (f3 b hb).1.2.2.2.2.1, (f3 b hb).1.2.2.2.2.2⟩
    refine ⟨m, hn, fun h8 sb => ?_⟩
    obtain ⟨f0, f1, f2, f3, f4, f5⟩ := I3.fpOk (H' := H6) (Nat.le_refl _) nC
    exact ⟨.ref s2.heap.objs.size, H6, I7.turned (t' := s6.toks) (fun b o hb e => (sb.2 b hb).trans e) f0 f1 f3 f4 f5, rfl, qd⟩
  exact codeAny_compStart_dict fin (T.self X.A 0 _ _ _ st4 fin)
end Vl
namespace Vl
open PySem PySem.Spec L2 Lb
/-! ### dict comprehensions with tuples as keys, one clause or two -/
abbrev KVs := List (List Key × PV)
abbrev GB := G → KVs → (KVs → Prop) → Prop
def ckP0 (g : GG) (t : GT) (b : GB) (γ : G) : List PV → KVs → (KVs → Prop) → Prop
  | [], d, Q => Q d
  | x :: xs, d, Q => g x γ fun γ2 => t γ2 fun c => bfi c (b γ2 d fun d' => ckP0 g t b γ xs d' Q) (ckP0 g t b γ xs d Q)
@[irreducible] def ckP (g : GG) (t : GT) (b : GB) (γ : G) (xs : List PV) (d : KVs) (Q : KVs → Prop) : Prop := ckP0 g t b γ xs d Q
theorem ckP_eq (g : GG) (t : GT) (b : GB) (γ : G) : ckP g t b γ = ckP0 g t b γ := by funext xs d Q; unfold ckP; rfl
theorem ck_nil {g : GG} {t : GT} {b : GB} {γ : G} {d : KVs} {Q : KVs → Prop} (k : Q d) : ckP g t b γ [] d Q := by rw [ckP_eq]; exact k
theorem ck_cons {g : GG} {t : GT} {b : GB} {γ : G} {x : PV} {xs : List PV} {d : KVs} {Q : KVs → Prop} (k : g x γ fun γ2 => t γ2 fun c => bfi c (b γ2 d fun d' => ckP g t b γ xs d' Q) (ckP g t b γ xs d Q)) : ckP g t b γ (x :: xs) d Q := by
  rw [ckP_eq] at k ⊢; exact k
def bdK (k : GK) (e : GE) : GB := fun γ d Q => k γ fun kk => e γ fun y => d.length < sizeLine ∧ Q (putP d kk y)
def bdIn (vs : List Nat) (it : GA) (g : GG) (t : GT) (b : GB) : GB := fun γ d Q => it γ fun xs => wipeS γ vs fun γw => ckP g t b γw xs d Q
def pDc (vs : List Nat) (it : GA) (g : GG) (t : GT) (b : GB) : GE := fun γ Q => it γ fun xs => wipeS γ vs fun γw => ckP g t b γw xs [] fun d => Q (.dT d)
/-- the new dict at D as it goes -/
def DsT (E : Ac) (L : List Addr) (D : Addr) (H1 : Hp) (d : KVs) (H : Hp) : Prop := Ex E.B H1 H ∧ ∃ ws, H D = some (.dT ws) ∧ d.map (·.1) = ws.map (·.1) ∧ RpL E.B (av E (D :: L) true true) H (d.map (·.2)) (ws.map (·.2))
theorem DsT.ex {E : Ac} {L : List Addr} {D : Addr} {H1 H H' : Hp} {d : KVs} (h : DsT E L D H1 d H) (x : Ex E.B H H') (nq : D ≠ E.B.q) : DsT E L D H1 d H' := by
  obtain ⟨x1, ws, h1, h2, h3⟩ := h
  exact ⟨x1.trans x, ws, x.st _ _ h1 nq, h2, h3.ex x av_q⟩
/-- a body by plain values: at D, from the base H1 -/
def BdOk (K : Fg) (ks : List Kd) (D : Addr) (tb : L2.St → Hp → (Hp → Prop) → Prop) (b : GB) : Prop :=
  ∀ (E : Ac) (L : List Addr) (H1 : Hp) (γ : G) (σ : St) (H : Hp) (d : KVs) (Q : KVs → Prop) (N : Hp → Prop), E.B.K = K → H1 D = none → BagOk E.B H1 → Rel E (D :: L) ks γ σ H → DsT E L D H1 d H → b γ d Q → (∀ d' H', Fw E.B (D :: L) H (D :: L) H' → DsT E L D H1 d' H' → Q d' → N H') → tb σ H N
section
variable {X : Cx} {ks : List Kd} {a s a1 a2 : Bool} {tg e : Expr} {ifs : List Expr} {p : GE} {pa : GA} {g : GG} {pt : GT} {pos : Pos} {js vs : List Nat} {b : GB} {D : Addr}
theorem Rel.again {E : Ac} {L : List Addr} {γ : G} {σ : St} {H H' : Hp} (R : Rel E L ks γ σ H) (f : Fw E.B L H L H') (bg : BagOk E.B H') (pl : ∀ i x, γ[i]? = some (some x) → (kd ks i).kb = true) : Rel E L ks γ σ H' := by
  have key : ∀ k x v O, Kd.kb k = true → Kr E L H k x v O → Kr E L H' k x v O := by
    intro k x v O hk kr
    refine kr.mv (fun a o e m nl => f.st a o e nl m) f.tp (fun a m => .inl m) fun a m => ?_
    cases k <;> first | (cases hk; done) | (obtain ⟨rfl, _⟩ := kr; cases m)
  refine ⟨fun a o h m => f.st a o (R.old a o h m) (fun z => by rw [(R.lf a z).1] at h; cases h) m, fun a h => f.nn a (R.onn a h), bg, R.a0, R.aq, R.ar, fun a h => ⟨(R.lf a h).1, f.nn a (R.lf a h).2⟩, R.len, ?_⟩
  obtain ⟨O, h1, h2, h3, h4⟩ := R.sl
  refine ⟨O, fun i x hx => ?_, h2, h3, h4⟩
  obtain ⟨v, hv, k⟩ := h1 i x hx
  exact ⟨v, hv, key _ x v (O i) (pl i x hx) k⟩
theorem BagOk.dst {E : Ac} {L : List Addr} {D : Addr} {H1 H : Hp} {d : KVs} (b : BagOk E.B H1) (h : DsT E L D H1 d H) : BagOk E.B H := h.1.bg b
theorem clause_ok {K : Fg} {tb : L2.St → Hp → (Hp → Prop) → Prop} {E : Ac} {L : List Addr} {H1 H : Hp} {γ0 : G} {σ0 : St} {d : KVs} {Q : KVs → Prop} {xs : List PV} {J : It} (hK : E.B.K = K) (nD : H1 D = none) (bg : BagOk E.B H1) (R : Rel E (D :: L) ks (wipeG γ0 vs) (L2.wipe σ0 vs) H) (ds : DsT E L D H1 d H)
    (it : ItOk E (D :: L) H a1 xs J) (hj : ∀ j ∈ js, j ∈ vs) (hv : ∀ i, (kd ks i).kb = true ∨ i ∈ vs) (hb : BdOk K ks D tb b) (hp : ckP g pt b (wipeG γ0 vs) xs d Q) :
    tClause J (tG K ks a1 true js g) (tT K ks pt) tb vs (L2.wipe σ0 vs) H fun H' => ∃ d', Fw E.B (D :: L) H (D :: L) H' ∧ DsT E L D H1 d' H' ∧ Q d' := by
  obtain ⟨P, p0, pf, pg, ps⟩ := it.ex
  have pl : ∀ i x, (wipeG γ0 vs)[i]? = some (some x) → (kd ks i).kb = true := fun i x h => (hv i).resolve_right (wipeG_some h).2
  refine ⟨fun i m H' => m = xs.length - i ∧ ∃ d', Fw E.B (D :: L) H (D :: L) H' ∧ DsT E L D H1 d' H' ∧ ckP g pt b (wipeG γ0 vs) (xs.drop i) d' Q, ⟨_, rfl, d, .refl _ _ _, ds, hp⟩, ?_⟩
  rintro i m H2 ⟨rfl, d2, f2, ds2, hk⟩
  have R2 := R.again f2 (bg.dst ds2) pl
  have nq : D ≠ E.B.q := R2.lq (by simp)
  by_cases hi : i < xs.length
  · right
    obtain ⟨go, yl⟩ := pg i _ H2 (pf _ _ _ _ p0 f2) hi
    refine ⟨go, fun H' => ∃ d', Fw E.B (D :: L) H (D :: L) H' ∧ DsT E L D H1 d' H' ∧ ckP g pt b (wipeG γ0 vs) (xs.drop (i + 1)) d' Q, fun H' h => ⟨xs.length - (i + 1), by omega, rfl, h⟩, fun v H3 hy => ?_⟩
    obtain ⟨x3, y, hy, ry⟩ := yl v H3 hy
    have hd : xs.drop i = y :: xs.drop (i + 1) := by
      rw [List.drop_eq_getElem_cons hi]
      rw [List.getElem?_eq_getElem hi] at hy; cases hy; rfl
    rw [hd, ckP_eq] at hk
    have R3 := R2.ex x3
    refine ⟨E, D :: L, wipeG γ0 vs, y, _, hK, R3, ry, hk, fun γ2 σ2 q2 R4 ss => ⟨ss.wipe hj, E, D :: L, γ2, _, hK, R4, q2, fun c H4 q4 x4 => ?_⟩⟩
    have ds4 := (ds2.ex x3 nq).ex x4 nq
    have f4 : Fw E.B (D :: L) H (D :: L) H4 := f2.trans (x3.trans x4).fw
    cases c with
    | false =>
      show if false = true then _ else _
      rw [if_neg (by simp)]
      exact ⟨d2, f4, ds4, by rw [ckP_eq]; exact q4⟩
    | true =>
      show if true = true then _ else _
      rw [if_pos rfl]
      exact hb E L H1 γ2 σ2 H4 d2 _ _ hK nD bg (R4.ex x4) ds4 q4 fun d' H' f5 ds5 q5 => ⟨d', f4.trans f5, ds5, by rw [ckP_eq]; exact q5⟩
  · left
    have hi := Nat.not_lt.mp hi
    rw [List.drop_eq_nil_of_le hi, ckP_eq] at hk
    exact ⟨ps i _ H2 (pf _ _ _ _ p0 f2) hi, d2, f2, ds2, hk⟩
/-- the store: a key, a value -/
def tbK (D : Addr) (tk tv : TE) : L2.St → Hp → (Hp → Prop) → Prop := fun σ H N => tk σ H fun y H4 => tv σ H4 fun z H5 => ∃ kvs k c, y = .ref c ∧ H5 c = some (.tup (k.map kV)) ∧ H5 D = some (.dT kvs) ∧ kvs.length < sizeLine ∧ N (upd H5 D (.dT (putK kvs k z)))
def bodyK (c : Code) (kx vx : Expr) (env : Env) (D : Addr) : Sem PySem.Fin := (do
  let kv ← eval kx env
  let vv ← holding [kv] (eval vx env)
  standAt { kx.pos with endLine := vx.pos.endLine, endCol := vx.pos.endCol }
  holding [kv, vv] (dictSet D kv vv)) >>= fun _ => again c
theorem bodyK_run {X : Cx} {c : Code} {kx vx : Expr} {tk tv : TE} {vs : List Nat} (hx : X.xe = fun _ _ => False) (hu : X.A.units + 1 < cLine) (hk : PE X kx tk) (he : PE X vx tv) : PBody X vs c (bodyK c kx vx X.env D) (tbK D tk tv) := by
  intro pins s σ H N I h
  have r1 := hk.run pins s σ H _ I h
  rw [hx] at r1
  unfold bodyK
  refine wpAny_bind (wpAny_bind (thnF r1 fun u s1 ⟨y, H4, I4, ry, h4⟩ => ?_))
  have r2 := he.run pins s1 σ H4 _ I4 h4
  rw [hx] at r2
  refine wpAny_bind (wpAny_holding (thnF r2 fun w s2 ⟨z, H5, I5, rz, kvs, k, c, ey, hc, hD, hz, nx⟩ => ?_))
  subst ey
  obtain rfl : u = Value.ref c := ry
  refine wpAny_bind (wpAny_standAt (wpAny_holding ?_))
  exact d_dictSetT hu I5 hD hz hc rz fun s3 I6 => wpAny_pure ⟨rfl, σ, _, I6, rfl, nx⟩
theorem bodyK_ok {pk : GK} {pv : GE} {K : Fg} (hK : X.K = K) : BdOk K ks D (tbK D (tK X.K ks pk) (tE X.K ks true true pv)) (bdK pk pv) := by
  subst hK
  intro E L H1 γ σ H d Q N hK nD bg R ds hp k
  have nq : D ≠ E.B.q := R.lq (by simp)
  refine ⟨E, D :: L, γ, _, hK, R, hp, fun kk c H4 q4 x4 hc => ⟨E, D :: L, γ, _, hK, R.ex x4, q4, fun y u H5 q5 x5 ry => ?_⟩⟩
  have ds5 := (ds.ex x4 nq).ex x5 nq
  obtain ⟨xb, ws, h1, h2, h3⟩ := ds5
  have hl : d.length = ws.length := by have := congrArg List.length h2; simpa using this
  have nt : ∀ vs, H5 D ≠ some (.tup vs) := fun vs => by rw [h1]; exact nofun
  have mD : D ∈ D :: L := by simp
  refine ⟨ws, kk, c, rfl, x5.tp _ _ hc, h1, by rw [← hl]; exact q5.1, ?_⟩
  have pr := put_rp (k := kk) (ry.upL (o := .dT (putK ws kk u)) mD nt) h2 (h3.upL (o := .dT (putK ws kk u)) mD nt)
  exact k _ _ (((x4.trans x5).fw).trans (.upd mD nt)) ⟨xb.inner nD bg, _, upd_same, pr.1, pr.2⟩ q5.2
/-- a second clause as a body -/
def bodyIn (ce i1 : Expr) (env : Env) (acc : Value) (c : Code) : Sem PySem.Fin := do
  let x ← eval i1 env
  standAt i1.pos
  let x ← foldedSetIterable i1 env x
  let _ ← runOwn (.compStart ce 1 (← holding [x] (pyIter x)) acc env) env
  again c
def tbIn (wi : TI) (g : TG) (tt : TT) (tb : L2.St → Hp → (Hp → Prop) → Prop) (vs : List Nat) : L2.St → Hp → (Hp → Prop) → Prop := fun σ H N => wi σ H fun J H1 => tClause J g tt tb vs (L2.wipe σ vs) H1 N
theorem start2 {prog : Program} {w : World} {A : Around} {R : Result → Shared → Prop} {s : Shared} {kx vx : Expr} {g0 g1 : Comprehension} {scope : Scope} {p : Pos} {it acc : Value} {env : Env} (ha : g1.is_async = 0)
    (h0 : codeAny (model prog w) A (.compLoop (.DictComp kx vx [g0, g1] scope p) 1 it acc env) R s)
    (h : wpAny (model prog w) A (pyIter it) (fun it' s' => codeAny (model prog w) A (.compLoop (.DictComp kx vx [g0, g1] scope p) 1 it' acc env) R s') (fun _ _ => False) s) :
    codeAny (model prog w) A (.compStart (.DictComp kx vx [g0, g1] scope p) 1 it acc env) R s := by
  have go : wpAny (model prog w) A (compStart (.DictComp kx vx [g0, g1] scope p) 1 it acc env) (fun fin s' => match fin with | .done f => R (.ok f) s' | .again c => c.quiet = true ∧ codeAny (model prog w) A c R s') (notedBy (model prog w) A env fun e s' => R (.error e) s') s := by
    have e1 : (((clausesOf (.DictComp kx vx [g0, g1] scope p))[1]?).elim false (·.is_async != 0)) = false := by
      show (g1.is_async != 0) = false
      rw [ha]; rfl
    unfold compStart
    rw [e1]
    show wpAny _ _ (ask >>= _) _ _ s
    refine wpAny_bind (wpAny_askSetting (wpAny_ite ?_))
    split
    · first
        | exact wpAny_bind (wpAny_pure (wpAny_pure ⟨rfl, h0⟩))
        | exact wpAny_pure ⟨rfl, h0⟩
    · refine wpAny_bind (wpAny_rule ?_)
      show wpAny _ _ (standAt g1.iter.pos >>= _) _ _ s
      exact wpAny_bind (wpAny_standAt (wpAny_bind (thnF h fun it' s' h' => wpAny_pure ⟨rfl, h'⟩)))
  exact codeAny_of_tree (wpAny_notedAt go)
theorem bodyIn_run {X : Cx} {c : Code} {kx vx t0 i0 t1 i1 : Expr} {f0 f1 : List Expr} {scope : Scope} {p : Pos} {Dv : Addr} {B : Value → Sem PySem.Fin} {wi : TI} {g : TG} {tt : TT} {tb : L2.St → Hp → (Hp → Prop) → Prop} {vs vs1 : List Nat} (hc : X.calm = true) (hx : X.xe = fun _ _ => False)
    (hi : PI X t1 i1 wi) (hg : PG X t1 g) (ht : PTs X f1 tt) (hb : ∀ it : Value, PBody X vs1 (.compLoop (.DictComp kx vx [⟨t0, i0, f0, 0⟩, ⟨t1, i1, f1, 0⟩] scope p) 1 it (.ref Dv) X.env) (B it) tb) (hv : ∀ j ∈ vs1, j ∈ vs)
    (hC : ∀ it : Value, Clause X.prog X.w X.A (.DictComp kx vx [⟨t0, i0, f0, 0⟩, ⟨t1, i1, f1, 0⟩] scope p) 1 it (.ref Dv) X.env t1 i1 f1 (B it)) (hs : ∀ x, foldedSetIterable i1 X.env x = pure x) :
    PBody X vs c (bodyIn (.DictComp kx vx [⟨t0, i0, f0, 0⟩, ⟨t1, i1, f1, 0⟩] scope p) i1 X.env (.ref Dv) c) (tbIn wi g tt tb vs1) := by
  intro pins s σ H N I h
  have r1 := hi.run pins s σ H _ I h
  rw [hx] at r1
  unfold bodyIn
  refine wpAny_bind (thnF r1 fun x s1 h1 => wpAny_bind (wpAny_standAt (wpAny_bind (wpAny_of_eq (hs x) (wpAny_bind (wpAny_holding (thnF h1 fun itv s2 h2 => ?_)))))))
  obtain ⟨it, fp, tn, J, H2, rfl, I2, T, st2, f2, q⟩ := h2
  have W2 : Inv X pins (L2.wipe σ vs1) H2 s2 := I2.weak (wipe_length σ vs1) fun i v e => (wipe_some e).1
  have run := clause_run hc hx (hC (.ref it)) T hg ht (hb (.ref it)) W2 st2 f2 q
  refine wpAny_bind (wpAny_runOwn ?_)
  rw [Around.mark_none]
  have fin : codeAny (model X.prog X.w) X.A (.compLoop (.DictComp kx vx [⟨t0, i0, f0, 0⟩, ⟨t1, i1, f1, 0⟩] scope p) 1 (.ref it) (.ref Dv) X.env) (fun r s' => match r with
      | .ok _ => wpAny (model X.prog X.w) X.A (again c) (fun f s' => f = .again c ∧ ∃ σ' H', Inv X pins σ' H' s' ∧ L2.wipe σ' vs = L2.wipe σ vs ∧ N H') (fun _ _ => False) s'
      | .error e => cameBackBy (model X.prog X.w) X.A X.env (fun _ _ => False) e s') s2 := codeAny_mono run fun r s' hr => by
    obtain ⟨rfl, H', I', nx⟩ := hr
    refine wpAny_pure ⟨rfl, L2.wipe σ vs1, H', I', ?_, nx⟩
    apply List.ext_getElem?
    intro i
    by_cases hi : i ∈ vs
    · by_cases hl : i < σ.length
      · rw [wipe_in hi (by rw [wipe_length]; exact hl), wipe_in hi hl]
      · rw [List.getElem?_eq_none (by rw [wipe_length, wipe_length]; omega), List.getElem?_eq_none (by rw [wipe_length]; omega)]
    · have h1 : i ∉ vs1 := fun z => hi (hv i z)
      rw [wipe_out hi, wipe_out hi, wipe_out h1]
  refine start2 rfl ?_ (T.self X.A 0 _ _ _ st2 ?_)
  all_goals
    refine codeAny_mono fin fun r s' hr => ?_
    cases r with
    | ok f => exact hr
    | error e => exact hr
theorem bodyIn_ok {K : Fg} {pi : GA} {b : GB} {tb : L2.St → Hp → (Hp → Prop) → Prop} (hb : BdOk K ks D tb b) (hj : ∀ j ∈ js, j ∈ vs) (hv : ∀ i, (kd ks i).kb = true ∨ i ∈ vs) : BdOk K ks D (tbIn (tI K ks a1 pi) (tG K ks a1 true js g) (tT K ks pt) tb vs) (bdIn vs pi g pt b) := by
  intro E L H1 γ σ H d Q N hK nD bg R ds hp k
  have nq : D ≠ E.B.q := R.lq (by simp)
  refine ⟨E, D :: L, γ, _, hK, R, hp, fun xs J H2 q2 x2 it => ?_⟩
  rw [wipeS_eq] at q2
  have R2 := (R.ex x2).wipe vs
  obtain ⟨W, w0, turn⟩ := clause_ok hK nD bg R2 (ds.ex x2 nq) it hj hv hb q2
  refine ⟨W, w0, fun j m H' w => ?_⟩
  rcases turn j m H' w with ⟨st, d', f', ds', q'⟩ | r
  · exact .inl ⟨st, k d' H' (x2.fw.trans f') ds' q'⟩
  · exact .inr r
theorem qn_dc {iter : Expr} {scope : Scope} {tb : Addr → L2.St → Hp → (Hp → Prop) → Prop}
    (pe : ∀ {wi : TI} {g : TG} {tt : TT}, PI X tg iter wi → (∀ (s : Shared) (H : Hp) (C : Addr) (cl : List (Str × Addr)) (fp : List Addr), PG (X.blk s H scope (compEnvC scope cl C X.env) fp) tg g) →
      (∀ (s : Shared) (H : Hp) (C : Addr) (cl : List (Str × Addr)) (fp : List Addr), PTs (X.blk s H scope (compEnvC scope cl C X.env) fp) ifs tt) → PE X e (tDictC wi g tt tb vs))
    (hi : QI X ks a1 tg iter pa) (hg : ∀ (s : Shared) (H : Hp) (C : Addr) (cl : List (Str × Addr)) (fp : List Addr), QG (X.blk s H scope (compEnvC scope cl C X.env) fp) ks a1 true js tg g)
    (ht : ∀ (s : Shared) (H : Hp) (C : Addr) (cl : List (Str × Addr)) (fp : List Addr), QTs (X.blk s H scope (compEnvC scope cl C X.env) fp) ks ifs pt) (hb : ∀ D, BdOk X.K ks D (tb D) b) (hj : ∀ j ∈ js, j ∈ vs) (hv : ∀ i, (kd ks i).kb = true ∨ i ∈ vs) :
    QN X ks e (pDc vs pa g pt b) :=
  PEi (pe hi hg ht) fun σ H Q ⟨E, L, γ, Qp, hK, R, hp, k⟩ => by
    refine ⟨E, L, γ, _, hK, R, hp, fun xs J H1 q1 x1 it D nD => ?_⟩
    rw [wipeS_eq] at q1
    have nH : H D = none := x1.free nD
    have R1 := R.ex x1
    have x2 : Ex E.B H1 (upd H1 D (.dT [])) := .new nD
    have R2 : Rel E (D :: L) ks γ σ (upd H1 D (.dT [])) := R1.more x2 nD (by rw [upd_same]; exact nofun)
    have it2 : ItOk E (D :: L) (upd H1 D (.dT [])) a1 xs J := by
      obtain ⟨P, p0, pf, pg, ps⟩ := it.ex
      exact ⟨P, pf _ _ _ _ p0 (.more x2 nD), pf, pg, ps⟩
    obtain ⟨W, w0, turn⟩ := clause_ok (E := E) (L := L) (H1 := H1) hK nD R1.bag (R2.wipe vs) (d := []) ⟨x2, [], upd_same, rfl, .nil⟩ it2 hj hv (hb D) q1
    refine ⟨W, w0, fun j m H' w => ?_⟩
    rcases turn j m H' w with ⟨st, d', f', ⟨xb, ws, h1, h2, h3⟩, q'⟩ | r
    · refine .inl ⟨st, k _ D H' q' (x1.trans xb) nH ⟨ws, h1, h2, h3.anti fun c z => ?_⟩⟩
      rcases z with z | z
      · exact av_cons z
      · exact .inr (.inr ⟨rfl, by rw [z]; simp⟩)
    · exact .inr r
theorem clauseD {prog : Program} {w : World} {A : Around} {kx vx t0 i0 : Expr} {f0 : List Expr} {scope : Scope} {p : Pos} {it : Value} {D : Addr} {env : Env} : Clause prog w A (.DictComp kx vx [⟨t0, i0, f0, 0⟩] scope p) 0 it (.ref D) env t0 i0 f0 (bodyK (.compLoop (.DictComp kx vx [⟨t0, i0, f0, 0⟩] scope p) 0 it (.ref D) env) kx vx env D) := ⟨rfl, rfl, rfl, rfl⟩
theorem clauseD0 {prog : Program} {w : World} {A : Around} {kx vx t0 i0 t1 i1 : Expr} {f0 f1 : List Expr} {scope : Scope} {p : Pos} {it : Value} {D : Addr} {env : Env} : Clause prog w A (.DictComp kx vx [⟨t0, i0, f0, 0⟩, ⟨t1, i1, f1, 0⟩] scope p) 0 it (.ref D) env t0 i0 f0 (bodyIn (.DictComp kx vx [⟨t0, i0, f0, 0⟩, ⟨t1, i1, f1, 0⟩] scope p) i1 env (.ref D) (.compLoop (.DictComp kx vx [⟨t0, i0, f0, 0⟩, ⟨t1, i1, f1, 0⟩] scope p) 0 it (.ref D) env)) := ⟨rfl, rfl, rfl, rfl⟩
theorem clauseD1 {prog : Program} {w : World} {A : Around} {kx vx t0 i0 t1 i1 : Expr} {f0 f1 : List Expr} {scope : Scope} {p : Pos} {it : Value} {D : Addr} {env : Env} : Clause prog w A (.DictComp kx vx [⟨t0, i0, f0, 0⟩, ⟨t1, i1, f1, 0⟩] scope p) 1 it (.ref D) env t1 i1 f1 (bodyK (.compLoop (.DictComp kx vx [⟨t0, i0, f0, 0⟩, ⟨t1, i1, f1, 0⟩] scope p) 1 it (.ref D) env) kx vx env D) := ⟨rfl, rfl, rfl, rfl⟩
/-- one clause -/
theorem qn_dc1 {kx vx iter : Expr} {scope : Scope} {own : List (Str × Nat)} {pk : GK} {pv : GE} (hc : X.calm = true) (hN : X.N.Nodup) (hu : X.A.units + 1 < cLine) (ok : BlkOk X.N X.env.scope scope own)
    (hi : QI X ks a1 tg iter pa) (hg : ∀ (s : Shared) (H : Hp) (C : Addr) (cl : List (Str × Addr)) (fp : List Addr), QG (X.blk s H scope (compEnvC scope cl C X.env) fp) ks a1 true (own.map (·.2)) tg g)
    (ht : ∀ (s : Shared) (H : Hp) (C : Addr) (cl : List (Str × Addr)) (fp : List Addr), QTs (X.blk s H scope (compEnvC scope cl C X.env) fp) ks ifs pt)
    (hk : ∀ (s : Shared) (H : Hp) (C : Addr) (cl : List (Str × Addr)) (fp : List Addr), QKy (X.blk s H scope (compEnvC scope cl C X.env) fp) ks kx pk) (he : ∀ (s : Shared) (H : Hp) (C : Addr) (cl : List (Str × Addr)) (fp : List Addr), QE (X.blk s H scope (compEnvC scope cl C X.env) fp) ks true true vx pv)
    (hvs : ∀ j ∈ own.map (·.2), j ∈ vs) (hv : ∀ i, (kd ks i).kb = true ∨ i ∈ vs) (hs : ∀ x, foldedSetIterable iter X.env x = pure x := by intro _; rfl) : QN X ks (.DictComp kx vx [⟨tg, iter, ifs, 0⟩] scope pos) (pDc vs pa g pt (bdK pk pv)) :=
  qn_dc (tb := fun D => tbK D (tK X.K ks pk) (tE X.K ks true true pv)) (fun hi hg ht => dictc_run hc hN (B := fun env D it => bodyK (.compLoop (.DictComp kx vx [⟨tg, iter, ifs, 0⟩] scope pos) 0 it (.ref D) env) kx vx env D) hi ok hg ht (fun s H C cl fp D it => bodyK_run (X := X.blk s H scope (compEnvC scope cl C X.env) fp) rfl hu (hk s H C cl fp) (he s H C cl fp)) (fun _ _ _ _ => clauseD) hvs hs) hi hg ht (fun _ => bodyK_ok rfl) hvs hv
/-- two clauses -/
theorem qn_dc2 {kx vx iter iter1 tg1 : Expr} {ifs1 : List Expr} {scope : Scope} {own : List (Str × Nat)} {own1 vs1 : List Nat} {pk : GK} {pv : GE} {a3 : Bool} {pa1 : GA} {g1 : GG} {pt1 : GT} (hc : X.calm = true) (hN : X.N.Nodup) (hu : X.A.units + 1 < cLine) (ok : BlkOk X.N X.env.scope scope own)
    (hi : QI X ks a1 tg iter pa) (hg : ∀ (s : Shared) (H : Hp) (C : Addr) (cl : List (Str × Addr)) (fp : List Addr), QG (X.blk s H scope (compEnvC scope cl C X.env) fp) ks a1 true (own.map (·.2)) tg g)
    (ht : ∀ (s : Shared) (H : Hp) (C : Addr) (cl : List (Str × Addr)) (fp : List Addr), QTs (X.blk s H scope (compEnvC scope cl C X.env) fp) ks ifs pt)
    (hi1 : ∀ (s : Shared) (H : Hp) (C : Addr) (cl : List (Str × Addr)) (fp : List Addr), QI (X.blk s H scope (compEnvC scope cl C X.env) fp) ks a3 tg1 iter1 pa1)
    (hg1 : ∀ (s : Shared) (H : Hp) (C : Addr) (cl : List (Str × Addr)) (fp : List Addr), QG (X.blk s H scope (compEnvC scope cl C X.env) fp) ks a3 true own1 tg1 g1)
    (ht1 : ∀ (s : Shared) (H : Hp) (C : Addr) (cl : List (Str × Addr)) (fp : List Addr), QTs (X.blk s H scope (compEnvC scope cl C X.env) fp) ks ifs1 pt1)
    (hk : ∀ (s : Shared) (H : Hp) (C : Addr) (cl : List (Str × Addr)) (fp : List Addr), QKy (X.blk s H scope (compEnvC scope cl C X.env) fp) ks kx pk) (he : ∀ (s : Shared) (H : Hp) (C : Addr) (cl : List (Str × Addr)) (fp : List Addr), QE (X.blk s H scope (compEnvC scope cl C X.env) fp) ks true true vx pv)
    (hvs : ∀ j ∈ own.map (·.2), j ∈ vs) (hv : ∀ i, (kd ks i).kb = true ∨ i ∈ vs) (hvs1 : ∀ j ∈ own1, j ∈ vs1) (hv1 : ∀ i, (kd ks i).kb = true ∨ i ∈ vs1) (hvv : ∀ j ∈ vs1, j ∈ vs)
    (hs1 : ∀ C cl x, foldedSetIterable iter1 (compEnvC scope cl C X.env) x = pure x := by intro _ _ _; rfl) (hs : ∀ x, foldedSetIterable iter X.env x = pure x := by intro _; rfl) :
    QN X ks (.DictComp kx vx [⟨tg, iter, ifs, 0⟩, ⟨tg1, iter1, ifs1, 0⟩] scope pos) (pDc vs pa g pt (bdIn vs1 pa1 g1 pt1 (bdK pk pv))) :=
  qn_dc (tb := fun D => tbIn (tI X.K ks a3 pa1) (tG X.K ks a3 true own1 g1) (tT X.K ks pt1) (tbK D (tK X.K ks pk) (tE X.K ks true true pv)) vs1) (fun hi hg ht => dictc_run hc hN (B := fun env D it => bodyIn (.DictComp kx vx [⟨tg, iter, ifs, 0⟩, ⟨tg1, iter1, ifs1, 0⟩] scope pos) iter1 env (.ref D) (.compLoop (.DictComp kx vx [⟨tg, iter, ifs, 0⟩, ⟨tg1, iter1, ifs1, 0⟩] scope pos) 0 it (.ref D) env)) hi ok hg ht
    (fun s H C cl fp D it => bodyIn_run (X := X.blk s H scope (compEnvC scope cl C X.env) fp) hc rfl (hi1 s H C cl fp) (hg1 s H C cl fp) (ht1 s H C cl fp) (fun it => bodyK_run (X := X.blk s H scope (compEnvC scope cl C X.env) fp) rfl hu (hk s H C cl fp) (he s H C cl fp)) hvv (fun _ => clauseD1) (hs1 C cl)) (fun _ _ _ _ => clauseD0) hvs hs) hi hg ht (fun _ => bodyIn_ok (bodyK_ok rfl) hvs1 hv1) hvs hv
end
end Vl
namespace Vl
open PySem PySem.Spec L2 Lb
/-! ### max(d.values()), d a dict by tuples that nobody else holds -/
def vwO (p d : Addr) : HO := .ext fun h => h.IsValuesView p d
def rVals : V → List V → Hp → VK → Prop := fun x xs H Q => ∃ (d : Addr) (kvs : List (List Key × V)), x = .ref d ∧ xs = [] ∧ H d = some (.dT kvs) ∧ ∀ p, H p = none → Q (.ref p) (upd H p (vwO p d))
theorem mt_valuesT {X : Cx} : MtR X "dict.values" rVals := by
  intro pins s σ H x xs v us Q I rx rxs h
  obtain ⟨d, kvs, rfl, rfl, hd, q⟩ := h
  cases (show v = Value.ref d from rx)
  cases rxs
  obtain ⟨_, low, ys, kt, dh⟩ := dt_of I.hok hd
  obtain ⟨es, ep, raw, -, -⟩ := dh.raw
  have nP := I.hok.fresh (Nat.le_refl s.heap.objs.size)
  have end_ : EP X pins σ Q (.ref s.heap.objs.size) { s with heap := s.heap.push { cls := .type "dict_values", data := .fields #[.ref d] } } := by
    refine ⟨.ref s.heap.objs.size, _, I.laid (t' := s.toks) (fun b u e => Heap.get?_push_of_some _ e) (Nat.le_refl _) ?_, rfl, q _ nP⟩
    have here := Heap.get?_push_size s.heap (o := { cls := .type "dict_values", data := .fields #[.ref d] }) rfl
    exact ⟨⟨_, here, rfl, rfl⟩, ⟨_, here⟩, fun h1 h2 z k => by obtain ⟨o, ho, r⟩ := z; exact ⟨o, k o ho, r⟩⟩
  exact call_meetsIn F.slot_dict_values raw.typeIs F.entry_dict_values (F.args_dict_values_1 _) (meets_dict_values_raw d low) ⟨⟨es, ep, raw⟩, end_⟩
def rMaxVw : List V → Hp → VK → Prop := fun xs H Q => ∃ (p d : Addr) (kvs : List (List Key × V)) (ns : List Int), xs = [.ref p] ∧ H p = some (vwO p d) ∧ H d = some (.dT kvs) ∧ kvs.map (·.2) = ns.map V.int ∧ ns ≠ [] ∧ ∀ m, m ∈ ns → (∀ y ∈ ns, y ≤ m) → Q (.int m) H
theorem cr_maxVT {X : Cx} (hc : X.calm = true) : CallR X (.builtin "max") rMaxVw := by
  intro pins s σ H xs us Q I r h
  obtain ⟨p, d, kvs, ns, rfl, hp, hd, hv, hne, q⟩ := h
  rw [Vals.ref1 r]
  have view : s.heap.IsValuesView p d := (show ObjOk X.prog X.w H s.heap p (vwO p d) from I.hok p _ hp).1
  obtain ⟨_, _, ys, kt, dh⟩ := dt_of I.hok hd
  obtain ⟨es, ep, raw, hn, ent⟩ := dh.raw
  have l1 : kvs.length = ys.length := Paired.length kt
  have l2 : kvs.length = ns.length := by have := congrArg List.length hv; simpa using this
  have val : ∀ (i : Nat) (v : Value), (∃ y, ys[i]? = some y ∧ v = y.2.2) → ∃ t, v = .int (ns.getD i 0) t := by
    rintro i v ⟨y, hy, rfl⟩
    have hi : i < kvs.length := by rw [l1]; exact (List.getElem?_eq_some_iff.mp hy).1
    obtain ⟨b, hb, e1, e2, e3⟩ := paired_get kt (i := i) (List.getElem?_eq_getElem hi)
    rw [hy] at hb; cases hb
    have e4 : (kvs.map (·.2))[i]? = (ns.map V.int)[i]? := by rw [hv]
    rw [List.getElem?_map, List.getElem?_map, List.getElem?_eq_getElem hi, List.getElem?_eq_getElem (show i < ns.length by omega)] at e4
    have e5 : (kvs[i]).2 = V.int ns[i] := Option.some.inj e4
    rw [e5] at e3
    obtain ⟨t, e6⟩ := e3
    exact ⟨t, by rw [e6, List.getD_eq_getElem?_getD, List.getElem?_eq_getElem (show i < ns.length by omega)]; rfl⟩
  have ld : d < s.heap.objs.size := by obtain ⟨o, ho, _⟩ := raw; exact Heap.lt_size ho
  have pos : 0 < ns.length := List.length_pos_iff.mpr hne
  refine call_max_walk (wpAny_pyIter_values_raw view raw ?_)
  refine ⟨s.heap.objs.size, [s.heap.objs.size, d], [s.heap.objs.size], es.size, fun i v => ∃ y, ys[i]? = some y ∧ v = y.2.2, fun i h => h.IsValIter s.heap.objs.size d i es.size ep ∧ h.DictRaw d es ep, _, rfl, Walks.valuesH (A := X.A.in1) (xs := ys) (I.ok.hd hc) s.heap.objs.size d (Nat.ne_of_lt ld) es ep (fun i hi => by obtain ⟨y, a, b, c, _⟩ := ent i hi; exact ⟨y, a, b, c⟩), ⟨⟨_, Heap.get?_push_size _ rfl, rfl, rfl⟩, raw.at fun o e => Heap.get?_push_of_some _ e⟩, ?_, by omega, CmpOf.ints_gt (fun i => ns.getD i 0) val, ?_⟩
  · intro b hb
    show b < (s.heap.push _).objs.size
    rw [Heap.size_push]
    simp only [List.mem_cons, List.not_mem_nil, or_false] at hb
    rcases hb with rfl | rfl
    · exact Nat.lt_succ_self _
    · exact Nat.lt_succ_of_lt ld
  · intro v h' tk hP hk
    obtain ⟨t, rfl⟩ := val _ v hP
    obtain ⟨b1, b2⟩ := argBest_gt (fun i => ns.getD i 0) (es.size - 1)
    have get : ∀ j, j < ns.length → ns.getD j 0 ∈ ns := fun j hj => by
      rw [List.getD_eq_getElem?_getD, List.getElem?_eq_getElem hj]; exact List.getElem_mem hj
    refine ⟨.int _, H, I.kept (t' := tk) fun b u e => hk b u (fun z => ?_) (Heap.get?_push_of_some _ e), ⟨t, rfl⟩, q _ (get _ (by omega)) fun y hy => ?_⟩
    · exact Nat.lt_irrefl _ (by rw [List.mem_singleton.mp z] at e; exact Heap.lt_size e)
    · obtain ⟨j, hj, rfl⟩ := List.getElem_of_mem hy
      have := b2 j (by omega)
      rw [List.getD_eq_getElem?_getD, List.getElem?_eq_getElem hj] at this
      exact this
def pMaxVals (p : GE) : GE := fun γ Q => p γ fun x => match x with
  | .dT kvs => (match pInts (kvs.map (·.2)) with | some ns => ns ≠ [] ∧ Q (.int (maxL ns)) | none => False)
  | _ => False
theorem qe_maxVals {X : Cx} {ks : List Kd} {e o : Expr} {p : GE} (pe : ∀ {t : TE}, PE X o t → PE X e (tCB rMaxVw (tCons (tBM0 X.K "dict" rVals t) tNil))) (h : QN X ks o p) : QE X ks true true e (pMaxVals p) :=
  PEi (pe h) fun σ H Q ⟨E, L, γ, Qp, hK, R, hp, k⟩ => by
    refine ⟨E, L, γ, _, hK, R, hp, fun x a H1 q1 x1 na ob => ?_⟩
    cases x <;> first | exact q1.elim | skip
    rename_i kvs
    obtain ⟨ws, h1, h2, h3⟩ := ob
    cases e : pInts (kvs.map (·.2)) with
    | none => simp only [e] at q1
    | some ns =>
      simp only [e] at q1
      refine ⟨.inr (.inr (.inl ⟨rfl, .inr ⟨ws, h1⟩⟩)), a, ws, rfl, rfl, h1, fun p np => ?_⟩
      have ne : a ≠ p := ne_of_none h1 np
      refine ⟨p, a, ws, ns, rfl, upd_same, by rw [upd_ne ne]; exact h1, ints_ok h3 e, q1.1, fun m hm hy => ?_⟩
      have mx := maxL_spec ns q1.1
      have e2 : m = maxL ns := Int.le_antisymm (mx.2 m hm) (hy _ mx.1)
      rw [e2]
      exact k _ _ _ q1.2 (x1.trans (.new np)) (.int _)
/-! ### a shared dict, walked while it is locked -/
/-- a value read without any change of the heap -/
def tZ (K : Fg) (ks : List Kd) (a s : Bool) (p : GE) : TE := fun σ H Q => ∃ (E : Ac) (L : List Addr) (γ : G) (Qp : PV → Prop), E.B.K = K ∧ Rel E L ks γ σ H ∧ p γ Qp ∧ ∀ x v, Qp x → Rp E.B (av E L a s) H x v → Q v H
abbrev QZ (X : Cx) (ks : List Kd) (a s : Bool) (e : Expr) (p : GE) : Prop := PE X e (tZ X.K ks a s p)
section
variable {X : Cx} {ks : List Kd} {a s a1 : Bool} {e o kx vx tg : Expr} {ifs : List Expr} {p : GE} {g : GG} {pt : GT} {pos apos cpos : Pos} {js vs : List Nat}
theorem qz_v (i : Nat) (h : PE X e (tVar i)) (ha : a = (kd ks i).ka := by rfl) (hb : s = (kd ks i).kb := by rfl) : QZ X ks a s e (pVar i) := by
  subst ha hb
  exact PEi h fun σ H Q ⟨E, L, γ, Qp, hK, R, hp, k⟩ => by
    obtain ⟨x, hx, q⟩ := getS_of hp
    obtain ⟨v, hv, r⟩ := R.read hx
    exact ⟨v, hv, k x v q r⟩
theorem qz_fld (c j : Nat) {f : Str} (cl : Cls X.K (He.ga X.K (clsT c).1)) (na : NoAttr X.K (He.ga X.K (clsT c).1) f) (h : QZ X ks a s e p) (hb : attributeBase e f X.env (eval e X.env) = eval e X.env := by rfl)
    (hf : (clsT c).2[j]? = some f ∧ ((clsT c).2.take j).all (fun g => !decide (g = f)) = true := by decide +kernel) : QZ X ks a s (.Attribute e f pos) (pFld c j p) :=
  PEi (pe_fld h hb) fun σ H Q ⟨E, L, γ, Qp, hK, R, hp, k⟩ => by
    refine ⟨E, L, γ, _, hK, R, hp, fun x v q1 r1 => ?_⟩
    cases r1 <;> first | exact q1.elim | skip
    rename_i b dx c' ws xs vs n h1 h2 h3 r
    obtain ⟨rfl, q1⟩ := q1
    obtain ⟨y, hy, q⟩ := getS_map q1
    obtain ⟨u, hu, ru⟩ := r.get hy
    have hj : j < xs.length := (List.getElem?_eq_some_iff.mp hy).1
    have name : ((clsT c').2.take xs.length)[j]? = some f := by rw [List.getElem?_take, if_pos hj]; exact hf.1
    have before : ∀ i < j, ((clsT c').2.take xs.length)[i]? ≠ some f := fun i hi => by
      rw [List.getElem?_take, if_pos (by omega)]
      exact fldn hf i hi
    have look := lookup_at (j := j) h2 name before (by rw [h3]; exact hu)
    exact ⟨b, He.ga X.K (clsT c').1, dx, ws, u, rfl, hK ▸ h1, cl, na, look, k y u q ru⟩
/-- what was locked on the way is unlocked at the end -/
theorem pe_unl {t : TE} (h : PE X e t) : PE X e (fun σ H Q => t σ H fun v H' => ∃ d od u, H d = some u ∧ Mut (some u) ∧ H' d = some (.frz od u) ∧ Q v (upd H' d u)) := by
  refine ⟨fun pins s σ H Q I q => thn (h.run pins s σ H _ I q) fun v s1 r => ?_⟩
  obtain ⟨x, H1, I1, rx, d, od, u, hd, mu, lk, fin⟩ := r
  exact ⟨x, upd H1 d u, I1.unlock lk (I.nofrz hd mu), rx, fin⟩
def pDcS (vs : List Nat) (p : GE) (g : GG) (t : GT) (b : GB) : GE := fun γ Q => p γ fun x => match x with
  | .dT kvs => immL (kvs.map (·.2)) = true ∧ wipeS γ vs fun γw => γw.all (·.isNone) = true ∧ ckP g t b γw (itemsP kvs) [] fun d => immL (d.map (·.2)) = true ∧ Q (.dT d)
  | _ => False
/-- at work with nothing but the bag -/
def Ac.bare (E : Ac) (H : Hp) : Ac := ⟨E.B, fun b => b = E.B.q, fun b => if b = E.B.q then H b else if b = E.B.r then H b else none, E.me⟩
theorem Rel.bare {E : Ac} {L : List Addr} {γ γ' : G} {σ : St} {H H' : Hp} (R : Rel E L ks γ σ H) (hq : H' E.B.q = H E.B.q) (hr : H' E.B.r = H E.B.r) (hl : γ'.length = γ.length) (hn : ∀ (i : Nat) (x : PV), γ'[i]? ≠ some (some x)) : Rel (E.bare H') [] ks γ' σ H' := by
  obtain ⟨x, y, z, cs, h1, h2, h3, h4⟩ := R.bag
  have bag' : BagOk E.B H' := ⟨x, y, z, cs, hq.trans h1, hr.trans h2, h3, h4⟩
  refine ⟨fun a o h n => ?_, fun a h => ?_, bag', fun a h => ?_, rfl, ?_, (fun _ z => nomatch z), hl.trans R.len, ⟨fun _ => [], (fun i x h => absurd h (hn i x)), (fun _ _ z => nomatch z), (fun _ _ _ z => nomatch z), fun _ => List.nodup_nil⟩⟩
  · have h : (if a = E.B.q then H' a else if a = E.B.r then H' a else none) = some o := h
    have n : a ≠ E.B.q := n
    rw [if_neg n] at h
    by_cases e : a = E.B.r
    · rw [if_pos e] at h; exact h
    · rw [if_neg e] at h; cases h
  · have h : (if a = E.B.q then H' a else if a = E.B.r then H' a else none) ≠ none := h
    by_cases e : a = E.B.q
    · rw [if_pos e] at h; exact h
    · rw [if_neg e] at h
      by_cases e : a = E.B.r
      · rw [if_pos e] at h; exact h
      · rw [if_neg e] at h; exact absurd rfl h
  · have h : a = E.B.q := h
    show (if a = E.B.q then H' a else if a = E.B.r then H' a else none) ≠ none
    rw [if_pos h, h, hq, h1]; exact nofun
  · show (if E.B.r = E.B.q then H' E.B.r else if E.B.r = E.B.r then H' E.B.r else none) ≠ none
    rw [if_neg h3, if_pos rfl, hr, h2]; exact nofun
theorem RpL.lk {B : Bg} {A : Addr → Prop} {H H' : Hp} {x : List PV} {v : List V} (h : RpL B A H x v) (im : immL x = true) (tp : ∀ b vs, H b = some (.tup vs) → H' b = some (.tup vs)) : ∀ A', RpL B A' H' x v := fun A' => by
  have h2 : RpL B (fun _ => True) H x v := h.im im
  have h3 : RpL B (fun _ => True) H' x v := h2.mv (fun b u e n => absurd trivial n) tp fun _ _ _ => trivial
  exact h3.anti fun _ _ => trivial
theorem qn_dcS {scope : Scope} {own : List (Str × Nat)} {pk : GK} {pv : GE} {elts : List Expr} {kk : Nat} {tpos : Pos} (hc : X.calm = true) (hN : X.N.Nodup) (hu : X.A.units + 1 < cLine) (ok : BlkOk X.N X.env.scope scope own) (ho : QZ X ks a s o p)
    (hg : ∀ (s : Shared) (H : Hp) (C : Addr) (cl : List (Str × Addr)) (fp : List Addr), QG (X.blk s H scope (compEnvC scope cl C X.env) fp) ks true true (own.map (·.2)) (.Tuple elts kk tpos) g)
    (ht : ∀ (s : Shared) (H : Hp) (C : Addr) (cl : List (Str × Addr)) (fp : List Addr), QTs (X.blk s H scope (compEnvC scope cl C X.env) fp) ks ifs pt)
    (hk : ∀ (s : Shared) (H : Hp) (C : Addr) (cl : List (Str × Addr)) (fp : List Addr), QKy (X.blk s H scope (compEnvC scope cl C X.env) fp) ks kx pk) (he : ∀ (s : Shared) (H : Hp) (C : Addr) (cl : List (Str × Addr)) (fp : List Addr), QE (X.blk s H scope (compEnvC scope cl C X.env) fp) ks true true vx pv)
    (hvs : ∀ j ∈ own.map (·.2), j ∈ vs) (hv : ∀ i, (kd ks i).kb = true ∨ i ∈ vs) (hbase : attributeBase o "items" X.env (eval o X.env) = eval o X.env := by rfl) (hline : (apos.endLine == cpos.line) = true := by rfl) (hs : ∀ x, foldedSetIterable (.Call (.Attribute o "items" apos) [] [] cpos) X.env x = pure x := by intro _; rfl) :
    QN X ks (.DictComp kx vx [⟨.Tuple elts kk tpos, .Call (.Attribute o "items" apos) [] [] cpos, ifs, 0⟩] scope pos) (pDcS vs p g pt (bdK pk pv)) :=
  PEi (pe_unl (dictc_run hc hN (tb := fun D => tbK D (tK X.K ks pk) (tE X.K ks true true pv)) (vs := vs) (B := fun env D it => bodyK (.compLoop (.DictComp kx vx [⟨.Tuple elts kk tpos, .Call (.Attribute o "items" apos) [] [] cpos, ifs, 0⟩] scope pos) 0 it (.ref D) env) kx vx env D) (pi_itemsT ho hbase hline) ok hg ht (fun s H C cl fp D it => bodyK_run (X := X.blk s H scope (compEnvC scope cl C X.env) fp) rfl hu (hk s H C cl fp) (he s H C cl fp)) (fun _ _ _ _ => clauseD) hvs hs)) fun σ H Q ⟨E, L, γ, Qp, hK, R, hp, k⟩ => by
    refine ⟨E, L, γ, _, hK, R, hp, fun x v q1 r1 => ?_⟩
    cases r1 <;> first | exact q1.elim | skip
    rename_i d ws kvs ks1 xs1 vs1 nA hd e1 e2 e3 e4 rl
    subst e1; subst e3; subst e4
    obtain ⟨im, q1⟩ := q1
    rw [wipeS_eq] at q1
    obtain ⟨nn, q1⟩ := q1
    refine ⟨d, ws, rfl, hd, fun od D nD => ?_⟩
    obtain ⟨bx, by_, bz, bcs, b1, b2, b3, b4⟩ := id R.bag
    have dq : E.B.q ≠ d := fun z => by rw [z, hd] at b1; cases b1
    have dr : E.B.r ≠ d := fun z => by rw [z, hd] at b2; cases b2
    have R1 : Rel (E.bare (upd H d (.frz od (.dT ws)))) [] ks (wipeG γ vs) (L2.wipe σ vs) (upd H d (.frz od (.dT ws))) := (R.wipe vs).bare (upd_ne dq) (upd_ne dr) rfl fun i x e => by
      have := List.all_eq_true.mp nn _ (List.mem_of_getElem? e)
      cases this
    have tp1 : ∀ b us, H b = some (.tup us) → upd H d (.frz od (.dT ws)) b = some (.tup us) := fun b us e => by rw [upd_ne (fun z => by rw [z, hd] at e; cases e)]; exact e
    have x2 : Ex E.B (upd H d (.frz od (.dT ws))) (upd (upd H d (.frz od (.dT ws))) D (.dT [])) := .new nD
    have R2 : Rel (E.bare (upd H d (.frz od (.dT ws)))) [D] ks (wipeG γ vs) (L2.wipe σ vs) (upd (upd H d (.frz od (.dT ws))) D (.dT [])) := R1.more x2 nD (by rw [upd_same]; exact nofun)
    have hl : kvs.length = ws.length := by have := congrArg List.length e2; simpa using this.symm
    have it : ItOk (E.bare (upd H d (.frz od (.dT ws)))) [D] (upd (upd H d (.frz od (.dT ws))) D (.dT [])) true (itemsP kvs) (ItiT d od ws) := by
      refine ⟨fun L H' => H' d = some (.frz od (.dT ws)) ∧ d ∉ L ∧ ∀ A, RpL E.B A H' (kvs.map (·.2)) (ws.map (·.2)), ⟨?_, ?_, ?_⟩, ?_, ?_, ?_⟩
      · exact x2.st _ _ upd_same dq.symm
      · simp only [List.mem_singleton]
        exact fun z => by rw [← z, upd_same] at nD; cases nD
      · exact rl.lk im fun b us e => x2.tp _ _ (tp1 b us e)
      · intro L1 H1 L2 H2 ⟨g1, g2, g3⟩ f
        exact ⟨f.st _ _ g1 g2 dq.symm, fun z => (f.ls d z).elim g2 (fun e => by rw [g1] at e; cases e), (g3 fun _ => True).lk im f.tp⟩
      · intro i L2 H2 ⟨g1, g2, g3⟩ hi
        have hi2 : i < kvs.length := by simpa [itemsP] using hi
        refine ⟨⟨g1, by omega⟩, fun v H3 hy => ?_⟩
        obtain ⟨T, k2, v', q, f1, rfl, nT, hq, rfl⟩ := hy
        have same : (kvs[i]).1 = k2 := by
          have : (kvs.map (·.1))[i]? = (ws.map (·.1))[i]? := by rw [e2]
          rw [List.getElem?_map, List.getElem?_map, f1, List.getElem?_eq_getElem hi2] at this
          exact Option.some.inj this
        refine ⟨.new nT, .tup [.tup ((kvs[i]).1.map kP), (kvs[i]).2], ?_, ?_⟩
        · unfold itemsP
          rw [List.getElem?_map, List.getElem?_eq_getElem hi2]; rfl
        · obtain ⟨u, hu2, ru⟩ := (g3 (av (E.bare (upd H d (.frz od (.dT ws)))) L2 true true)).get (i := i) (p := (kvs[i]).2) (by rw [List.getElem?_map, List.getElem?_eq_getElem hi2]; rfl)
          rw [List.getElem?_map, f1] at hu2
          have e5 := Option.some.inj hu2
          subst e5
          rw [same]
          exact Rp.newT (.cons (.tup (.inl hq) (rp_keys k2)) (.cons ru .nil)) av_q nT
      · intro i L2 H2 ⟨g1, g2, g3⟩ hi
        have hi2 : kvs.length ≤ i := by simpa [itemsP] using hi
        exact ⟨g1, by omega⟩
    obtain ⟨W, w0, turn⟩ := clause_ok (E := E.bare (upd H d (.frz od (.dT ws)))) (L := []) (H1 := upd H d (.frz od (.dT ws))) (a1 := true) (js := own.map (·.2)) hK nD R1.bag (vs := vs) (γ0 := γ) (σ0 := σ) R2 (d := []) ⟨x2, [], upd_same, rfl, .nil⟩ it hvs hv (bodyK_ok (D := D) rfl) q1
    refine ⟨W, w0, fun j m H' w => ?_⟩
    rcases turn j m H' w with ⟨st, d', f', ⟨xb, ws', h1, h2, h3⟩, im', q'⟩ | r
    · refine .inl ⟨st, d, od, .dT ws, hd, trivial, xb.st _ _ upd_same dq.symm, ?_⟩
      have nDd : D ≠ d := fun z => by rw [z, upd_same] at nD; cases nD
      have nH : H D = none := by rw [upd_ne nDd] at nD; exact nD
      refine k _ D _ q' ?_ nH ⟨ws', by rw [upd_ne nDd]; exact h1, h2, h3.lk im' (fun b us e => by rw [upd_ne (fun z => by rw [z, xb.st _ _ upd_same dq.symm] at e; cases e)]; exact e) _⟩
      refine ⟨fun b o e n => ?_, fun b us e => ?_, fun b n => ?_, fun _ => ?_⟩
      · by_cases z : b = d
        · rw [z, upd_same, ← hd, ← z]; exact e
        · rw [upd_ne z]; exact xb.st _ _ (by rw [upd_ne z]; exact e) n
      · have z : b ≠ d := fun z => by rw [z, hd] at e; cases e
        rw [upd_ne z]; exact xb.tp _ _ (tp1 _ _ e)
      · by_cases z : b = d
        · rw [z, upd_same]; exact nofun
        · rw [upd_ne z]; exact xb.nn _ (by rw [upd_ne z]; exact n)
      · exact (xb.bg R1.bag).stay (fun o e => by show upd H' d _ E.B.q = _; rw [upd_ne dq]; exact e) fun o e => by show upd H' d _ E.B.r = _; rw [upd_ne dr]; exact e
    · exact .inr r
end
end Vl
namespace Vl
theorem hv_by {ks : List Kd} {vs : List Nat} (h : (List.range ks.length).all (fun i => (kd ks i).kb || decide (i ∈ vs)) = true) (i : Nat) : (kd ks i).kb = true ∨ i ∈ vs := by
  by_cases hi : i < ks.length
  · have := List.all_eq_true.mp h i (List.mem_range.mpr hi)
    simpa using this
  · refine .inl ?_
    unfold kd
    rw [List.getD_eq_getElem?_getD, List.getElem?_eq_none (by omega)]; rfl
end Vl
namespace Vl
open PySem PySem.Spec L2 Lb
/-! ### min of a list of pairs of whole numbers -/
def minP (x : Int × Int) (xs : List (Int × Int)) : Int × Int := PySem.W.minOf x xs
theorem minP_eq (x : Int × Int) : ∀ xs : List (Int × Int), ∀ x, minP x xs ∈ x :: xs ∧ ∀ y ∈ x :: xs, leP (minP x xs) y
  | [], x => ⟨by simp [minP, PySem.W.minOf], fun y m => by simp at m; subst m; simp [minP, PySem.W.minOf, leP]⟩
  | z :: zs, x => by
    have st : minP x (z :: zs) = minP (if PySem.W.DatumOrd.lt z x = true then z else x) zs := rfl
    have lt : PySem.W.DatumOrd.lt z x = true ↔ z.1 < x.1 ∨ (z.1 = x.1 ∧ z.2 < x.2) := by
      show (if z.1 = x.1 then decide (z.2 < x.2) else decide (z.1 < x.1)) = true ↔ _
      by_cases h : z.1 = x.1
      · rw [if_pos h]; simp [h]
      · rw [if_neg h]; simp [h]
    rw [st]
    by_cases h : PySem.W.DatumOrd.lt z x = true
    · rw [if_pos h]
      obtain ⟨h1, h2⟩ := minP_eq x zs z
      refine ⟨List.mem_cons_of_mem _ h1, fun y m => ?_⟩
      rcases List.mem_cons.mp m with rfl | m
      · have := h2 z (by simp)
        have := lt.mp h
        unfold leP at *; omega
      · exact h2 y m
    · rw [if_neg h]
      obtain ⟨h1, h2⟩ := minP_eq x zs x
      refine ⟨?_, fun y m => ?_⟩
      · rcases List.mem_cons.mp h1 with e | m
        · rw [e]; simp
        · simp [m]
      · rcases List.mem_cons.mp m with rfl | m
        · exact h2 _ (by simp)
        · rcases List.mem_cons.mp m with rfl | m
          · have := h2 x (by simp)
            have nl : ¬ (y.1 < x.1 ∨ (y.1 = x.1 ∧ y.2 < x.2)) := fun z => h (lt.mpr z)
            unfold leP at *; omega
          · exact h2 y (by simp [m])
def rMinP (K : Fg) : List V → Hp → VK → Prop := fun vs H Q => ∃ (a : Addr) (l : List (Addr × Int × Int)), vs = [V.ref a] ∧ SqL K H a (l.map fun x => .ref x.1) ∧ (∀ x ∈ l, STp K H x.1 [.int x.2.1, .int x.2.2]) ∧ l ≠ [] ∧
  ∀ x ∈ l, (∀ y ∈ l, leP x.2 y.2) → Q (.ref x.1) H
theorem cr_minP {X : Cx} (hc : X.calm = true) (hu : X.A.units + 64 < cLine) : CallR X (.builtin "min") (rMinP X.K) := by
  intro pins s σ H vs us Q I r h
  obtain ⟨a, l, rfl, hs, hx, hne, q⟩ := h
  rw [Vals.ref1 r]
  obtain ⟨its, rv, pl, hz⟩ := I.list hs
  have e := vals_refs rv
  subst e
  have one : ∀ x ∈ l, PySem.W.Holds s.heap (.ref x.1) x.2 := fun x m => by
    obtain ⟨o, t1, t2, n, ho, hc, hd⟩ := stp_pair I (hx x m)
    exact ⟨_, .tuple ho hc hd (.cons (.int x.2.1 t1) (.cons (.int x.2.2 t2) .nil))⟩
  have all : ∀ l' : List (Addr × Int × Int), (∀ x ∈ l', x ∈ l) → PySem.W.HoldAll s.heap (l'.map fun x => Value.ref x.1) (l'.map (·.2)) := fun l' => by
    induction l' with
    | nil => exact fun _ => .nil
    | cons x t ih => exact fun h => .cons (one x (h x (by simp))) (ih fun y m => h y (by simp [m]))
  cases l with
  | nil => exact absurd rfl hne
  | cons x0 xs =>
    refine PySem.W.min_list_datum (α := Int × Int) (x := x0.2) (xs := xs.map (·.2)) (I.ok.hd hc) pl.isList (by simpa using all (x0 :: xs) fun _ m => m) (by show X.A.units + 1 + 1 < cLine; omega) fun i v h' tk hi hv hk => ?_
    rw [List.getElem?_toArray, List.getElem?_map] at hi
    obtain ⟨x, hx0, rfl⟩ := Option.map_eq_some_iff.mp hi
    have mx : x ∈ x0 :: xs := List.mem_of_getElem? hx0
    have I2 : Inv X pins σ H { s with heap := h', toks := tk } := I.kept hk
    -- what stands there is the least
    obtain ⟨o, t1, t2, n, ho, hc2, hd⟩ := stp_pair I (hx x mx)
    have val : x.2 = PySem.W.minOf x0.2 (xs.map (·.2)) := by
      obtain ⟨as, rr⟩ := hv
      have ho' := hk _ _ ho
      generalize hm : PySem.W.minOf x0.2 (xs.map (·.2)) = mm at rr
      have e1 : (PySem.W.Datum.toD mm : PyData) = .tuple [.int mm.1, .int mm.2] := rfl
      rw [e1] at rr
      cases rr with
      | tuple g1 g2 g3 g4 =>
        rw [ho'] at g1; cases g1
        rw [hd] at g3; cases g3
        have g4 : ReadsAll h' [Value.int x.2.1 t1, Value.int x.2.2 t2] [.int mm.1, .int mm.2] _ := g4
        cases g4 with
        | cons a b =>
        cases b with
        | cons b c =>
        have i1 : x.2.1 = mm.1 := by obtain ⟨t, e⟩ := reads_int a; exact (Value.int.inj e).1
        have i2 : x.2.2 = mm.2 := by obtain ⟨t, e⟩ := reads_int b; exact (Value.int.inj e).1
        exact Prod.ext i1 i2
    have le := (minP_eq x0.2 (xs.map (·.2)) x0.2).2
    refine ⟨.ref x.1, H, I2, rfl, q x mx fun y my => ?_⟩
    rw [val]
    refine le y.2 ?_
    rcases List.mem_cons.mp my with rfl | my
    · simp
    · exact List.mem_cons_of_mem _ (List.mem_map.mpr ⟨y, my, rfl⟩)
def bMinP : PCl
  | [.lst xs], Q => match pPairs xs with | some ns => ns ≠ [] ∧ ∀ n ∈ ns, (∀ m ∈ ns, leP n m) → Q (pr2 n) | none => False
  | _, _ => False
theorem minP_ok {K : Fg} : CallS K (rMinP K) bMinP := by
  intro B H xs vs Q Qp hK r h k
  subst hK
  match xs, r, h with
  | [_], .cons r .nil, h =>
    cases r <;> first | exact (h : False).elim | skip
    rename_i b ws ys n h1 r1
    have h' : (match pPairs ys with | some ns => ns ≠ [] ∧ ∀ n ∈ ns, (∀ m ∈ ns, leP n m) → Qp (pr2 n) | none => False) := h
    cases e : pPairs ys with
    | none => rw [e] at h'; exact h'.elim
    | some ns =>
      rw [e] at h'
      obtain ⟨l, e1, e2, e3⟩ := pairs_ok r1 e
      subst e1; subst e2
      refine ⟨b, l, rfl, .inl (.inl h1), e3, fun z => h'.1 (by rw [z]; rfl), fun x m hm => k _ _ _ (h'.2 x.2 (List.mem_map.mpr ⟨x, m, rfl⟩) fun y my => ?_) (.refl _ _) fun A aq nn => ?_⟩
      · obtain ⟨z, mz, rfl⟩ := List.mem_map.mp my
        exact hm z mz
      · exact .tup (e3 x m) (.cons (.int _) (.cons (.int _) .nil))
  | [], _, h => exact (h : False).elim
  | _ :: _ :: _, .cons r _, h => cases r <;> exact (h : False).elim
end Vl
namespace Vl
open PySem PySem.Spec L2 Lb PyProof.Rows
section
variable {X : Cx} {ks : List Kd}
/-! ### chains of comparisons of any length, as a test: link by link -/
/-- what is left of a chain behind a value -/
def QCh (X : Cx) (ks : List Kd) (ops : List CmpOp) (es : List Expr) (c : PV → GT) : Prop :=
  ∀ (pos : Pos) (pins : List (Addr × Obj)) (s : Shared) (σ : L2.St) (H : Hp) (Q : Bool → Hp → Prop) (E : Ac) (L : List Addr) (γ : G) (x : PV) (v : V) (v' : Value) (Qp : Bool → Prop),
    Inv X pins σ H s → RelV v v' → E.B.K = X.K → Rel E L ks γ σ H → Rp E.B (fun b => b = E.B.q) H x v → c x γ Qp → (∀ b H', Qp b → Ex E.B H H' → Q b H') →
    wpAny (model X.prog X.w) X.A (testChain pos v' ops (evalEach es X.env)) (TP X pins σ Q) X.xe s
def pLast (o : PO2) (b : GE) : PV → GT := fun x γ Q => b γ fun y => o x y fun z => match z with | .bl k => Q k | _ => False
def pLink (o : PO2) (b : GE) (c : PV → GT) : PV → GT := fun x γ Q => b γ fun y => o x y fun z => match z with | .bl k => bfi k (c y γ Q) (Q false) | _ => False
def pHead (a : GE) (c : PV → GT) : GT := fun γ Q => a γ fun x => c x γ Q
theorem qch_last {op : CmpOp} {r : R2} {o : PO2} {a1 s1 : Bool} {e : Expr} {p : GE} (hr : OpR X (compareOp op) r) (ho : OpS X.K r o) (he : QE X ks a1 s1 e p) : QCh X ks [op] [e] (pLast o p) := by
  intro pos pins s σ H Q E L γ x v v' Qp I rv hK R rx h k
  have hrun := he.run pins s σ H (fun u H2 => r v u H2 fun z H3 => ∃ b, z = .bl b ∧ Q b H3) I ⟨E, L, γ, _, hK, R, h, fun y u H2 q2 x2 r2 => by
    refine ho E.B H2 x y v u _ _ hK (rx.ex x2 rfl) r2.q q2 fun z t H3 qz x3 rz => ?_
    have := rz fun _ => False
    cases this <;> first | exact qz.elim | exact ⟨_, rfl, k _ _ qz (x2.trans x3)⟩⟩
  refine test_last (thn hrun ?_)
  rintro u' s2 ⟨u, H2, I2, r2, q2⟩
  refine thn (hr pins s2 σ H2 v u v' u' _ I2 rv r2 q2) ?_
  rintro d s3 ⟨z, H3, I3, r3, b, rfl, q3⟩
  cases r3
  exact wpAny_truthy_bool ⟨H3, I3, q3⟩
theorem qch_link {op op' : CmpOp} {ops : List CmpOp} {r : R2} {o : PO2} {a1 s1 : Bool} {e e' : Expr} {es : List Expr} {p : GE} {c : PV → GT} (hr : OpR X (compareOp op) r) (ho : OpS X.K r o) (he : QE X ks a1 s1 e p)
    (hc : QCh X ks (op' :: ops) (e' :: es) c) : QCh X ks (op :: op' :: ops) (e :: e' :: es) (pLink o p c) := by
  intro pos pins s σ H Q E L γ x v v' Qp I rv hK R rx h k
  have hrun := he.run pins s σ H (fun u H2 => r v u H2 fun z H3 => ∃ b, z = .bl b ∧ ((b = false ∧ Q false H3) ∨ (b = true ∧ ∃ y, Rel E L ks γ σ H3 ∧ Rp E.B (fun b => b = E.B.q) H3 y u ∧ c y γ Qp ∧ Ex E.B H H3))) I ⟨E, L, γ, _, hK, R, h, fun y u H2 q2 x2 r2 => by
    refine ho E.B H2 x y v u _ _ hK (rx.ex x2 rfl) r2.q q2 fun z t H3 qz x3 rz => ?_
    have := rz fun _ => False
    cases this <;> first | exact qz.elim | skip
    rename_i b
    cases b with
    | true => exact ⟨_, rfl, .inr ⟨rfl, y, (R.ex x2).ex x3, (r2.ex x3 av_q).q, qz, x2.trans x3⟩⟩
    | false => exact ⟨_, rfl, .inl ⟨rfl, k _ _ qz (x2.trans x3)⟩⟩⟩
  refine test_link (thn hrun ?_)
  rintro u' s2 ⟨u, H2, I2, r2, q2⟩
  refine thn (hr pins s2 σ H2 v u v' u' _ I2 rv r2 q2) ?_
  rintro d s3 ⟨z, H3, I3, r3, b, rfl, q3⟩
  cases r3
  refine wpAny_truthy_bool ?_
  rcases q3 with ⟨rfl, q⟩ | ⟨rfl, y, R3, ry, hy, x3⟩
  · exact ite_ff ⟨H3, I3, q⟩
  · exact ite_tt (hc pos pins s3 σ H3 Q E L γ y u u' Qp I3 r2 hK R3 ry hy fun b H' q x4 => k b H' q (x3.trans x4))
theorem qt_links {op op' : CmpOp} {ops : List CmpOp} {a1 s1 : Bool} {e1 e e' : Expr} {es : List Expr} {p : GE} {c : PV → GT} (h1 : QE X ks a1 s1 e1 p) (hc : QCh X ks (op :: op' :: ops) (e :: e' :: es) c)
    (hm : lastMarks (op :: op' :: ops) (e :: e' :: es) = false := by with_unfolding_all rfl) : QT X ks (.Compare e1 (op :: op' :: ops) (e :: e' :: es) pos) (pHead p c) := by
  refine ⟨fun pins s σ H Q I ⟨E, L, γ, Qp, hK, R, h, k⟩ => ?_⟩
  have hrun := h1.run pins s σ H (fun v H2 => ∃ x, Rel E L ks γ σ H2 ∧ Rp E.B (fun b => b = E.B.q) H2 x v ∧ c x γ Qp ∧ Ex E.B H H2) I ⟨E, L, γ, _, hK, R, h, fun x v H2 q2 x2 r2 => ⟨x, R.ex x2, r2.q, q2, x2⟩⟩
  refine isTrue_chain (thn hrun ?_) hm
  rintro v' s1 ⟨v, H2, I2, rv, x, R2, rx, hx, x2⟩
  exact hc pos pins s1 σ H2 Q E L γ x v v' Qp I2 rv hK R2 rx hx fun b H' q x3 => k b H' q (x2.trans x3)
end
end Vl
namespace Vl
open PySem PySem.Spec L2 Lb
/-! ### a tuple times a number -/
def oMulT : PO2
  | .tup xs, .int k, Q => (xs ≠ [] ∧ 2 ≤ k ∧ k ≤ 1000 ∧ xs.length ≤ 1000) ∧ Q (.tup (List.replicate k.toNat xs).flatten)
  | _, _, _ => False
theorem mulT_ok {K : Fg} : OpP K (rRepT K) oMulT := by
  intro B A H x y v u Q Qp hK aq nn rx ry h k
  cases rx <;> cases ry <;> first | exact (h : False).elim | skip
  rename_i b vs xs h1 r1 i
  subst hK
  exact ⟨_, _, _, rfl, rfl, h1.sq, fun z => h.1.1 (r1.nil_iff.mpr z), h.1.2.1, h.1.2.2.1, by rw [← r1.length]; exact h.1.2.2.2, fun p np => k _ _ _ h.2 (.new np) (Rp.newT (r1.flat _) aq np)⟩
theorem qe_mulT {X : Cx} {ks : List Kd} {a s a1 s1 a2 s2 : Bool} {e1 e2 : Expr} {p1 p2 : GE} {pos : Pos} (h1 : QE X ks a1 s1 e1 p1) (h2 : QE X ks a2 s2 e2 p2) (ha : a = (a1 && a2) := by rfl) (hb : s = (s1 && s2) := by rfl) : QE X ks a s (.BinOp e1 .Mult e2 pos) (pOp oMulT p1 p2) := by
  subst ha hb
  exact qe_op2 mulT_ok (pe_op op_repT) h1 h2
end Vl
namespace Vl
open PySem PySem.Spec L2 Lb PyProof.Rows
/-! ### self.f, self.g = x, y -/
section
variable {X : Cx} {ks kl : List Kd}
/-- one field set, the value at hand -/
theorem fld_go (c j : Nat) {f : Str} (cl : Cls X.K (He.ga X.K (clsT c).1)) (na : NoAttr X.K (He.ga X.K (clsT c).1) f) {E : Ac} {L : List Addr} {γ : G} {σ : L2.St} {H : Hp} (hK : E.B.K = X.K) (R1 : Rel E L ks γ σ H) (hk : ks[0]? = some .slf)
    (hf : (clsT c).2[j]? = some f ∧ (clsT c).2.Nodup) {y : PV} {u : V} (ry : Rp E.B (av E L true true) H y u) {N : G → Prop} {T : L2.St → Hp → Prop}
    (q1 : getS γ 0 fun x => match x with | .ins c' fs => c' = c ∧ j ≤ fs.length ∧ N (γ.set 0 (some (.ins c' (if j = fs.length then fs ++ [y] else fs.set j y)))) | _ => False)
    (nx : ∀ γ' H' b o, b ∈ L → (∀ vs, H b ≠ some (.tup vs)) → H' = upd H b o → Rel E L ks γ' σ H' → N γ' → T σ H') :
    ∃ v, σ[0]? = some (some v) ∧ ∃ a C dx fs, v = .ref a ∧ H a = some (.ins C dx fs) ∧ Cls X.K C ∧ NoAttr X.K C f ∧ fs.length < 1000 ∧ T σ (upd H a (.ins C dx (putF f u fs))) := by
  have R := R1
  obtain ⟨x, hx, q⟩ := getS_of q1
  obtain ⟨O, h1, h2, h3, h4⟩ := R1.sl
  obtain ⟨v, hv, k⟩ := h1 0 x hx
  rw [getElem?_kd hk] at k
  obtain ⟨b, rfl, ho, ⟨⟨c', fs, rfl⟩, hme⟩, ob⟩ := k
  have nt := ob.nt
  obtain ⟨dx, ws, g1, g2, g3⟩ := ob
  obtain ⟨rfl, hj, q⟩ := q
  have hb : b ∈ L := h2 0 b (by rw [ho]; simp)
  have hl : fs.length = ws.length := by rw [g3.length]; simp
  have hr : b ≠ E.B.r := fun z => R.ar (by rw [← z]; exact (R.lf b hb).1)
  have hn : ws.length < 1000 := by
    have : ws.length ≤ (clsT c').2.length := by
      have := congrArg List.length g2; simp at this; omega
    have h10 : (clsT c').2.length ≤ 5 := by
      rcases c' with _ | _ | _ | _ | _ | _ | _ | _ | _ | _ | _ <;> simp [clsT]
    omega
  refine ⟨.ref b, hv, b, _, dx, ws, rfl, by rw [← hK]; exact g1, cl, na, hn, ?_⟩
  rw [← hK]
  have hp2 := putF_at (v := u) (by rw [← hl]; exact g2) hf.2 hf.1 (by rw [← hl]; exact hj)
  rw [hp2]
  have ob' : Ob E.B (av E L true true) (upd H b (.ins (He.ga E.B.K (clsT c').1) dx (if j = ws.length then ws ++ [(f, u)] else ws.set j (f, u)))) b (.ins c' (if j = fs.length then fs ++ [y] else fs.set j y)) := by
    refine ⟨dx, _, upd_same, ?_, ?_⟩
    · by_cases hjl : j = ws.length
      · rw [if_pos hjl, if_pos (by omega)]
        simp only [List.map_append, List.map_cons, List.map_nil, List.length_append, List.length_cons, List.length_nil, g2]
        rw [List.take_add_one, hl, ← hjl, hf.1]; rfl
      · rw [if_neg hjl, if_neg (by omega)]
        rw [List.map_set, g2, List.length_set]
        apply set_self
        rw [List.getElem?_take, if_pos (by omega)]; exact hf.1
    · by_cases hjl : j = ws.length
      · rw [if_pos hjl, if_pos (by omega), List.map_append]
        exact (g3.upL hb nt).append (.cons (ry.upL hb nt) .nil)
      · rw [if_neg hjl, if_neg (by omega), List.map_set]
        exact (g3.upL hb nt).set j (ry.upL hb nt)
  refine nx _ _ b _ hb nt rfl ?_ q
  have := R1.put (i := 0) (k := .slf) (x := .ins c' (if j = fs.length then fs ++ [y] else fs.set j y)) (v := .ref b) (O' := [b]) (.upd (o := .ins (He.ga E.B.K (clsT c').1) dx (if j = ws.length then ws ++ [(f, u)] else ws.set j (f, u))) hb nt) (fun c m n u e => by rw [upd_ne (fun z => n (by simp [z]))]; exact e)
    (fun c u e n => by rw [upd_ne (fun z => by rw [z, (R.lf b hb).1] at e; cases e)]; exact R1.old c u e n) (R1.bag.stay (fun u e => by rw [upd_ne (R.lq hb).symm]; exact e) fun u e => by rw [upd_ne hr.symm]; exact e)
    (fun c m => .inl m) (fun c m => (Fw.upd (B := E.B) hb nt).nn c (R1.lf c m).2) (fun _ h => h) ⟨b, rfl, rfl, ⟨⟨_, _, rfl⟩, hme⟩, ob'⟩ (fun c m => by simp at m; rw [m]; exact hb) (by simp) (fun O' k2 k3 k1 j' c hj hc m => by
      simp at hc; subst hc
      obtain ⟨w, hw, kw⟩ := k1 0 _ hx
      rw [hv] at hw; cases hw
      rw [getElem?_kd hk] at kw
      obtain ⟨d, e1, e2, _⟩ := kw
      cases e1
      exact hj (k3 j' 0 c m (by rw [e2]; simp))) (List.getElem?_eq_some_iff.mp hk).1
  rw [set_same hk, set_self hv] at this
  exact this
def gFldT (K : PySem.W.Frag) (ta : TE) (f : Str) : TG := fun v σ H Q => ta σ H fun x H2 => ∃ a C dx fs, x = .ref a ∧ H2 a = some (.ins C dx fs) ∧ Cls K C ∧ NoAttr K C f ∧ fs.length < 1000 ∧ Q σ (upd H2 a (.ins C dx (putF f v fs)))
theorem pg_fld {o : Expr} {f : Str} {ta : TE} {pos : Pos} (ha : PE X o ta) : PG X (.Attribute o f pos) (gFldT X.K ta f) := by
  refine ⟨fun pins s σ H v u Q I r h => ?_⟩
  rw [assign_Attribute]
  refine wpAny_bind (wpAny_holding (thn (ha.run pins s σ H _ I h) fun ov s1 rr => ?_))
  obtain ⟨x, H1, I1, r1, a, C, dx, fs, ex, ea, c, n, l, q⟩ := rr
  subst ex
  obtain rfl : ov = Value.ref a := r1
  refine wpAny_bind (wpAny_standAt (wpAny_bind (wpAny_holding (setattr_ok I1 ea c n l r fun s3 I3 => ?_))))
  exact wpAny_release ⟨σ, _, I3, q⟩
def xFld2 (c j1 j2 : Nat) (pa : GA) : GS := fun D γ => pa γ fun xs => match xs with
  | [x, y] => pFldS c j1 (fun _ Q => Q x) { D with nx := pFldS c j2 (fun _ Q => Q y) D } γ
  | _ => False
theorem xs_fld2 (c j1 j2 : Nat) {f1 f2 : Str} {st : Stmt} {es : List Expr} {pa : GA} (cl : Cls X.K (He.ga X.K (clsT c).1)) (na1 : NoAttr X.K (He.ga X.K (clsT c).1) f1) (na2 : NoAttr X.K (He.ga X.K (clsT c).1) f2)
    (pe : ∀ {t : TA}, PA X es t → PS X st (tAsg (tTup t) (gTup X.K 2 (gCons (gFldT X.K (tVar 0) f1) (gCons (gFldT X.K (tVar 0) f2) gNil))))) (h : QA X ks true true es pa) (hk : ks[0]? = some .slf := by rfl)
    (hf1 : (clsT c).2[j1]? = some f1 ∧ (clsT c).2.Nodup := by decide +kernel) (hf2 : (clsT c).2[j2]? = some f2 ∧ (clsT c).2.Nodup := by decide +kernel) : QS X ks ks kl st (xFld2 c j1 j2 pa) :=
  PSi (pe h) fun D σ H ⟨E, L, γ, Dp, hK, R, hp, nx, rt, bk, ct⟩ => by
    refine ⟨E, L, γ, _, hK, R, hp, fun xs vs H1 q1 x1 r1 l1 => ?_⟩
    obtain ⟨x, y, rfl⟩ : ∃ x y, xs = [x, y] := by
      match xs, q1 with
      | [x, y], _ => exact ⟨x, y, rfl⟩
    obtain ⟨u, w, rfl, rx, ry⟩ : ∃ u w, vs = [u, w] ∧ Rp E.B (av E L true true) H1 x u ∧ Rp E.B (av E L true true) H1 y w := by
      cases r1 with
      | cons rx r2 => cases r2 with
        | cons ry r3 => cases r3; exact ⟨_, _, rfl, rx, ry⟩
    refine ⟨few (show 2 ≤ 1000 by decide), fun p np => ?_⟩
    have x2 : Ex E.B H1 (upd H1 p (.tup [u, w])) := .new np
    have R2 := (R.ex x1).ex x2
    refine ⟨p, [u, w], rfl, .inl (.inl upd_same), rfl, _, _, rfl, ?_⟩
    refine fld_go (T := fun σ' H' => gCons (gFldT X.K (tVar 0) f2) gNil [w] σ' H' D.nx) c j1 cl na1 hK R2 hk hf1 (rx.ex x2 av_q) q1 fun γ1 H3 b o hb nt e3 R3 q3 => ?_
    subst e3
    refine ⟨_, _, rfl, ?_⟩
    refine fld_go (T := fun σ' H' => gNil [] σ' H' D.nx) c j2 cl na2 hK R3 hk hf2 ((ry.ex x2 av_q).upL hb nt) q3 fun γ2 H4 b2 o2 hb2 nt2 e4 R4 q4 => ?_
    subst e4
    exact ⟨rfl, nx L _ _ _ ((x1.trans x2).fw.trans ((Fw.upd hb nt).trans (Fw.upd hb2 nt2))) R4 q4⟩
end
end Vl
namespace Vl
open PySem PySem.Spec PyProof.Rows L2 Lb
/-! ### len({sign for sign in text}) -/
def setB (c : Code) (elt : Expr) (env : Env) (acc : Value) : Sem PySem.Fin := do
  (do let v ← eval elt env; standAt elt.pos; let _ ← call (.builtin "set.add") [acc, v])
  again c
def tbS (P : Program) (w : World) (D : Addr) (te : TE) : L2.St → Hp → (Hp → Prop) → Prop := fun σ H N => te σ H fun y H1 => ∃ (k : Key) (S : Key → Bool) (n : Nat), y = kV k ∧ H1 D = some (SetK P w D S n) ∧ n + 1 < scanBound ∧ N (upd H1 D (SetK P w D (fun j => S j || decide (j = k)) (if S k = true then n else n + 1)))
theorem setB_run {X : Cx} {c : Code} {elt : Expr} {te : TE} {vs : List Nat} {D : Addr} (hx : X.xe = fun _ _ => False) (he : PE X elt te) : PBody X vs c (setB c elt X.env (.ref D)) (tbS X.prog X.w D te) := by
  intro pins s σ H N I h
  have r1 := he.run pins s σ H _ I h
  rw [hx] at r1
  unfold setB
  refine wpAny_bind (wpAny_bind (thnF r1 fun u s1 rr => ?_))
  obtain ⟨y, H4, I4, ry, k, S, n, ey, hD, room, nx⟩ := rr
  subst ey
  have ad := mt_saddK pins s1 σ H4 (.ref D) [kV k] (.ref D) [u] (fun _ H' => N H') I4 rfl (.cons ry .nil) ⟨D, k, S, n, rfl, rfl, hD, room, nx⟩
  rw [hx] at ad
  refine wpAny_bind (wpAny_standAt (wpAny_bind (thnF ad fun _ s2 rr => ?_)))
  obtain ⟨_, H5, I5, _, nx⟩ := rr
  exact wpAny_pure (wpAny_pure ⟨rfl, σ, H5, I5, rfl, nx⟩)
theorem clauseS {prog : Program} {w : World} {A : Around} {elt t0 i0 : Expr} {f0 : List Expr} {scope : Scope} {p : Pos} {it acc : Value} {env : Env} : Clause prog w A (.SetComp elt [⟨t0, i0, f0, 0⟩] scope p) 0 it acc env t0 i0 f0 (setB (.compLoop (.SetComp elt [⟨t0, i0, f0, 0⟩] scope p) 0 it acc env) elt env acc) := ⟨rfl, rfl, rfl, rfl⟩
theorem setK_fresh {P : Program} {w : World} (h : Heap) : (h.push { cls := .type "set", dict := none, data := .set #[] 0 (.fresh 0 0 (!w.params.followText "set-order")) }).SetOf (mixKind P w) h.objs.size (fun _ => false) 0 :=
  ⟨_, #[], 0, _, Heap.get?_push_size _ rfl, ⟨rfl, rfl, rfl⟩, rfl, (fun e he => by simp at he), (fun k => by simp), (by decide), (by rfl), rfl⟩
def tSetC (P : Program) (w : World) (wi : TI) (g : TG) (tt : TT) (tb : Addr → L2.St → Hp → (Hp → Prop) → Prop) (vs : List Nat) : TE := fun σ H Q => wi σ H fun J H1 => ∀ D, H1 D = none → tClause J g tt (tb D) vs (wipe σ vs) (upd H1 D (SetK P w D (fun _ => false) 0)) fun H' => Q (.ref D) H'
theorem setc_run {X : Cx} (hc : X.calm = true) (hN : X.N.Nodup) {elt tg iter : Expr} {ifs : List Expr} {scope : Scope} {own : List (Str × Nat)} {pos : Pos} {B : Env → Addr → Value → Sem PySem.Fin} {wi : TI} {g : TG} {tt : TT} {tb : Addr → L2.St → Hp → (Hp → Prop) → Prop} {vs : List Nat}
    (hi : PI X tg iter wi) (ok : BlkOk X.N X.env.scope scope own)
    (hg : ∀ (s : Shared) (H : Hp) (C : Addr) (cl : List (Str × Addr)) (fp : List Addr), PG (X.blk s H scope (compEnvC scope cl C X.env) fp) tg g) (ht : ∀ (s : Shared) (H : Hp) (C : Addr) (cl : List (Str × Addr)) (fp : List Addr), PTs (X.blk s H scope (compEnvC scope cl C X.env) fp) ifs tt)
    (hb : ∀ (s : Shared) (H : Hp) (C : Addr) (cl : List (Str × Addr)) (fp : List Addr) (D : Addr) (it : Value), PBody (X.blk s H scope (compEnvC scope cl C X.env) fp) vs (.compLoop (.SetComp elt [⟨tg, iter, ifs, 0⟩] scope pos) 0 it (.ref D) (compEnvC scope cl C X.env)) (B (compEnvC scope cl C X.env) D it) (tb D))
    (hC : ∀ (it : Value) (D C : Addr) (cl : List (Str × Addr)), Clause X.prog X.w X.A (.SetComp elt [⟨tg, iter, ifs, 0⟩] scope pos) 0 it (.ref D) (compEnvC scope cl C X.env) tg iter ifs (B (compEnvC scope cl C X.env) D it))
    (hvs : ∀ j ∈ own.map (·.2), j ∈ vs) (hs : ∀ x, foldedSetIterable iter X.env x = pure x := by intro _; rfl) :
    PE X (.SetComp elt [⟨tg, iter, ifs, 0⟩] scope pos) (tSetC X.prog X.w wi g tt tb vs) := by
  refine ⟨fun pins s σ H Q I h => ?_⟩
  have cells : ∀ y ∈ scope.names, y.2 = .free → ∃ c, X.env.cells.lookup y.1 = some c := by
    intro y hy e
    rcases ok.free y hy e with k | k
    · exact I.ok.has _ (.inl k)
    · exact I.ok.has _ (.inr k)
  have uniq : ∀ y ∈ scope.names, y.2 = .local → scope.names.lookup y.1 = some .local := by
    intro y hy e
    rw [ok.uniq y hy, e]
  rw [PpSet.eval_SetComp]
  refine wpAny_comprehension_free (use := none) rfl hs (closure_ok cells) ok.kind uniq (thn (hi.run pins s σ H _ I h) fun xv s1 hx => thn hx fun itv s2 h2 => ?_)
  obtain ⟨it, fp, tn, J, H2, rfl, I2, T, st2, f2, q⟩ := h2
  refine PpSet.newSet_ok (newEnv_comp ?_)
  have q := q s2.heap.objs.size (I2.hok.fresh (Nat.le_refl _))
  have low : ∀ b ∈ fp, b < s2.heap.objs.size := by
    intro b hb
    obtain ⟨o, e, _⟩ := T.obj _ _ st2 b hb
    exact Heap.lt_size e
  have I3 : Inv X pins σ (upd H2 s2.heap.objs.size (SetK X.prog X.w s2.heap.objs.size (fun _ => false) 0)) { s2 with heap := s2.heap.push { cls := .type "set", dict := none, data := .set #[] 0 (.fresh 0 0 (!X.w.params.followText "set-order")) } } :=
    I2.laid (t' := s2.toks) (fun b o e => Heap.get?_push_of_some _ e) (Nat.le_refl _) (setK_new (setK_fresh s2.heap))
  have f3 : ∀ b ∈ fp, FpOk X pins (upd H2 s2.heap.objs.size (SetK X.prog X.w s2.heap.objs.size (fun _ => false) 0)) b ∧ b < (s2.heap.push { cls := .type "set", dict := none, data := .set #[] 0 (.fresh 0 0 (!X.w.params.followText "set-order")) }).objs.size := by
    intro b hb
    have lt := low b hb
    refine ⟨⟨?_, (f2 b hb).2⟩, by rw [Heap.size_push]; exact Nat.lt_succ_of_lt lt⟩
    rw [upd_ne (Nat.ne_of_lt lt)]
    exact (f2 b hb).1
  have I4 := (block_start I3 ok hN f3).weak (σ' := L2.wipe σ vs) (by rw [wipe_length, wipe_length]) fun i v e => by
    obtain ⟨h1, h2⟩ := wipe_some e
    rw [wipe_out fun z => h2 (hvs i z)]
    exact h1
  have st4 : tn 0 (pushCells ((s2.heap.push { cls := .type "set", dict := none, data := .set #[] 0 (.fresh 0 0 (!X.w.params.followText "set-order")) }).push { cls := .type "dict", data := .dict #[] }) scope.names) :=
    T.keep _ _ _ st2 fun b _ o e => pushCells_keeps _ _ _ _ (Heap.get?_push_of_some _ (Heap.get?_push_of_some _ e))
  have f4 : ∀ b ∈ fp, FpOk (X.blk { s2 with heap := s2.heap.push { cls := .type "set", dict := none, data := .set #[] 0 (.fresh 0 0 (!X.w.params.followText "set-order")) } } (upd H2 s2.heap.objs.size (SetK X.prog X.w s2.heap.objs.size (fun _ => false) 0)) scope (compEnvC scope (cellsFrom ((s2.heap.push { cls := .type "set", dict := none, data := .set #[] 0 (.fresh 0 0 (!X.w.params.followText "set-order")) }).objs.size + 1) scope.names (cloFrom X.env.cells scope.names [])) (s2.heap.push { cls := .type "set", dict := none, data := .set #[] 0 (.fresh 0 0 (!X.w.params.followText "set-order")) }).objs.size X.env) fp) [] (upd H2 s2.heap.objs.size (SetK X.prog X.w s2.heap.objs.size (fun _ => false) 0)) b := by
    intro b hb
    exact ⟨(f3 b hb).1.1, (I4.ok.exf b hb).1, I4.ok.exfs b hb, .inl hb, fun x c e => (I4.ok.exf b hb).2 x c e, fun p hp => by cases hp⟩
  have run := clause_run (X := X.blk { s2 with heap := s2.heap.push { cls := .type "set", dict := none, data := .set #[] 0 (.fresh 0 0 (!X.w.params.followText "set-order")) } } (upd H2 s2.heap.objs.size (SetK X.prog X.w s2.heap.objs.size (fun _ => false) 0)) scope (compEnvC scope (cellsFrom ((s2.heap.push { cls := .type "set", dict := none, data := .set #[] 0 (.fresh 0 0 (!X.w.params.followText "set-order")) }).objs.size + 1) scope.names (cloFrom X.env.cells scope.names [])) (s2.heap.push { cls := .type "set", dict := none, data := .set #[] 0 (.fresh 0 0 (!X.w.params.followText "set-order")) }).objs.size X.env) fp) hc rfl (hC (.ref it) s2.heap.objs.size _ _) T (hg _ _ _ _ _) (ht _ _ _ _ _) (hb _ _ _ _ _ s2.heap.objs.size (.ref it)) I4 st4 f4 q
  have fin := codeAny_mono (R' := compPost (model X.prog X.w) X.A X.xe none (EP X pins σ Q) (.ref s2.heap.objs.size) (s2.heap.push { cls := .type "set", dict := none, data := .set #[] 0 (.fresh 0 0 (!X.w.params.followText "set-order")) }).objs.size) run fun r s6 h6 => by
    obtain ⟨rfl, H6, I6, qd⟩ := h6
    obtain ⟨m, hn, _⟩ := I6.loc
    have hn : s6.heap.Ns (s2.heap.push { cls := .type "set", dict := none, data := .set #[] 0 (.fresh 0 0 (!X.w.params.followText "set-order")) }).objs.size m := hn
    have nC : H6 (s2.heap.push { cls := .type "set", dict := none, data := .set #[] 0 (.fresh 0 0 (!X.w.params.followText "set-order")) }).objs.size = none := I6.free
    have I7 : Inv X pins σ H6 s6 := I3.call' (ch := fp) I6.os I6.base I6.hok I6.bare fun b hb => ⟨(f3 b hb).1.2.2.2.1, (f3 b hb).1.2.1, (f3 b hb).1.2.2.2.2.1, (f3 b hb).1.2.2.2.2.2⟩
    refine ⟨m, hn, fun h8 sb => ?_⟩
    obtain ⟨f0, f1, f2, f3, f4, f5⟩ := I3.fpOk (H' := H6) (Nat.le_refl _) nC
    exact ⟨.ref s2.heap.objs.size, H6, I7.turned (t' := s6.toks) (fun b o hb e => (sb.2 b hb).trans e) f0 f1 f3 f4 f5, rfl, qd⟩
  exact PpSet.codeAny_compStart_set fin (T.self X.A 0 _ _ _ st4 fin)
theorem ite_t {a b : Prop} (h : a) : if true = true then a else b := by rw [if_pos rfl]; exact h
/-! its length -/
def rLenS (P : Program) (w : World) : List V → Hp → VK → Prop := fun xs H Q => ∃ (a : Addr) (S : Key → Bool) (n : Nat), xs = [.ref a] ∧ H a = some (SetK P w a S n) ∧ Q (.int n) H
theorem cr_lenS {X : Cx} : CallR X (.builtin "len") (rLenS X.prog X.w) := by
  intro pins s σ H xs us Q I r h
  obtain ⟨a, S, n, rfl, ha, q⟩ := h
  rw [Vals.ref1 r]
  obtain ⟨o, es, ep, t, ho, hex, hd, _, _, hsz, hf, hn⟩ := setK_get I ha
  have hz : es.size < 4096 := hsz
  subst hn
  exact call_len_set ho hex hd hf (by omega) ⟨.int es.size, H, (I.tok _).tok _, ⟨_, rfl⟩, q⟩
/-- the keys met among the first signs -/
def sjS (cs : List Nat) (j : Nat) : Key → Bool := fun k => (cs.take j).any fun c => decide (k = .inr ⟨#[c]⟩)
/-- how many unlike ones -/
def dst (cs : List Nat) : Nat → Nat
  | 0 => 0
  | j + 1 => match cs[j]? with
    | some c => if sjS cs j (.inr ⟨#[c]⟩) = true then dst cs j else dst cs j + 1
    | none => dst cs j
theorem dst_le (cs : List Nat) : ∀ j, dst cs j ≤ j
  | 0 => Nat.le_refl _
  | j + 1 => by
    have := dst_le cs j
    unfold dst
    split
    · split <;> omega
    · omega
theorem sjS_succ {cs : List Nat} {j c : Nat} (h : cs[j]? = some c) : sjS cs (j + 1) = fun k => sjS cs j k || decide (k = .inr ⟨#[c]⟩) := by
  funext k
  unfold sjS
  rw [List.take_add_one, h, List.any_append]
  simp
def pSetLen (i : Nat) (p : GE) : GE := fun γ Q => i < γ.length ∧ p γ fun x => match x with
  | .str z => z.length ≤ 1000 ∧ Q (.int (dst z.cps.toList z.cps.size : Nat))
  | _ => False
theorem qe_setLen {X : Cx} {ks : List Kd} {a s : Bool} {e se tg iter : Expr} {p : GE} (i : Nat) (pe : ∀ {t : TE}, PE X se t → PE X e (tCB (rLenS X.prog X.w) (tCons t tNil)))
    (ps : ∀ {wi : TI}, PI X tg iter wi → PE X se (tSetC X.prog X.w wi (gName i) tYes (fun D => tbS X.prog X.w D (tVar i)) [i])) (h : QE X ks a s iter p) : QE X ks true true e (pSetLen i p) :=
  PEi (pe (ps (pi_str h))) fun σ H Q ⟨E, L, γ, Qp, hK, R, hp, k⟩ => by
    obtain ⟨hi, hp⟩ := hp
    rw [R.len] at hi
    refine ⟨E, L, γ, _, hK, R, hp, fun x v H1 q1 x1 r1 => ?_⟩
    cases r1 <;> first | exact q1.elim | skip
    rename_i z
    obtain ⟨hz, q1⟩ := q1
    refine ⟨z, rfl, fun D nD => ?_⟩
    have hz2 : z.cps.size ≤ 1000 := hz
    have hl : z.cps.toList.length = z.cps.size := Array.length_toList
    refine ⟨fun j m H' => m + j = z.cps.size ∧ H' = upd H1 D (SetK X.prog X.w D (sjS z.cps.toList j) (dst z.cps.toList j)), ⟨z.cps.size, rfl, rfl⟩, fun j m H' w0 => ?_⟩
    obtain ⟨e1, rfl⟩ := w0
    by_cases hj : j < z.cps.size
    · refine .inr ⟨hj, fun H'' => H'' = upd H1 D (SetK X.prog X.w D (sjS z.cps.toList (j + 1)) (dst z.cps.toList (j + 1))), fun H'' e => ⟨m - 1, by omega, by omega, e⟩, fun x H'' y => ?_⟩
      obtain ⟨rfl, c, e2, rfl⟩ := y
      have e3 : z.cps.toList[j]? = some c := by rw [← e2]; simp
      have w1 : L2.wipe σ [i] = σ.set i none := rfl
      have w2 : ∀ v, L2.wipe ((L2.wipe σ [i]).set i (some v)) [i] = L2.wipe σ [i] := fun v => by
        rw [w1]
        show ((σ.set i none).set i (some v)).set i none = σ.set i none
        rw [List.set_set, List.set_set]
      refine ⟨w2 _, ?_⟩
      unfold tYes
      dsimp only
      rw [if_pos rfl]
      refine ⟨.str ⟨#[c]⟩, by rw [w1, List.set_set, List.getElem?_set_self hi], .inr ⟨#[c]⟩, _, _, rfl, upd_same, ?_, ?_⟩
      · have := dst_le z.cps.toList j
        show _ + 1 < 4096
        omega
      · rw [L2.upd_upd, ← sjS_succ e3]
        show _ = upd H1 D (SetK X.prog X.w D (sjS z.cps.toList (j + 1)) (match z.cps.toList[j]? with | some c => if sjS z.cps.toList j (.inr ⟨#[c]⟩) = true then dst z.cps.toList j else dst z.cps.toList j + 1 | none => dst z.cps.toList j))
        rw [e3]
    · refine .inl ⟨by show z.cps.size ≤ j; omega, ?_⟩
      have ej : j = z.cps.size := by omega
      subst ej
      exact ⟨D, _, _, rfl, upd_same, k _ _ _ q1 (x1.trans (.new nD)) (.int _)⟩
theorem qe_setLenC {X : Cx} {ks : List Kd} {a s : Bool} {e iter : Expr} {x : Str} {p1 p2 pos : Pos} {p : GE} {scope : Scope} {own : List (Str × Nat)} (i : Nat) (hc : X.calm = true) (hN : X.N.Nodup) (ok : BlkOk X.N X.env.scope scope own)
    (pe : ∀ {t : TE}, PE X (.SetComp (.Name x p1) [⟨.Name x p2, iter, [], 0⟩] scope pos) t → PE X e (tCB (rLenS X.prog X.w) (tCons t tNil)))
    (hg : ∀ (s : Shared) (H : Hp) (C : Addr) (cl : List (Str × Addr)) (fp : List Addr), PG (X.blk s H scope (compEnvC scope cl C X.env) fp) (.Name x p2) (gName i))
    (hv : ∀ (s : Shared) (H : Hp) (C : Addr) (cl : List (Str × Addr)) (fp : List Addr), PE (X.blk s H scope (compEnvC scope cl C X.env) fp) (.Name x p1) (tVar i)) (h : QE X ks a s iter p)
    (ho : own.map (·.2) = [i] := by rfl) (hs : ∀ x, foldedSetIterable iter X.env x = pure x := by intro _; rfl) : QE X ks true true e (pSetLen i p) :=
  qe_setLen i pe (fun hi => setc_run hc hN (B := fun env D it => setB (.compLoop (.SetComp (.Name x p1) [⟨.Name x p2, iter, [], 0⟩] scope pos) 0 it (.ref D) env) (.Name x p1) env (.ref D)) hi ok hg (fun _ _ _ _ _ => pts_nil)
    (fun s H C cl fp D it => setB_run (X := X.blk s H scope (compEnvC scope cl C X.env) fp) rfl (hv s H C cl fp)) (fun _ _ _ _ => clauseS) (fun j hj => by rw [ho] at hj; exact hj) hs) h
end Vl
namespace Vl
open PySem PySem.Spec PyProof.Rows L2 Lb
/-! ### enumerate(text): each sign with its number, in a new pair -/
def EnT (x : Str) : It := ⟨fun i _ => i < x.cps.size, fun i H v H' => ∃ (T : Addr) (c : Nat), v = .ref T ∧ H T = none ∧ x.cps[i]? = some c ∧ H' = upd H T (.tup [.int (i : Nat), .str ⟨#[c]⟩]), fun i _ => x.cps.size ≤ i⟩
def enSt (x : Str) (t : Tok) (e it : Addr) (i : Nat) (h : Heap) : Prop := (∃ old, IsEnum h e it ((i : Nat) : Int) old) ∧ h.IsStrIter it (strIterType x) x t i ∧ e ≠ it ∧ i ≤ x.cps.size
theorem enSt.two {x : Str} {t : Tok} {e it : Addr} {i : Nat} {h : Heap} (st : enSt x t e it i h) : ∀ b ∈ [e, it], ∃ o, h.get? b = some o ∧ ∀ v, o.data ≠ .cell v := by
  obtain ⟨⟨old, he⟩, ⟨o, ho, _, hd⟩, _⟩ := st
  intro b hb
  simp only [List.mem_cons, List.not_mem_nil, or_false] at hb
  rcases hb with rfl | rfl
  · exact ⟨_, he, fun v q => nomatch q⟩
  · exact ⟨o, ho, fun v q => by rw [hd] at q; cases q⟩
theorem enSt.at {x : Str} {t : Tok} {e it : Addr} {i : Nat} {h h' : Heap} (st : enSt x t e it i h) (k : ∀ b ∈ [e, it], ∀ o, h.get? b = some o → h'.get? b = some o) : enSt x t e it i h' := by
  obtain ⟨⟨old, he⟩, ⟨o, ho, r⟩, ne⟩ := st
  exact ⟨⟨old, k e (by simp) _ he⟩, ⟨o, k it (by simp) _ ho, r⟩, ne⟩
theorem turn_enT {P : Program} {w : World} {K : PySem.W.Frag} {elts : List Expr} {kk : Nat} {tpos : Pos} (x : Str) (t : Tok) (e it : Addr) : Turn P w K (.Tuple elts kk tpos) (EnT x) [e, it] e (enSt x t e it) := by
  refine ⟨by simp, fun _ _ st => st.two, fun _ _ _ st k => st.at k, ?_, ?_, fun A i s Q E st h => ?_⟩
  · rintro X rfl rfl rfl hc i pins s σ H E I hf ⟨⟨old, he⟩, hit, ne, le⟩ hi
    have low : ∀ b ∈ [e, it], b < s.heap.objs.size := fun b hb => by
      obtain ⟨o, ho, _⟩ := enSt.two (t := t) ⟨⟨old, he⟩, hit, ne, le⟩ b hb
      exact Heap.lt_size ho
    have D := Draws.text (prog := X.prog) (w := X.w) (A := X.A.in1) (I.ok.hd hc) it x t
    refine wpAny_pyNext_enum_itemD D he hit hi ne (by simpa using ne) fun v h1 tk hv out hit1 hT hsz hk => ⟨_, rfl, ?_⟩
    obtain ⟨c, u, hx, rfl⟩ := hv
    refine wpAny_letOwnedTupleGo_enum (s := { s with heap := h1, toks := tk + 1 }) out fun h2 he2 sb => ?_
    have up : ∀ b o, b ∉ [e, it] → s.heap.get? b = some o → h2.get? b = some o := fun b o hb q => by
      simp only [List.mem_cons, List.not_mem_nil, or_false, not_or] at hb
      exact (sb.2 b hb.1).trans (hk b o hb.1 hb.2 q)
    have gT : h2.get? s.heap.objs.size = some { cls := .type "tuple", data := .seq #[.int i tk, .str ⟨#[c]⟩ u] } := (sb.2 _ (Nat.ne_of_gt (low e (by simp)))).trans hT
    have new : ObjOk X.prog X.w (upd H s.heap.objs.size (.tup [.int (i : Nat), .str ⟨#[c]⟩])) h2 s.heap.objs.size (.tup [.int (i : Nat), .str ⟨#[c]⟩]) :=
      ⟨few (show 2 ≤ 1000 by decide), [.int i tk, .str ⟨#[c]⟩ u], .cons ⟨_, rfl⟩ (.cons ⟨_, rfl⟩ .nil), ⟨_, gT, rfl, _, rfl⟩⟩
    have I2 : Inv X pins σ (upd H s.heap.objs.size (.tup [.int (i : Nat), .str ⟨#[c]⟩])) { s with heap := h2, toks := tk + 1 } := I.turnedNew (ch := [e, it]) (fun b o hb q => up b o hb q) hf (Nat.le_refl _) new
    refine ⟨.ref s.heap.objs.size, _, I2, rfl, ⟨_, c, rfl, I.hok.fresh (Nat.le_refl _), hx, rfl⟩, ⟨⟨_, he2⟩, ?_, ne, hi⟩, fun b hb => ?_⟩
    · obtain ⟨o, ho, r⟩ := hit1
      exact ⟨o, (sb.2 it (Ne.symm ne)).trans ho, r⟩
    · rw [upd_ne (Nat.ne_of_lt (low b hb))]; exact (hf b hb).1
  · rintro X rfl rfl rfl hc i pins s σ H E I hf ⟨⟨old, he⟩, hit, ne, le⟩ hi
    obtain ⟨f0, f1, f2, f3, f4, f5⟩ := hf it (by simp)
    have hi2 : x.cps.size ≤ i := hi
    have e1 : i = x.cps.size := by omega
    subst e1
    have D := Draws.text (prog := X.prog) (w := X.w) (A := X.A.in1) (I.ok.hd hc) it x t
    exact wpAny_pyNext_enum_endD D he hit fun h' eb => ⟨rfl, I.turned (t' := s.toks) (fun b o hb q => eb b o hb q) f0 f1 f3 f4 f5⟩
  · obtain ⟨⟨old, he⟩, _, _⟩ := st
    exact wpAny_pyIter_enum he h
def iEnT (ta : TA) : TI := fun σ H R => ta σ H fun vs H1 => ∃ x, vs = [.str x] ∧ R (EnT x) H1
section
variable {X : Cx} {ks : List Kd} {a s : Bool} {e : Expr} {elts : List Expr} {kk : Nat} {p : GE} {pa : GA} {pos p0 tpos q : Pos}
theorem pi_enT {ta : TA} (hg : Gl X "enumerate") (hm : X.mg "enumerate" = none) (ha : PA X [e] ta) (hs : starEach [e] X.env = [(false, eval e X.env)] := by rfl) : PI X (.Tuple elts kk tpos) (.Call (.Name "enumerate" p0) [e] [] pos) (iEnT ta) := by
  refine ⟨fun pins s σ H R I h => ?_⟩
  refine Call_ (ld_blt I hg hm boot_enumerate (callWith_type1 (thn (ha.run pos pins s σ H _ I h) fun us s1 rr => ?_) hs rfl))
  obtain ⟨vs, H1, I1, r1, x, rfl, q⟩ := rr
  obtain ⟨u, rfl, t, rfl⟩ := vals1 r1
  refine call_enumerate_str fun h' he hit hsz hk => wpAny_pyIter_enum he ?_
  refine ⟨s1.heap.objs.size + 1, [s1.heap.objs.size + 1, s1.heap.objs.size], _, _, H1, rfl, I1.kept (t' := s1.toks) hk, turn_enT x t (s1.heap.objs.size + 1) s1.heap.objs.size, ⟨⟨.none, he⟩, hit, Nat.succ_ne_self _, Nat.zero_le _⟩, fun b hb => ?_, q⟩
  have le : s1.heap.objs.size ≤ b := by
    simp only [List.mem_cons, List.not_mem_nil, or_false] at hb
    rcases hb with rfl | rfl
    · exact Nat.le_succ _
    · exact Nat.le_refl _
  exact I1.fpOk le (I1.hok.fresh le)
def pEnumS (p : GE) : GA := fun γ Q => p γ fun x => match x with | .str z => Q (enumL 0 (chars z)) | _ => False
theorem qi_enumS (hg : Gl X "enumerate") (hm : X.mg "enumerate" = none) (h : QE X ks a s e p) (hs : starEach [e] X.env = [(false, eval e X.env)] := by rfl) : QI X ks true (.Tuple elts kk tpos) (.Call (.Name "enumerate" p0) [e] [] pos) (pEnumS p) :=
  PIi (pi_enT hg hm (pa_cons h pa_nil hs) hs) fun σ H R ⟨E, L, γ, Qp, hK, Rl, hp, k⟩ => by
    refine ⟨E, L, γ, _, hK, Rl, hp, fun x v H1 q1 x1 r1 => ?_⟩
    cases r1 <;> first | exact q1.elim | skip
    rename_i z
    refine ⟨z, rfl, k _ _ H1 q1 x1 ⟨fun _ _ => True, trivial, fun _ _ _ _ _ _ => trivial, fun i L H _ hi => ?_, fun i L H _ hi => ?_⟩⟩
    · rw [enumL_len] at hi
      have hi : i < z.cps.size := by simpa [chars] using hi
      refine ⟨hi, fun v H' rr => ?_⟩
      obtain ⟨T, c, rfl, nT, hc, rfl⟩ := rr
      refine ⟨.new nT, _, enumL_at 0 (chars z) i (x := .str ⟨#[c]⟩) (by simp [chars, hc]), ?_⟩
      rw [Nat.zero_add]
      exact Rp.newT (.cons (.int _) (.cons (.str _) .nil)) av_q nT
    · rw [enumL_len] at hi
      show z.cps.size ≤ i
      simpa [chars] using hi
/-! ### list(text) -/
theorem vals_signs : ∀ (l : List Nat) (acc : List Value), acc.length = l.length → (∀ (j : Nat) (v : Value), acc[j]? = some v → ∃ c u, l[j]? = some c ∧ v = .str ⟨#[c]⟩ u) → Vals (l.map fun c => V.str ⟨#[c]⟩) acc
  | [], [], _, _ => .nil
  | [], _ :: _, h, _ => by cases h
  | _ :: _, [], h, _ => by cases h
  | c :: l, v :: acc, h, k => by
    obtain ⟨d, u, e1, e2⟩ := k 0 v rfl
    simp at e1
    subst e1
    exact .cons ⟨u, e2⟩ (vals_signs l acc (by simpa using h) fun j v hj => by simpa using k (j + 1) v (by simpa using hj))
def rListS : List V → Hp → VK → Prop := fun xs H Q => ∃ z : Str, xs = [.str z] ∧ z.length ≤ sizeLine ∧ ∀ l, H l = none → Q (.ref l) (upd H l (.lst (z.cps.toList.map fun c => V.str ⟨#[c]⟩)))
theorem cr_listS (hc : X.calm = true) : CallR X (.type "list") rListS := by
  intro pins s σ H xs us Q I r h
  obtain ⟨z, rfl, hz, q⟩ := h
  obtain ⟨u, rfl, t, rfl⟩ := vals1 r
  have hz2 : z.cps.size ≤ sizeLine := hz
  refine call_list_str (I.ok.hd hc) z t (hn := hz2) fun h' tk acc c' hk hS hacc => ?_
  have vl := vals_signs z.cps.toList acc.toList (by simpa using hacc.1) fun j v hj => by
    obtain ⟨c, u, h1, h2⟩ := hacc.2 j v (by simpa using hj)
    exact ⟨c, u, by simpa using h1, h2⟩
  exact ⟨.ref s.heap.objs.size, _, I.laid (t' := tk) hk (Nat.le_refl _) (show ObjOk X.prog X.w _ h' _ (.lst _) from ⟨by simpa using hz2, acc.toList, c', vl, by simpa using hS⟩), rfl, q _ (I.hok.fresh (Nat.le_refl _))⟩
theorem rpl_signs {B : Bg} {A : Addr → Prop} {H : Hp} : ∀ l : List Nat, RpL B A H (l.map fun c => .str ⟨#[c]⟩) (l.map fun c => V.str ⟨#[c]⟩)
  | [] => .nil
  | _ :: l => .cons (.str _) (rpl_signs l)
def bListS : PCl
  | [.str z], Q => z.length ≤ sizeLine ∧ Q (.lst (chars z))
  | _, _ => False
theorem qn_listS (hc : X.calm = true) (hm : X.mg "list" = none) (hg : Gl X "list") (h : QA X ks a s [e] pa) (hs : starEach [e] X.env = (false, eval e X.env) :: starEach [] X.env := by rfl) (hpl : (backTo pos (starEach [] X.env)).any (·.1) = false := by rfl) : QN X ks (.Call (.Name "list" q) [e] [] pos) (pCB bListS pa) :=
  PEi (pe_callTy (cr_listS hc) hg hm (by decide +kernel) h (by decide) (by decide) hs hpl) fun σ H Q ⟨E, L, γ, Qp, hK, R, hp, k⟩ => by
    refine ⟨E, L, γ, _, hK, R, hp, fun xs vs H1 q1 x1 r l => ?_⟩
    match xs, r, q1 with
    | [_], .cons r .nil, h =>
      cases r <;> first | exact (h : False).elim | skip
      rename_i z
      exact ⟨z, rfl, h.1, fun p np => k _ p _ h.2 (x1.trans (.new np)) (x1.free np) ⟨_, upd_same, rpl_signs _⟩⟩
    | [], _, h => exact (h : False).elim
    | _ :: _ :: _, .cons r _, h => cases r <;> exact (h : False).elim
end
end Vl
namespace Lw
open PySem PySem.Spec L2 Lb Vl
noncomputable def p_law_letters : GS := (pSeq (xSet 2 (pCB bListS (pCons (pC (.str "abcdefghijklmnopqrstuvwxyz")) pNil)))
  (pSeq (xSet 3 (pC (.str "")))
  (pSeq (yFor (pRng (pOp oAdd (pC (.int 1)) (pCall w_law_take [] (pCons (pVar 0) (pCons (pVar 1) pNil))))) (xgName 4) (xSetF 3 (pOpF oAdd (pVar 3) (xPopAt 2 (pCall w_law_take [] (pCons (pVar 0) (pCons (pCB bLen (pCons (pVar 2) pNil)) pNil)))))))
  (pRet (pVar 3)))))
theorem x_law_letters : ∃ v : Vl.PW, v = xF 5 p_law_letters := ⟨_, rfl⟩
@[irreducible] noncomputable def w_law_letters : Vl.PW := Classical.choose x_law_letters
theorem e_law_letters : w_law_letters = xF 5 p_law_letters := by unfold w_law_letters; exact Classical.choose_spec x_law_letters
noncomputable def p_law_worth : GS := (pSeq (xSet 1 (pCall w_law_take [] (pCons (pVar 0) (pCons (pC (.int 4)) pNil))))
  (pSeq (pIf (pTest (pOp oLt (pVar 1) (pC (.int 2)))) (pRet (pOp oSub (pCall w_law_take [] (pCons (pVar 0) (pCons (pC (.int 9)) pNil))) (pC (.int 3)))) pNext)
  (pSeq (pIf (pTest (pOp oEq (pVar 1) (pC (.int 2)))) (pRet (pOp oSub (pCall w_law_take [] (pCons (pVar 0) (pCons (pOp oAdd (pOp oMul (pC (.int 2)) (pOp oPow (pC (.int 10)) (pC (.int 6)))) (pC (.int 1))) pNil))) (pOp oPow (pC (.int 10)) (pC (.int 6))))) pNext)
  (pRet (pOp oIx (pLst (pCons (pOp oPow (pC (.int 10)) (pC (.int 6))) (pCons (pUn oNeg (pOp oPow (pC (.int 10)) (pC (.int 6)))) (pCons (pC (.int 0)) (pCons (pC (.int 0)) pNil))))) (pCall w_law_take [] (pCons (pVar 0) (pCons (pC (.int 4)) pNil))))))))
theorem x_law_worth : ∃ v : Vl.PW, v = xF 2 p_law_worth := ⟨_, rfl⟩
@[irreducible] noncomputable def w_law_worth : Vl.PW := Classical.choose x_law_worth
theorem e_law_worth : w_law_worth = xF 2 p_law_worth := by unfold w_law_worth; exact Classical.choose_spec x_law_worth
noncomputable def p_law_worths : GS := (pRet (yLc [2] (pRng (pVar 1)) (xgName 2) pYes (yLc [3] (pRng (pVar 1)) (xgName 3) pYes (pCall w_law_worth [] (pCons (pVar 0) pNil)))))
theorem x_law_worths : ∃ v : Vl.PW, v = xF 4 p_law_worths := ⟨_, rfl⟩
@[irreducible] noncomputable def w_law_worths : Vl.PW := Classical.choose x_law_worths
theorem e_law_worths : w_law_worths = xF 4 p_law_worths := by unfold w_law_worths; exact Classical.choose_spec x_law_worths
noncomputable def p_is_text_of : GS := (pSeq (pIf (pOr (pNot (pTru (pCB bIs (pCons (pVar 0) (pCons (pC (.ty .str)) pNil))))) (pNot (pTest (pChain oLe oLe (pVar 2) (pCB bLen (pCons (pVar 0) pNil)) (pVar 3))))) (pRet (pC (.bl false))) pNext)
  (pRet (pCB (bBs allB) (pCons (xLc [4] (pItS (pVar 0)) (xgName 4) pYes (pOp (oIn false) (pVar 4) (pVar 1))) pNil))))
theorem x_is_text_of : ∃ v : Vl.PW, v = xF 5 p_is_text_of := ⟨_, rfl⟩
@[irreducible] noncomputable def w_is_text_of : Vl.PW := Classical.choose x_is_text_of
theorem e_is_text_of : w_is_text_of = xF 5 p_is_text_of := by unfold w_is_text_of; exact Classical.choose_spec x_is_text_of
noncomputable def p_are_letters : GS := (pRet (pAndV (pCall w_is_text_of [] (pCons (pVar 0) (pCons (pC (.str "abcdefghijklmnopqrstuvwxyz")) (pCons (pC (.int 1)) (pCons (pC (.int 8)) pNil))))) (pOp oEq (pSetLen 1 (pVar 0)) (pCB bLen (pCons (pVar 0) pNil)))))
theorem x_are_letters : ∃ v : Vl.PW, v = xF 2 p_are_letters := ⟨_, rfl⟩
@[irreducible] noncomputable def w_are_letters : Vl.PW := Classical.choose x_are_letters
theorem e_are_letters : w_are_letters = xF 2 p_are_letters := by unfold w_are_letters; exact Classical.choose_spec x_are_letters
noncomputable def p_is_whole : GS := (pRet (pAndV (pCB bIs (pCons (pVar 0) (pCons (pC (.ty .int)) pNil))) (pNotV (pCB bIs (pCons (pVar 0) (pCons (pC (.ty .bool)) pNil))))))
theorem x_is_whole : ∃ v : Vl.PW, v = xF 1 p_is_whole := ⟨_, rfl⟩
@[irreducible] noncomputable def w_is_whole : Vl.PW := Classical.choose x_is_whole
theorem e_is_whole : w_is_whole = xF 1 p_is_whole := by unfold w_is_whole; exact Classical.choose_spec x_is_whole
noncomputable def p_is_between : GS := (pRet (pAndV (pCall w_is_whole [] (pCons (pVar 0) pNil)) (pChain oLe oLe (pVar 1) (pVar 0) (pVar 2))))
theorem x_is_between : ∃ v : Vl.PW, v = xF 3 p_is_between := ⟨_, rfl⟩
@[irreducible] noncomputable def w_is_between : Vl.PW := Classical.choose x_is_between
theorem e_is_between : w_is_between = xF 3 p_is_between := by unfold w_is_between; exact Classical.choose_spec x_is_between
noncomputable def p_is_worth : GS := (pRet (pCall w_is_between [] (pCons (pVar 0) (pCons (pUn oNeg (pC (.int 1000000))) (pCons (pC (.int 1000000)) pNil)))))
theorem x_is_worth : ∃ v : Vl.PW, v = xF 1 p_is_worth := ⟨_, rfl⟩
@[irreducible] noncomputable def w_is_worth : Vl.PW := Classical.choose x_is_worth
theorem e_is_worth : w_is_worth = xF 1 p_is_worth := by unfold w_is_worth; exact Classical.choose_spec x_is_worth
noncomputable def p_are_worths : GS := (pSeq (pIf (pOr (pNot (pTru (pCB bIs (pCons (pVar 0) (pCons (pC (.ty .list)) pNil))))) (pTest (pOp oNe (pCB bLen (pCons (pVar 0) pNil)) (pVar 1)))) (pRet (pC (.bl false))) pNext)
  (pSeq (yFor (pItL (pVar 0)) (xgName 2) (pIf (pOr (pNot (pTru (pCB bIs (pCons (pVar 2) (pCons (pC (.ty .list)) pNil))))) (pOr (pTest (pOp oNe (pCB bLen (pCons (pVar 2) pNil)) (pVar 1))) (pNot (pTru (pCB (bBs allB) (pCons (yLc [3] (pItL (pVar 2)) (xgName 3) pYes (pCall w_is_worth [] (pCons (pVar 3) pNil))) pNil)))))) (pRet (pC (.bl false))) pNext))
  (pRet (pC (.bl true)))))
theorem x_are_worths : ∃ v : Vl.PW, v = xF 4 p_are_worths := ⟨_, rfl⟩
@[irreducible] noncomputable def w_are_worths : Vl.PW := Classical.choose x_are_worths
theorem e_are_worths : w_are_worths = xF 4 p_are_worths := by unfold w_are_worths; exact Classical.choose_spec x_are_worths
noncomputable def p_is_price : GS := (pRet (pCall w_is_between [] (pCons (pVar 0) (pCons (pC (.int 0)) (pCons (pC (.int 1000000)) pNil)))))
theorem x_is_price : ∃ v : Vl.PW, v = xF 1 p_is_price := ⟨_, rfl⟩
@[irreducible] noncomputable def w_is_price : Vl.PW := Classical.choose x_is_price
theorem e_is_price : w_is_price = xF 1 p_is_price := by unfold w_is_price; exact Classical.choose_spec x_is_price
noncomputable def p_Scale_init : GS := (pSeq (pIf (pNot (pTru (pCall w_are_letters [] (pCons (pVar 1) pNil)))) pNever pNext)
  (pSeq (pIf (pNot (pTru (pCall w_are_worths [] (pCons (pVar 2) (pCons (pCB bLen (pCons (pVar 1) pNil)) pNil))))) pNever pNext)
  (pSeq (yFor (pItL (pLst (pCons (pImm (pTup (pCons (pC (.int 2)) (pCons (pVar 3) pNil)))) (pCons (pImm (pTup (pCons (pC (.int 3)) (pCons (pVar 4) pNil)))) pNil)))) (pgTup (pgsCons (xgName 5) (pgsCons (xgName 6) pgsNil))) (pIf (pNot (pTru (pCall w_is_price [] (pCons (pVar 6) pNil)))) pNever pNext))
  (pSeq (xFldS 0 0 (pImm (pVar 1)))
  (pSeq (xFldS 0 1 (pDc [5, 7, 8, 9, 0] (pEnumS (pVar 1)) (pgTup (pgsCons (xgName 5) (pgsCons (xgName 7) pgsNil))) pYes (bdIn [8, 9, 0] (pEnumS (pVar 1)) (pgTup (pgsCons (xgName 8) (pgsCons (xgName 9) pgsNil))) pYes (bdK (kTup (pCons (pVar 7) (pCons (pVar 9) pNil))) (pImm (pOp oIx (pOp oIx (pVar 2) (pVar 5)) (pVar 8)))))))
  (xFld2 0 2 3 (pCons (pImm (pVar 3)) (pCons (pImm (pVar 4)) pNil))))))))
theorem x_Scale_init : ∃ v : Vl.PW, v = xI 10 0 p_Scale_init := ⟨_, rfl⟩
@[irreducible] noncomputable def w_Scale_init : Vl.PW := Classical.choose x_Scale_init
theorem e_Scale_init : w_Scale_init = xI 10 0 p_Scale_init := by unfold w_Scale_init; exact Classical.choose_spec x_Scale_init
noncomputable def p_law_row : GS := (pSeq (xSet 2 (pC (.str "abcdefghijklmnopqrstuvwxyz")))
  (pSeq (xSet 3 (pOp oIx (pLst (pCons (pC (.int 0)) (pCons (pC (.int 1)) (pCons (pC (.int 2)) (pCons (pC (.int 8)) (pCons (pC (.int 39)) (pCons (pC (.int 40)) (pCons (pC (.int 40)) (pCons (pCall w_law_take [] (pCons (pVar 0) (pCons (pC (.int 41)) pNil))) pNil))))))))) (pCall w_law_take [] (pCons (pVar 0) (pCons (pC (.int 8)) pNil)))))
  (pSeq (xSet 4 (pOp oIx (pLst (pCons (pImm (pVar 1)) (pCons (pImm (pVar 1)) (pCons (pImm (pVar 1)) (pCons (pVar 2) (pCons (pImm (pOp oIx (pVar 1) (pC (.int 0)))) pNil)))))) (pCall w_law_take [] (pCons (pVar 0) (pCons (pC (.int 5)) pNil)))))
  (pSeq (xSet 5 (pJoin (pC (.str "")) (yLc [6] (pRng (pVar 3)) (xgName 6) pYes (pOp oIx (pVar 4) (pCall w_law_take [] (pCons (pVar 0) (pCons (pCB bLen (pCons (pVar 4) pNil)) pNil)))))))
  (pSeq (yFor (pRng (pCall w_law_take [] (pCons (pVar 0) (pCons (pC (.int 3)) pNil)))) (xgName 6) (pSeq (xSet 7 (pCall w_law_take [] (pCons (pVar 0) (pCons (pOp oAdd (pCB bLen (pCons (pVar 5) pNil)) (pC (.int 1))) pNil))))
  (xSet 5 (pSl (pOp oAdd (pOp oAdd (pSl (pVar 5) pNoPart (pPart (pVar 7))) (pOp oIx (pVar 2) (pCall w_law_take [] (pCons (pVar 0) (pCons (pC (.int 26)) pNil))))) (pSl (pVar 5) (pPart (pVar 7)) pNoPart)) pNoPart (pPart (pC (.int 40)))))))
  (pRet (pVar 5)))))))
theorem x_law_row : ∃ v : Vl.PW, v = xF 8 p_law_row := ⟨_, rfl⟩
@[irreducible] noncomputable def w_law_row : Vl.PW := Classical.choose x_law_row
theorem e_law_row : w_law_row = xF 8 p_law_row := by unfold w_law_row; exact Classical.choose_spec x_law_row
noncomputable def p_is_row : GS := (pRet (pCall w_is_text_of [] (pCons (pVar 0) (pCons (pC (.str "abcdefghijklmnopqrstuvwxyz")) (pCons (pC (.int 0)) (pCons (pC (.int 40)) pNil))))))
theorem x_is_row : ∃ v : Vl.PW, v = xF 1 p_is_row := ⟨_, rfl⟩
@[irreducible] noncomputable def w_is_row : Vl.PW := Classical.choose x_is_row
theorem e_is_row : w_is_row = xF 1 p_is_row := by unfold w_is_row; exact Classical.choose_spec x_is_row
noncomputable def p_Scale_knows : GS := (pSeq (pIf (pNot (pTru (pCall w_is_row [] (pCons (pVar 1) pNil)))) pNever pNext)
  (pRet (pCB (bBs allB) (pCons (yLc [2] (pItS (pVar 1)) (xgName 2) pYes (pOp (oIn false) (pVar 2) (pFld 0 0 (pVar 0)))) pNil))))
theorem x_Scale_knows : ∃ v : Vl.PW, v = xF 3 p_Scale_knows := ⟨_, rfl⟩
@[irreducible] noncomputable def w_Scale_knows : Vl.PW := Classical.choose x_Scale_knows
theorem e_Scale_knows : w_Scale_knows = xF 3 p_Scale_knows := by unfold w_Scale_knows; exact Classical.choose_spec x_Scale_knows
noncomputable def p_law : GS := (pSeq (xSet 2 (pCall w_law_letters [] (pCons (pVar 1) (pCons (pC (.int 8)) pNil))))
  (pSeq (xSet 3 (pCall w_Scale_init [(.int 3), (.int 1)] (pCons (pVar 2) (pCons (pCall w_law_worths [] (pCons (pVar 1) (pCons (pCB bLen (pCons (pVar 2) pNil)) pNil))) pNil))))
  (pSeq (xSet 4 (pC (.str "abcdefghijklmnopqrstuvwxyz")))
  (pSeq (xSet 5 (pOp oAdd (yLc [9] (pRng (pC (.int 8))) (xgName 9) pYes (pCall w_law_row [] (pCons (pVar 1) (pCons (pVar 2) pNil)))) (pLst (pCons (pC (.str "")) (pCons (pVar 2) (pCons (pRev (pVar 2)) (pCons (pVar 4) (pCons (pOp oMul (pOp oIx (pVar 2) (pUn oNeg (pC (.int 1)))) (pC (.int 40))) pNil))))))))
  (pSeq (yFor (pItL (pOp oAdd (pVar 5) (pRev (pVar 5)))) (xgName 6) (pSeq (xSet 7 (pOp oEq (yLc [10] (pItS (pVar 6)) (xgName 10) (pTest (pOp (oIn true) (pVar 10) (pVar 2))) (pVar 10)) (pLst pNil)))
  (pSeq (xSet 8 (pMeth 0 w_Scale_knows [] (pVar 3) (pCons (pVar 6) pNil)))
  (pIf (pOr (pNot (pTru (pCB bIs (pCons (pVar 8) (pCons (pC (.ty .bool)) pNil))))) (pTest (pOp oNe (pVar 8) (pVar 7)))) (pRet (pC (.bl false))) pNext))))
  (pRet (pC (.bl true))))))))
def topS (i : Nat) : Stmt := PySem.Challenge.pw_laybeside_k15_knows.main.body.getD i (.Pass ⟨0, 0, 0, 0⟩)
structure Tx (K : Vl.Fg) (mg : Str → Option Value) : Prop where
  a_Scale_by_two : NoAttr K (He.ga K "Scale") "by_two"
  a_Scale_kept_each : NoAttr K (He.ga K "Scale") "kept_each"
  a_Scale_kept_letters : NoAttr K (He.ga K "Scale") "kept_letters"
  a_Scale_kept_opening : NoAttr K (He.ga K "Scale") "kept_opening"
  c_Scale : Cls K (He.ga K "Scale")
  d_Scale_init : Dfl K [(.int 3), (.int 1)] [.int 3, .int 1]
  f_abs : mg "abs" = none
  f_all : mg "all" = none
  f_bool : mg "bool" = none
  f_enumerate : mg "enumerate" = none
  f_int : mg "int" = none
  f_isinstance : mg "isinstance" = none
  f_len : mg "len" = none
  f_list : mg "list" = none
  f_range : mg "range" = none
  f_str : mg "str" = none
  g_LETTERS : GV K mg "LETTERS" (.str "abcdefghijklmnopqrstuvwxyz")
  g_LONGEST_ROW : GV K mg "LONGEST_ROW" (.int 40)
  g_MOST_LETTERS : GV K mg "MOST_LETTERS" (.int 8)
  g_MOST_WORTH : GV K mg "MOST_WORTH" (.int 1000000)
section
variable {P : Program} {w : World} {K : Vl.Fg} {mg : Str → Option Value} {base : Heap}
abbrev s_law_take : Stmt := topS 23
theorem sc_law_take : FnScope ["_law_bag_here", "_law_many", "_law_cell", "_law_value", "_law_first", "_law_second"] ["_law_bag_here", "_law_many"] (defScope s_law_take) := ⟨rfl, rfl, rfl, by decide +kernel, rfl, by decide +kernel, by decide +kernel⟩
abbrev s_law_letters : Stmt := topS 24
theorem sc_law_letters : FnScope ["_law_bag_here", "_law_most", "_law_pool", "_law_found", "_law_k"] ["_law_bag_here", "_law_most"] (defScope s_law_letters) := ⟨rfl, rfl, rfl, by decide +kernel, rfl, by decide +kernel, by decide +kernel⟩
theorem q_law_letters (T : Tx K mg) (c_law_take : Cal P w K mg base "_law_take" 1 ["_law_bag_here", "_law_many"] (spF 2 w_law_take K) []) {f : Addr} {cdv : Value} {A : Around} {outer : List Env} {s : Shared} {H : Hp} {E : XK} (hr : Room 1 (A.deeper (PyProof.Rows.envOfC "_law_letters" (defScope s_law_letters) s.heap.objs.size f cdv))) : QB (cxOf CX0 P w K mg base ["_law_bag_here", "_law_most", "_law_pool", "_law_found", "_law_k"] "_law_letters" (defScope s_law_letters) f cdv A outer s H E).nox [.bor, .bor, .own, .sh, .sh] [.bor, .bor, .own, .sh, .sh] [.bor, .bor, .own, .sh, .sh] (defBody s_law_letters) p_law_letters := by
  exact (qb_cons (xs_setN (i := 2) (fun h => ps_set (i := 2) sc_law_letters.nd rfl (by first | exact Or.inl rfl | exact Or.inr rfl) h) (qn_listS (by rfl) T.f_list (by rfl) (qa_cons qe_str qa_nil)))
  (qb_cons (xs_setG (i := 3) (fun h => ps_set (i := 3) sc_law_letters.nd rfl (by first | exact Or.inl rfl | exact Or.inr rfl) h) qe_str)
  (qb_cons (yq_for (qs_for (js := [4]) (fun h1 h2 h3 => ps_for PassesOwn.never rfl h1 h2 h3) (qi_rng (by rfl) T.f_range (qe_add qe_int (qe_calF c_law_take dfl_nil (hr.mono (j := 1) (by decide)) (by rfl) (qa_cons (qe_v 0 (pv 0)) (qa_cons (qe_v 1 (pv 1)) qa_nil))))) (xq_name (i := 4) (pg_name (i := 4) sc_law_letters.nd rfl (by first | exact Or.inl rfl | exact Or.inr rfl))) (qb_one (xs_setF (i := 3) (fun h => ps_set (i := 3) sc_law_letters.nd rfl (by first | exact Or.inl rfl | exact Or.inr rfl) h) (qf_add (qe_v 3 (pv 3)) (qf_popAt (i := 2) (fun h => pe_bm PySem.F.plainAttrs_list PySem.F.slot_list_pop PySem.F.type_list_pop mt_popAt (pv 2) h) (qe_calF c_law_take dfl_nil (hr.mono (j := 1) (by decide)) (by rfl) (qa_cons (qe_v 0 (pv 0)) (qa_cons (qe_cbS len_ok call_lenA T.f_len (by rfl) (by decide +kernel) (qa_cons (qe_v 2 (pv 2)) qa_nil)) qa_nil)))))))))
  (qb_one (qs_ret (qe_v 3 (pv 3)))))))
theorem ok_law_letters (T : Tx K mg) (c_law_take : Cal P w K mg base "_law_take" 1 ["_law_bag_here", "_law_many"] (spF 2 w_law_take K) []) {f : Addr} {fd : FuncData} (F : FunD K "_law_letters" "_law_letters" (defArgs s_law_letters) (defBody s_law_letters) (defScope s_law_letters) [] [] f fd) : FnOk P w K mg base CX0 2 f fd ["_law_bag_here", "_law_most"] (spF 2 w_law_letters K) := by
  refine F.ok sc_law_letters (fun vs H Q E h => len_F h) (fun cdv A outer s H vs Q E hr h => ?_)
  have hq := q_law_letters (P := P) (w := w) (base := base) (E := E) (H := H) (outer := outer) T c_law_take hr
  rw [e_law_letters, xF_eq] at h
  obtain ⟨t, h1, h2⟩ := body_F (N := ["_law_bag_here", "_law_most", "_law_pool", "_law_found", "_law_k"]) (n := 2) hq rfl (by decide) h
  exact ⟨t, PSs.nox h1, h2⟩
abbrev s_law_worth : Stmt := topS 25
theorem sc_law_worth : FnScope ["_law_bag_here", "_law_way"] ["_law_bag_here"] (defScope s_law_worth) := ⟨rfl, rfl, rfl, by decide +kernel, rfl, by decide +kernel, by decide +kernel⟩
theorem q_law_worth (T : Tx K mg) (c_law_take : Cal P w K mg base "_law_take" 1 ["_law_bag_here", "_law_many"] (spF 2 w_law_take K) []) {f : Addr} {cdv : Value} {A : Around} {outer : List Env} {s : Shared} {H : Hp} {E : XK} (hr : Room 1 (A.deeper (PyProof.Rows.envOfC "_law_worth" (defScope s_law_worth) s.heap.objs.size f cdv))) : QB (cxOf CX0 P w K mg base ["_law_bag_here", "_law_way"] "_law_worth" (defScope s_law_worth) f cdv A outer s H E).nox [.bor, .sh] [.bor, .sh] [.bor, .sh] (defBody s_law_worth) p_law_worth := by
  exact (qb_cons (xs_setG (i := 1) (fun h => ps_set (i := 1) sc_law_worth.nd rfl (by first | exact Or.inl rfl | exact Or.inr rfl) h) (qe_calF c_law_take dfl_nil (hr.mono (j := 1) (by decide)) (by rfl) (qa_cons (qe_v 0 (pv 0)) (qa_cons qe_int qa_nil))))
  (qb_cons (qs_if (qt_lt  (qe_v 1 (pv 1)) qe_int) (qb_one (qs_ret (qe_sub (qe_calF c_law_take dfl_nil (hr.mono (j := 1) (by decide)) (by rfl) (qa_cons (qe_v 0 (pv 0)) (qa_cons qe_int qa_nil))) qe_int))) qb_nil)
  (qb_cons (qs_if (qt_eq (hr.units) (qe_v 1 (pv 1)) qe_int) (qb_one (qs_ret (qe_sub (qe_calF c_law_take dfl_nil (hr.mono (j := 1) (by decide)) (by rfl) (qa_cons (qe_v 0 (pv 0)) (qa_cons (qe_add (qe_mul qe_int (qe_pow qe_int qe_int)) qe_int) qa_nil))) (qe_pow qe_int qe_int)))) qb_nil)
  (qb_one (qs_ret (qe_ix (qe_lst (qa_cons (qe_pow qe_int qe_int) (qa_cons (qe_neg (qe_pow qe_int qe_int)) (qa_cons qe_int (qa_cons qe_int qa_nil))))) (qe_calF c_law_take dfl_nil (hr.mono (j := 1) (by decide)) (by rfl) (qa_cons (qe_v 0 (pv 0)) (qa_cons qe_int qa_nil)))))))))
theorem ok_law_worth (T : Tx K mg) (c_law_take : Cal P w K mg base "_law_take" 1 ["_law_bag_here", "_law_many"] (spF 2 w_law_take K) []) {f : Addr} {fd : FuncData} (F : FunD K "_law_worth" "_law_worth" (defArgs s_law_worth) (defBody s_law_worth) (defScope s_law_worth) [] [] f fd) : FnOk P w K mg base CX0 2 f fd ["_law_bag_here"] (spF 1 w_law_worth K) := by
  refine F.ok sc_law_worth (fun vs H Q E h => len_F h) (fun cdv A outer s H vs Q E hr h => ?_)
  have hq := q_law_worth (P := P) (w := w) (base := base) (E := E) (H := H) (outer := outer) T c_law_take hr
  rw [e_law_worth, xF_eq] at h
  obtain ⟨t, h1, h2⟩ := body_F (N := ["_law_bag_here", "_law_way"]) (n := 1) hq rfl (by decide) h
  exact ⟨t, PSs.nox h1, h2⟩
abbrev s_law_worths : Stmt := topS 27
theorem sc_law_worths : FnScope ["_law_bag_here", "_law_many", "_law_at", "_law_to"] ["_law_bag_here", "_law_many"] (defScope s_law_worths) := ⟨rfl, rfl, rfl, by decide +kernel, rfl, by decide +kernel, by decide +kernel⟩
theorem q_law_worths (T : Tx K mg) (c_law_worth : Cal P w K mg base "_law_worth" 2 ["_law_bag_here"] (spF 1 w_law_worth K) []) {f : Addr} {cdv : Value} {A : Around} {outer : List Env} {s : Shared} {H : Hp} {E : XK} (hr : Room 2 (A.deeper (PyProof.Rows.envOfC "_law_worths" (defScope s_law_worths) s.heap.objs.size f cdv))) : QB (cxOf CX0 P w K mg base ["_law_bag_here", "_law_many", "_law_at", "_law_to"] "_law_worths" (defScope s_law_worths) f cdv A outer s H E).nox [.bor, .bor, .sh, .sh] [.bor, .bor, .sh, .sh] [.bor, .bor, .sh, .sh] (defBody s_law_worths) p_law_worths := by
  exact (qb_one (qs_ret (yq_lc (xe_lc (own := [("_law_at", 2)]) (fun hi hg ht he => pe_lc (own := [("_law_at", 2)]) (by rfl) sc_law_worths.nd hi (blkOk_by (own := [("_law_at", 2)]) (by kernel_rfl)) hg ht he) (qi_rng (by rfl) T.f_range (qe_v 1 (pv 1))) (fun _ _ _ _ _ => (xq_name (i := 2) (pg_name (i := 2) sc_law_worths.nd rfl (by first | exact Or.inl rfl | exact Or.inr rfl)))) (fun _ _ _ _ _ => by exact qts_nil) (fun _ _ _ _ _ => by exact (yq_lc (xe_lc (own := [("_law_to", 3)]) (fun hi hg ht he => pe_lc (own := [("_law_to", 3)]) (by rfl) sc_law_worths.nd hi (blkOk_by (own := [("_law_to", 3)]) (by kernel_rfl)) hg ht he) (qi_rng (by rfl) T.f_range (qe_v 1 (pv 1))) (fun _ _ _ _ _ => (xq_name (i := 3) (pg_name (i := 3) sc_law_worths.nd rfl (by first | exact Or.inl rfl | exact Or.inr rfl)))) (fun _ _ _ _ _ => by exact qts_nil) (fun _ _ _ _ _ => by exact (qe_calF c_law_worth dfl_nil (hr.mono (j := 2) (by decide)) (by rfl) (qa_cons (qe_v 0 (pv 0)) qa_nil))))))))))
theorem ok_law_worths (T : Tx K mg) (c_law_worth : Cal P w K mg base "_law_worth" 2 ["_law_bag_here"] (spF 1 w_law_worth K) []) {f : Addr} {fd : FuncData} (F : FunD K "_law_worths" "_law_worths" (defArgs s_law_worths) (defBody s_law_worths) (defScope s_law_worths) [] [] f fd) : FnOk P w K mg base CX0 3 f fd ["_law_bag_here", "_law_many"] (spF 2 w_law_worths K) := by
  refine F.ok sc_law_worths (fun vs H Q E h => len_F h) (fun cdv A outer s H vs Q E hr h => ?_)
  have hq := q_law_worths (P := P) (w := w) (base := base) (E := E) (H := H) (outer := outer) T c_law_worth hr
  rw [e_law_worths, xF_eq] at h
  obtain ⟨t, h1, h2⟩ := body_F (N := ["_law_bag_here", "_law_many", "_law_at", "_law_to"]) (n := 2) hq rfl (by decide) h
  exact ⟨t, PSs.nox h1, h2⟩
abbrev s_is_text_of : Stmt := topS 10
theorem sc_is_text_of : FnScope ["thing", "signs", "least", "most", "sign"] ["thing", "signs", "least", "most"] (defScope s_is_text_of) := ⟨rfl, rfl, rfl, by decide +kernel, rfl, by decide +kernel, by decide +kernel⟩
theorem q_is_text_of (T : Tx K mg)  {f : Addr} {cdv : Value} {A : Around} {outer : List Env} {s : Shared} {H : Hp} {E : XK} (hr : Room 0 (A.deeper (PyProof.Rows.envOfC "is_text_of" (defScope s_is_text_of) s.heap.objs.size f cdv))) : QB (cxOf CX0 P w K mg base ["thing", "signs", "least", "most", "sign"] "is_text_of" (defScope s_is_text_of) f cdv A outer s H E).nox [.bor, .bor, .bor, .bor, .sh] [.bor, .bor, .bor, .bor, .sh] [.bor, .bor, .bor, .bor, .sh] (defBody s_is_text_of) p_is_text_of := by
  exact (qb_cons (qs_if (qt_w (qw_or (qt_not (qt_tru (qe_cbS isB_ok call_isB T.f_isinstance (by rfl) (by decide +kernel) (qa_cons (qe_v 0 (pv 0)) (qa_cons (qe_ty .str T.f_str (by rfl) (by decide +kernel)) qa_nil))))) (qw_or1 (qt_not (qt_chain op_leA op_leA le_ok le_ok (qe_v 2 (pv 2)) (qe_cbS len_ok call_lenA T.f_len (by rfl) (by decide +kernel) (qa_cons (qe_v 0 (pv 0)) qa_nil)) (qe_v 3 (pv 3))))))) (qb_one (qs_ret qe_bl)) qb_nil)
  (qb_one (qs_ret (qe_cbS all_ok (cr_all (by rfl)) T.f_all (by rfl) (by decide +kernel) (qa_cons (xe_lc (own := [("sign", 4)]) (fun hi hg ht he => pe_lc (own := [("sign", 4)]) (by rfl) sc_is_text_of.nd hi (blkOk_by (own := [("sign", 4)]) (by kernel_rfl)) hg ht he) (qi_str (qe_v 0 (pv 0))) (fun _ _ _ _ _ => (xq_name (i := 4) (pg_name (i := 4) sc_is_text_of.nd rfl (by first | exact Or.inl rfl | exact Or.inr rfl)))) (fun _ _ _ _ _ => by exact qts_nil) (fun _ _ _ _ _ => by exact (qe_in  (qe_v 4 (pv 4)) (qe_v 1 (pv 1))))) qa_nil)))))
theorem ok_is_text_of (T : Tx K mg)  {f : Addr} {fd : FuncData} (F : FunD K "is_text_of" "is_text_of" (defArgs s_is_text_of) (defBody s_is_text_of) (defScope s_is_text_of) [] [] f fd) : FnOk P w K mg base CX0 1 f fd ["thing", "signs", "least", "most"] (spF 4 w_is_text_of K) := by
  refine F.ok sc_is_text_of (fun vs H Q E h => len_F h) (fun cdv A outer s H vs Q E hr h => ?_)
  have hq := q_is_text_of (P := P) (w := w) (base := base) (E := E) (H := H) (outer := outer) T  hr
  rw [e_is_text_of, xF_eq] at h
  obtain ⟨t, h1, h2⟩ := body_F (N := ["thing", "signs", "least", "most", "sign"]) (n := 4) hq rfl (by decide) h
  exact ⟨t, PSs.nox h1, h2⟩
abbrev s_are_letters : Stmt := topS 18
theorem sc_are_letters : FnScope ["thing", "sign"] ["thing"] (defScope s_are_letters) := ⟨rfl, rfl, rfl, by decide +kernel, rfl, by decide +kernel, by decide +kernel⟩
theorem q_are_letters (T : Tx K mg) (c_is_text_of : Cal P w K mg base "is_text_of" 1 ["thing", "signs", "least", "most"] (spF 4 w_is_text_of K) []) {f : Addr} {cdv : Value} {A : Around} {outer : List Env} {s : Shared} {H : Hp} {E : XK} (hr : Room 1 (A.deeper (PyProof.Rows.envOfC "are_letters" (defScope s_are_letters) s.heap.objs.size f cdv))) : QB (cxOf CX0 P w K mg base ["thing", "sign"] "are_letters" (defScope s_are_letters) f cdv A outer s H E).nox [.bor, .sh] [.bor, .sh] [.bor, .sh] (defBody s_are_letters) p_are_letters := by
  exact (qb_one (qs_ret (qe_andV (qe_calF c_is_text_of dfl_nil (hr.mono (j := 1) (by decide)) (by rfl) (qa_cons (qe_v 0 (pv 0)) (qa_cons (qe_g T.g_LETTERS (by rfl)) (qa_cons qe_int (qa_cons (qe_g T.g_MOST_LETTERS (by rfl)) qa_nil))))) (qe_one (qe_eq (hr.units) (qe_setLenC (own := [("sign", 1)]) 1 (by rfl) sc_are_letters.nd (blkOk_by (own := [("sign", 1)]) (by kernel_rfl)) (fun h => pe_callB cr_lenS (by rfl) T.f_len (by decide +kernel) (pa_cons h pa_nil)) (fun _ _ _ _ _ => (pg_name (i := 1) sc_are_letters.nd rfl (by first | exact Or.inl rfl | exact Or.inr rfl))) (fun _ _ _ _ _ => (pv 1)) (qe_v 0 (pv 0))) (qe_cbS len_ok call_lenA T.f_len (by rfl) (by decide +kernel) (qa_cons (qe_v 0 (pv 0)) qa_nil)))))))
theorem ok_are_letters (T : Tx K mg) (c_is_text_of : Cal P w K mg base "is_text_of" 1 ["thing", "signs", "least", "most"] (spF 4 w_is_text_of K) []) {f : Addr} {fd : FuncData} (F : FunD K "are_letters" "are_letters" (defArgs s_are_letters) (defBody s_are_letters) (defScope s_are_letters) [] [] f fd) : FnOk P w K mg base CX0 2 f fd ["thing"] (spF 1 w_are_letters K) := by
  refine F.ok sc_are_letters (fun vs H Q E h => len_F h) (fun cdv A outer s H vs Q E hr h => ?_)
  have hq := q_are_letters (P := P) (w := w) (base := base) (E := E) (H := H) (outer := outer) T c_is_text_of hr
  rw [e_are_letters, xF_eq] at h
  obtain ⟨t, h1, h2⟩ := body_F (N := ["thing", "sign"]) (n := 1) hq rfl (by decide) h
  exact ⟨t, PSs.nox h1, h2⟩
abbrev s_is_whole : Stmt := topS 8
theorem sc_is_whole : FnScope ["thing"] ["thing"] (defScope s_is_whole) := ⟨rfl, rfl, rfl, by decide +kernel, rfl, by decide +kernel, by decide +kernel⟩
theorem q_is_whole (T : Tx K mg)  {f : Addr} {cdv : Value} {A : Around} {outer : List Env} {s : Shared} {H : Hp} {E : XK} (hr : Room 0 (A.deeper (PyProof.Rows.envOfC "is_whole" (defScope s_is_whole) s.heap.objs.size f cdv))) : QB (cxOf CX0 P w K mg base ["thing"] "is_whole" (defScope s_is_whole) f cdv A outer s H E).nox [.bor] [.bor] [.bor] (defBody s_is_whole) p_is_whole := by
  exact (qb_one (qs_ret (qe_andV (qe_cbS isB_ok call_isB T.f_isinstance (by rfl) (by decide +kernel) (qa_cons (qe_v 0 (pv 0)) (qa_cons (qe_ty .int T.f_int (by rfl) (by decide +kernel)) qa_nil))) (qe_one (qe_notV (qe_cbS isB_ok call_isB T.f_isinstance (by rfl) (by decide +kernel) (qa_cons (qe_v 0 (pv 0)) (qa_cons (qe_ty .bool T.f_bool (by rfl) (by decide +kernel)) qa_nil))))))))
theorem ok_is_whole (T : Tx K mg)  {f : Addr} {fd : FuncData} (F : FunD K "is_whole" "is_whole" (defArgs s_is_whole) (defBody s_is_whole) (defScope s_is_whole) [] [] f fd) : FnOk P w K mg base CX0 1 f fd ["thing"] (spF 1 w_is_whole K) := by
  refine F.ok sc_is_whole (fun vs H Q E h => len_F h) (fun cdv A outer s H vs Q E hr h => ?_)
  have hq := q_is_whole (P := P) (w := w) (base := base) (E := E) (H := H) (outer := outer) T  hr
  rw [e_is_whole, xF_eq] at h
  obtain ⟨t, h1, h2⟩ := body_F (N := ["thing"]) (n := 1) hq rfl (by decide) h
  exact ⟨t, PSs.nox h1, h2⟩
abbrev s_is_between : Stmt := topS 9
theorem sc_is_between : FnScope ["thing", "low", "high"] ["thing", "low", "high"] (defScope s_is_between) := ⟨rfl, rfl, rfl, by decide +kernel, rfl, by decide +kernel, by decide +kernel⟩
theorem q_is_between (T : Tx K mg) (c_is_whole : Cal P w K mg base "is_whole" 1 ["thing"] (spF 1 w_is_whole K) []) {f : Addr} {cdv : Value} {A : Around} {outer : List Env} {s : Shared} {H : Hp} {E : XK} (hr : Room 1 (A.deeper (PyProof.Rows.envOfC "is_between" (defScope s_is_between) s.heap.objs.size f cdv))) : QB (cxOf CX0 P w K mg base ["thing", "low", "high"] "is_between" (defScope s_is_between) f cdv A outer s H E).nox [.bor, .bor, .bor] [.bor, .bor, .bor] [.bor, .bor, .bor] (defBody s_is_between) p_is_between := by
  exact (qb_one (qs_ret (qe_andV (qe_calF c_is_whole dfl_nil (hr.mono (j := 1) (by decide)) (by rfl) (qa_cons (qe_v 0 (pv 0)) qa_nil)) (qe_one (qe_chain op_leA op_leA le_ok le_ok (qe_v 1 (pv 1)) (qe_v 0 (pv 0)) (qe_v 2 (pv 2)))))))
theorem ok_is_between (T : Tx K mg) (c_is_whole : Cal P w K mg base "is_whole" 1 ["thing"] (spF 1 w_is_whole K) []) {f : Addr} {fd : FuncData} (F : FunD K "is_between" "is_between" (defArgs s_is_between) (defBody s_is_between) (defScope s_is_between) [] [] f fd) : FnOk P w K mg base CX0 2 f fd ["thing", "low", "high"] (spF 3 w_is_between K) := by
  refine F.ok sc_is_between (fun vs H Q E h => len_F h) (fun cdv A outer s H vs Q E hr h => ?_)
  have hq := q_is_between (P := P) (w := w) (base := base) (E := E) (H := H) (outer := outer) T c_is_whole hr
  rw [e_is_between, xF_eq] at h
  obtain ⟨t, h1, h2⟩ := body_F (N := ["thing", "low", "high"]) (n := 3) hq rfl (by decide) h
  exact ⟨t, PSs.nox h1, h2⟩
abbrev s_is_worth : Stmt := topS 11
theorem sc_is_worth : FnScope ["thing"] ["thing"] (defScope s_is_worth) := ⟨rfl, rfl, rfl, by decide +kernel, rfl, by decide +kernel, by decide +kernel⟩
theorem q_is_worth (T : Tx K mg) (c_is_between : Cal P w K mg base "is_between" 2 ["thing", "low", "high"] (spF 3 w_is_between K) []) {f : Addr} {cdv : Value} {A : Around} {outer : List Env} {s : Shared} {H : Hp} {E : XK} (hr : Room 2 (A.deeper (PyProof.Rows.envOfC "is_worth" (defScope s_is_worth) s.heap.objs.size f cdv))) : QB (cxOf CX0 P w K mg base ["thing"] "is_worth" (defScope s_is_worth) f cdv A outer s H E).nox [.bor] [.bor] [.bor] (defBody s_is_worth) p_is_worth := by
  exact (qb_one (qs_ret (qe_calF c_is_between dfl_nil (hr.mono (j := 2) (by decide)) (by rfl) (qa_cons (qe_v 0 (pv 0)) (qa_cons (qe_neg (qe_g T.g_MOST_WORTH (by rfl))) (qa_cons (qe_g T.g_MOST_WORTH (by rfl)) qa_nil))))))
theorem ok_is_worth (T : Tx K mg) (c_is_between : Cal P w K mg base "is_between" 2 ["thing", "low", "high"] (spF 3 w_is_between K) []) {f : Addr} {fd : FuncData} (F : FunD K "is_worth" "is_worth" (defArgs s_is_worth) (defBody s_is_worth) (defScope s_is_worth) [] [] f fd) : FnOk P w K mg base CX0 3 f fd ["thing"] (spF 1 w_is_worth K) := by
  refine F.ok sc_is_worth (fun vs H Q E h => len_F h) (fun cdv A outer s H vs Q E hr h => ?_)
  have hq := q_is_worth (P := P) (w := w) (base := base) (E := E) (H := H) (outer := outer) T c_is_between hr
  rw [e_is_worth, xF_eq] at h
  obtain ⟨t, h1, h2⟩ := body_F (N := ["thing"]) (n := 1) hq rfl (by decide) h
  exact ⟨t, PSs.nox h1, h2⟩
abbrev s_are_worths : Stmt := topS 19
theorem sc_are_worths : FnScope ["thing", "many", "row", "one"] ["thing", "many"] (defScope s_are_worths) := ⟨rfl, rfl, rfl, by decide +kernel, rfl, by decide +kernel, by decide +kernel⟩
theorem q_are_worths (T : Tx K mg) (c_is_worth : Cal P w K mg base "is_worth" 3 ["thing"] (spF 1 w_is_worth K) []) {f : Addr} {cdv : Value} {A : Around} {outer : List Env} {s : Shared} {H : Hp} {E : XK} (hr : Room 3 (A.deeper (PyProof.Rows.envOfC "are_worths" (defScope s_are_worths) s.heap.objs.size f cdv))) : QB (cxOf CX0 P w K mg base ["thing", "many", "row", "one"] "are_worths" (defScope s_are_worths) f cdv A outer s H E).nox [.bor, .bor, .bor, .bor] [.bor, .bor, .bor, .bor] [.bor, .bor, .bor, .bor] (defBody s_are_worths) p_are_worths := by
  exact (qb_cons (qs_if (qt_w (qw_or (qt_not (qt_tru (qe_cbS isB_ok call_isB T.f_isinstance (by rfl) (by decide +kernel) (qa_cons (qe_v 0 (pv 0)) (qa_cons (qe_ty .list T.f_list (by rfl) (by decide +kernel)) qa_nil))))) (qw_or1 (qt_ne (hr.units) (qe_cbS len_ok call_lenA T.f_len (by rfl) (by decide +kernel) (qa_cons (qe_v 0 (pv 0)) qa_nil)) (qe_v 1 (pv 1)))))) (qb_one (qs_ret qe_bl)) qb_nil)
  (qb_cons (yq_for (qs_for (js := [2]) (fun h1 h2 h3 => ps_for PassesOwn.never rfl h1 h2 h3) (qi_lst (qe_v 0 (pv 0))) (xq_name (i := 2) (pg_name (i := 2) sc_are_worths.nd rfl (by first | exact Or.inl rfl | exact Or.inr rfl))) (qb_one (qs_if (qt_w (qw_or (qt_not (qt_tru (qe_cbS isB_ok call_isB T.f_isinstance (by rfl) (by decide +kernel) (qa_cons (qe_v 2 (pv 2)) (qa_cons (qe_ty .list T.f_list (by rfl) (by decide +kernel)) qa_nil))))) (qw_or (qt_ne (hr.units) (qe_cbS len_ok call_lenA T.f_len (by rfl) (by decide +kernel) (qa_cons (qe_v 2 (pv 2)) qa_nil)) (qe_v 1 (pv 1))) (qw_or1 (qt_not (qt_tru (qe_cbS all_ok (cr_all (by rfl)) T.f_all (by rfl) (by decide +kernel) (qa_cons (yq_lc (xe_lc (own := [("one", 3)]) (fun hi hg ht he => pe_lc (own := [("one", 3)]) (by rfl) sc_are_worths.nd hi (blkOk_by (own := [("one", 3)]) (by kernel_rfl)) hg ht he) (qi_lst (qe_v 2 (pv 2))) (fun _ _ _ _ _ => (xq_name (i := 3) (pg_name (i := 3) sc_are_worths.nd rfl (by first | exact Or.inl rfl | exact Or.inr rfl)))) (fun _ _ _ _ _ => by exact qts_nil) (fun _ _ _ _ _ => by exact (qe_calF c_is_worth dfl_nil (hr.mono (j := 3) (by decide)) (by rfl) (qa_cons (qe_v 3 (pv 3)) qa_nil))))) qa_nil)))))))) (qb_one (qs_ret qe_bl)) qb_nil))))
  (qb_one (qs_ret qe_bl))))
theorem ok_are_worths (T : Tx K mg) (c_is_worth : Cal P w K mg base "is_worth" 3 ["thing"] (spF 1 w_is_worth K) []) {f : Addr} {fd : FuncData} (F : FunD K "are_worths" "are_worths" (defArgs s_are_worths) (defBody s_are_worths) (defScope s_are_worths) [] [] f fd) : FnOk P w K mg base CX0 4 f fd ["thing", "many"] (spF 2 w_are_worths K) := by
  refine F.ok sc_are_worths (fun vs H Q E h => len_F h) (fun cdv A outer s H vs Q E hr h => ?_)
  have hq := q_are_worths (P := P) (w := w) (base := base) (E := E) (H := H) (outer := outer) T c_is_worth hr
  rw [e_are_worths, xF_eq] at h
  obtain ⟨t, h1, h2⟩ := body_F (N := ["thing", "many", "row", "one"]) (n := 2) hq rfl (by decide) h
  exact ⟨t, PSs.nox h1, h2⟩
abbrev s_is_price : Stmt := topS 12
theorem sc_is_price : FnScope ["thing"] ["thing"] (defScope s_is_price) := ⟨rfl, rfl, rfl, by decide +kernel, rfl, by decide +kernel, by decide +kernel⟩
theorem q_is_price (T : Tx K mg) (c_is_between : Cal P w K mg base "is_between" 2 ["thing", "low", "high"] (spF 3 w_is_between K) []) {f : Addr} {cdv : Value} {A : Around} {outer : List Env} {s : Shared} {H : Hp} {E : XK} (hr : Room 2 (A.deeper (PyProof.Rows.envOfC "is_price" (defScope s_is_price) s.heap.objs.size f cdv))) : QB (cxOf CX0 P w K mg base ["thing"] "is_price" (defScope s_is_price) f cdv A outer s H E).nox [.bor] [.bor] [.bor] (defBody s_is_price) p_is_price := by
  exact (qb_one (qs_ret (qe_calF c_is_between dfl_nil (hr.mono (j := 2) (by decide)) (by rfl) (qa_cons (qe_v 0 (pv 0)) (qa_cons qe_int (qa_cons (qe_g T.g_MOST_WORTH (by rfl)) qa_nil))))))
theorem ok_is_price (T : Tx K mg) (c_is_between : Cal P w K mg base "is_between" 2 ["thing", "low", "high"] (spF 3 w_is_between K) []) {f : Addr} {fd : FuncData} (F : FunD K "is_price" "is_price" (defArgs s_is_price) (defBody s_is_price) (defScope s_is_price) [] [] f fd) : FnOk P w K mg base CX0 3 f fd ["thing"] (spF 1 w_is_price K) := by
  refine F.ok sc_is_price (fun vs H Q E h => len_F h) (fun cdv A outer s H vs Q E hr h => ?_)
  have hq := q_is_price (P := P) (w := w) (base := base) (E := E) (H := H) (outer := outer) T c_is_between hr
  rw [e_is_price, xF_eq] at h
  obtain ⟨t, h1, h2⟩ := body_F (N := ["thing"]) (n := 1) hq rfl (by decide) h
  exact ⟨t, PSs.nox h1, h2⟩
abbrev s_Scale_init : Stmt := inClass (topS 20) 0
theorem sc_Scale_init : FnScope ["self", "letters", "worths", "opening", "each", "at", "price", "one", "to", "other"] ["self", "letters", "worths", "opening", "each"] (defScope s_Scale_init) := ⟨rfl, rfl, rfl, by decide +kernel, rfl, by decide +kernel, by decide +kernel⟩
theorem q_Scale_init (T : Tx K mg) (c_are_letters : Cal P w K mg base "are_letters" 2 ["thing"] (spF 1 w_are_letters K) []) (c_are_worths : Cal P w K mg base "are_worths" 4 ["thing", "many"] (spF 2 w_are_worths K) []) (c_is_price : Cal P w K mg base "is_price" 3 ["thing"] (spF 1 w_is_price K) []) {f : Addr} {cdv : Value} {A : Around} {outer : List Env} {s : Shared} {H : Hp} {E : XK} (hr : Room 4 (A.deeper (PyProof.Rows.envOfC "Scale.__init__" (defScope s_Scale_init) s.heap.objs.size f cdv))) : QB (cxOf CX0 P w K mg base ["self", "letters", "worths", "opening", "each", "at", "price", "one", "to", "other"] "Scale.__init__" (defScope s_Scale_init) f cdv A outer s H E).nox [.slf, .bor, .bor, .bor, .bor, .sh, .sh, .sh, .sh, .sh] [.slf, .bor, .bor, .bor, .bor, .sh, .sh, .sh, .sh, .sh] [.slf, .bor, .bor, .bor, .bor, .sh, .sh, .sh, .sh, .sh] (defBody s_Scale_init) p_Scale_init := by
  exact (qb_cons (qs_if (qt_not (qt_tru (qe_calF c_are_letters dfl_nil (hr.mono (j := 2) (by decide)) (by rfl) (qa_cons (qe_v 1 (pv 1)) qa_nil)))) (qb_one qs_never) qb_nil)
  (qb_cons (qs_if (qt_not (qt_tru (qe_calF c_are_worths dfl_nil (hr.mono (j := 4) (by decide)) (by rfl) (qa_cons (qe_v 2 (pv 2)) (qa_cons (qe_cbS len_ok call_lenA T.f_len (by rfl) (by decide +kernel) (qa_cons (qe_v 1 (pv 1)) qa_nil)) qa_nil))))) (qb_one qs_never) qb_nil)
  (qb_cons (yq_for (qs_for (js := [5, 6]) (fun h1 h2 h3 => ps_for PassesOwn.never rfl h1 h2 h3) (qi_lst (qe_lst (qa_cons (qe_imm (qe_tup (qa_cons qe_int (qa_cons (qe_v 3 (pv 3)) qa_nil)))) (qa_cons (qe_imm (qe_tup (qa_cons qe_int (qa_cons (qe_v 4 (pv 4)) qa_nil)))) qa_nil)))) (qg_tup (by rfl) (qgs_cons (xq_name (i := 5) (pg_name (i := 5) sc_Scale_init.nd rfl (by first | exact Or.inl rfl | exact Or.inr rfl))) (qgs_cons (xq_name (i := 6) (pg_name (i := 6) sc_Scale_init.nd rfl (by first | exact Or.inl rfl | exact Or.inr rfl))) qgs_nil)) (ml_cons xmg_name (ml_cons xmg_name ml_nil))) (qb_one (qs_if (qt_not (qt_tru (qe_calF c_is_price dfl_nil (hr.mono (j := 3) (by decide)) (by rfl) (qa_cons (qe_v 6 (pv 6)) qa_nil)))) (qb_one qs_never) qb_nil))))
  (qb_cons (xs_fld 0 0 T.c_Scale T.a_Scale_kept_letters (fun h => ps_fld (pv 0) h rfl) (qe_imm (qe_v 1 (pv 1))))
  (qb_cons (xs_fld 0 1 T.c_Scale T.a_Scale_by_two (fun h => ps_fld (pv 0) h rfl) (qe_new (qn_dc2 (own1 := [8, 9]) (vs1 := [8, 9, 0]) (own := [("at", 5), ("one", 7), ("to", 8), ("other", 9)]) (vs := [5, 7, 8, 9, 0]) (by rfl) sc_Scale_init.nd (hu1 hr.units) (blkOk_by (own := [("at", 5), ("one", 7), ("to", 8), ("other", 9)]) (by kernel_rfl)) (qi_enumS (by rfl) T.f_enumerate (qe_v 1 (pv 1))) (fun _ _ _ _ _ => by exact (qg_tup (by rfl) (qgs_cons (xq_name (i := 5) (pg_name (i := 5) sc_Scale_init.nd rfl (by first | exact Or.inl rfl | exact Or.inr rfl))) (qgs_cons (xq_name (i := 7) (pg_name (i := 7) sc_Scale_init.nd rfl (by first | exact Or.inl rfl | exact Or.inr rfl))) qgs_nil)) (ml_cons xmg_name (ml_cons xmg_name ml_nil)))) (fun _ _ _ _ _ => by exact qts_nil) (fun _ _ _ _ _ => by exact (qi_enumS (by rfl) T.f_enumerate (qe_v 1 (pv 1)))) (fun _ _ _ _ _ => by exact (qg_tup (by rfl) (qgs_cons (xq_name (i := 8) (pg_name (i := 8) sc_Scale_init.nd rfl (by first | exact Or.inl rfl | exact Or.inr rfl))) (qgs_cons (xq_name (i := 9) (pg_name (i := 9) sc_Scale_init.nd rfl (by first | exact Or.inl rfl | exact Or.inr rfl))) qgs_nil)) (ml_cons xmg_name (ml_cons xmg_name ml_nil)))) (fun _ _ _ _ _ => by exact qts_nil) (fun _ _ _ _ _ => by exact (qk_tup (qa_cons (qe_v 7 (pv 7)) (qa_cons (qe_v 9 (pv 9)) qa_nil)))) (fun _ _ _ _ _ => by exact (qe_imm (qe_ix (qe_ix (qe_v 2 (pv 2)) (qe_v 5 (pv 5))) (qe_v 8 (pv 8))))) (by decide) (hv_by rfl) (by decide) (hv_by rfl) (by decide))))
  (qb_one (xs_fld2 0 2 3 T.c_Scale T.a_Scale_kept_opening T.a_Scale_kept_each (fun h => ps_asg (pe_tup h) (pg_tup (by rfl) (pgs_cons (pg_fld (pv 0)) (pgs_cons (pg_fld (pv 0)) pgs_nil)))) (qa_cons (qe_imm (qe_v 3 (pv 3))) (qa_cons (qe_imm (qe_v 4 (pv 4))) qa_nil)))))))))
theorem ok_Scale_init (T : Tx K mg) (c_are_letters : Cal P w K mg base "are_letters" 2 ["thing"] (spF 1 w_are_letters K) []) (c_are_worths : Cal P w K mg base "are_worths" 4 ["thing", "many"] (spF 2 w_are_worths K) []) (c_is_price : Cal P w K mg base "is_price" 3 ["thing"] (spF 1 w_is_price K) []) {f : Addr} {fd : FuncData} (F : FunD K "__init__" "Scale.__init__" (defArgs s_Scale_init) (defBody s_Scale_init) (defScope s_Scale_init) [] [("opening", .int 3), ("each", .int 1)] f fd) : FnOk P w K mg base CX0 5 f fd ["self", "letters", "worths", "opening", "each"] (spIF 0 4 w_Scale_init K) := by
  refine F.ok sc_Scale_init (fun vs H Q E h => len_IF h) (fun cdv A outer s H vs Q E hr h => ?_)
  have hq := q_Scale_init (P := P) (w := w) (base := base) (E := E) (H := H) (outer := outer) T c_are_letters c_are_worths c_is_price hr
  rw [e_Scale_init, xI_eq] at h
  obtain ⟨t, h1, h2⟩ := body_IF (N := ["self", "letters", "worths", "opening", "each", "at", "price", "one", "to", "other"]) (n := 4) hq rfl rfl rfl (by decide) h
  exact ⟨t, PSs.nox h1, h2⟩
abbrev s_law_row : Stmt := topS 28
theorem sc_law_row : FnScope ["_law_bag_here", "_law_letters_here", "_law_alphabet", "_law_long", "_law_pool", "_law_found", "_law_k", "_law_at"] ["_law_bag_here", "_law_letters_here"] (defScope s_law_row) := ⟨rfl, rfl, rfl, by decide +kernel, rfl, by decide +kernel, by decide +kernel⟩
theorem q_law_row (T : Tx K mg) (c_law_take : Cal P w K mg base "_law_take" 1 ["_law_bag_here", "_law_many"] (spF 2 w_law_take K) []) {f : Addr} {cdv : Value} {A : Around} {outer : List Env} {s : Shared} {H : Hp} {E : XK} (hr : Room 1 (A.deeper (PyProof.Rows.envOfC "_law_row" (defScope s_law_row) s.heap.objs.size f cdv))) : QB (cxOf CX0 P w K mg base ["_law_bag_here", "_law_letters_here", "_law_alphabet", "_law_long", "_law_pool", "_law_found", "_law_k", "_law_at"] "_law_row" (defScope s_law_row) f cdv A outer s H E).nox [.bor, .bor, .sh, .sh, .sh, .sh, .sh, .sh] [.bor, .bor, .sh, .sh, .sh, .sh, .sh, .sh] [.bor, .bor, .sh, .sh, .sh, .sh, .sh, .sh] (defBody s_law_row) p_law_row := by
  exact (qb_cons (xs_setG (i := 2) (fun h => ps_set (i := 2) sc_law_row.nd rfl (by first | exact Or.inl rfl | exact Or.inr rfl) h) qe_str)
  (qb_cons (xs_setG (i := 3) (fun h => ps_set (i := 3) sc_law_row.nd rfl (by first | exact Or.inl rfl | exact Or.inr rfl) h) (qe_ix (qe_lst (qa_cons qe_int (qa_cons qe_int (qa_cons qe_int (qa_cons qe_int (qa_cons qe_int (qa_cons qe_int (qa_cons qe_int (qa_cons (qe_calF c_law_take dfl_nil (hr.mono (j := 1) (by decide)) (by rfl) (qa_cons (qe_v 0 (pv 0)) (qa_cons qe_int qa_nil))) qa_nil))))))))) (qe_calF c_law_take dfl_nil (hr.mono (j := 1) (by decide)) (by rfl) (qa_cons (qe_v 0 (pv 0)) (qa_cons qe_int qa_nil)))))
  (qb_cons (xs_setG (i := 4) (fun h => ps_set (i := 4) sc_law_row.nd rfl (by first | exact Or.inl rfl | exact Or.inr rfl) h) (qe_ix (qe_lst (qa_cons (qe_imm (qe_v 1 (pv 1))) (qa_cons (qe_imm (qe_v 1 (pv 1))) (qa_cons (qe_imm (qe_v 1 (pv 1))) (qa_cons (qe_v 2 (pv 2)) (qa_cons (qe_imm (qe_ix (qe_v 1 (pv 1)) qe_int)) qa_nil)))))) (qe_calF c_law_take dfl_nil (hr.mono (j := 1) (by decide)) (by rfl) (qa_cons (qe_v 0 (pv 0)) (qa_cons qe_int qa_nil)))))
  (qb_cons (xs_setG (i := 5) (fun h => ps_set (i := 5) sc_law_row.nd rfl (by first | exact Or.inl rfl | exact Or.inr rfl) h) (qe_join qe_str (yq_lc (xe_lc (own := [("_law_k", 6)]) (fun hi hg ht he => pe_lc (own := [("_law_k", 6)]) (by rfl) sc_law_row.nd hi (blkOk_by (own := [("_law_k", 6)]) (by kernel_rfl)) hg ht he) (qi_rng (by rfl) T.f_range (qe_v 3 (pv 3))) (fun _ _ _ _ _ => (xq_name (i := 6) (pg_name (i := 6) sc_law_row.nd rfl (by first | exact Or.inl rfl | exact Or.inr rfl)))) (fun _ _ _ _ _ => by exact qts_nil) (fun _ _ _ _ _ => by exact (qe_ix (qe_v 4 (pv 4)) (qe_calF c_law_take dfl_nil (hr.mono (j := 1) (by decide)) (by rfl) (qa_cons (qe_v 0 (pv 0)) (qa_cons (qe_cbS len_ok call_lenA T.f_len (by rfl) (by decide +kernel) (qa_cons (qe_v 4 (pv 4)) qa_nil)) qa_nil)))))))))
  (qb_cons (yq_for (qs_for (js := [6]) (fun h1 h2 h3 => ps_for PassesOwn.never rfl h1 h2 h3) (qi_rng (by rfl) T.f_range (qe_calF c_law_take dfl_nil (hr.mono (j := 1) (by decide)) (by rfl) (qa_cons (qe_v 0 (pv 0)) (qa_cons qe_int qa_nil)))) (xq_name (i := 6) (pg_name (i := 6) sc_law_row.nd rfl (by first | exact Or.inl rfl | exact Or.inr rfl))) (qb_cons (xs_setG (i := 7) (fun h => ps_set (i := 7) sc_law_row.nd rfl (by first | exact Or.inl rfl | exact Or.inr rfl) h) (qe_calF c_law_take dfl_nil (hr.mono (j := 1) (by decide)) (by rfl) (qa_cons (qe_v 0 (pv 0)) (qa_cons (qe_add (qe_cbS len_ok call_lenA T.f_len (by rfl) (by decide +kernel) (qa_cons (qe_v 5 (pv 5)) qa_nil)) qe_int) qa_nil))))
  (qb_one (xs_setG (i := 5) (fun h => ps_set (i := 5) sc_law_row.nd rfl (by first | exact Or.inl rfl | exact Or.inr rfl) h) (qe_sl (qe_add (qe_add (qe_sl (qe_v 5 (pv 5)) qo_none (qo_some (qe_v 7 (pv 7)))) (qe_ix (qe_v 2 (pv 2)) (qe_calF c_law_take dfl_nil (hr.mono (j := 1) (by decide)) (by rfl) (qa_cons (qe_v 0 (pv 0)) (qa_cons qe_int qa_nil))))) (qe_sl (qe_v 5 (pv 5)) (qo_some (qe_v 7 (pv 7))) qo_none)) qo_none (qo_some qe_int)))))))
  (qb_one (qs_ret (qe_v 5 (pv 5)))))))))
theorem ok_law_row (T : Tx K mg) (c_law_take : Cal P w K mg base "_law_take" 1 ["_law_bag_here", "_law_many"] (spF 2 w_law_take K) []) {f : Addr} {fd : FuncData} (F : FunD K "_law_row" "_law_row" (defArgs s_law_row) (defBody s_law_row) (defScope s_law_row) [] [] f fd) : FnOk P w K mg base CX0 2 f fd ["_law_bag_here", "_law_letters_here"] (spF 2 w_law_row K) := by
  refine F.ok sc_law_row (fun vs H Q E h => len_F h) (fun cdv A outer s H vs Q E hr h => ?_)
  have hq := q_law_row (P := P) (w := w) (base := base) (E := E) (H := H) (outer := outer) T c_law_take hr
  rw [e_law_row, xF_eq] at h
  obtain ⟨t, h1, h2⟩ := body_F (N := ["_law_bag_here", "_law_letters_here", "_law_alphabet", "_law_long", "_law_pool", "_law_found", "_law_k", "_law_at"]) (n := 2) hq rfl (by decide) h
  exact ⟨t, PSs.nox h1, h2⟩
abbrev s_is_row : Stmt := topS 13
theorem sc_is_row : FnScope ["thing"] ["thing"] (defScope s_is_row) := ⟨rfl, rfl, rfl, by decide +kernel, rfl, by decide +kernel, by decide +kernel⟩
theorem q_is_row (T : Tx K mg) (c_is_text_of : Cal P w K mg base "is_text_of" 1 ["thing", "signs", "least", "most"] (spF 4 w_is_text_of K) []) {f : Addr} {cdv : Value} {A : Around} {outer : List Env} {s : Shared} {H : Hp} {E : XK} (hr : Room 1 (A.deeper (PyProof.Rows.envOfC "is_row" (defScope s_is_row) s.heap.objs.size f cdv))) : QB (cxOf CX0 P w K mg base ["thing"] "is_row" (defScope s_is_row) f cdv A outer s H E).nox [.bor] [.bor] [.bor] (defBody s_is_row) p_is_row := by
  exact (qb_one (qs_ret (qe_calF c_is_text_of dfl_nil (hr.mono (j := 1) (by decide)) (by rfl) (qa_cons (qe_v 0 (pv 0)) (qa_cons (qe_g T.g_LETTERS (by rfl)) (qa_cons qe_int (qa_cons (qe_g T.g_LONGEST_ROW (by rfl)) qa_nil)))))))
theorem ok_is_row (T : Tx K mg) (c_is_text_of : Cal P w K mg base "is_text_of" 1 ["thing", "signs", "least", "most"] (spF 4 w_is_text_of K) []) {f : Addr} {fd : FuncData} (F : FunD K "is_row" "is_row" (defArgs s_is_row) (defBody s_is_row) (defScope s_is_row) [] [] f fd) : FnOk P w K mg base CX0 2 f fd ["thing"] (spF 1 w_is_row K) := by
  refine F.ok sc_is_row (fun vs H Q E h => len_F h) (fun cdv A outer s H vs Q E hr h => ?_)
  have hq := q_is_row (P := P) (w := w) (base := base) (E := E) (H := H) (outer := outer) T c_is_text_of hr
  rw [e_is_row, xF_eq] at h
  obtain ⟨t, h1, h2⟩ := body_F (N := ["thing"]) (n := 1) hq rfl (by decide) h
  exact ⟨t, PSs.nox h1, h2⟩
abbrev s_Scale_knows : Stmt := inClass (topS 20) 6
theorem sc_Scale_knows : FnScope ["self", "row", "letter"] ["self", "row"] (defScope s_Scale_knows) := ⟨rfl, rfl, rfl, by decide +kernel, rfl, by decide +kernel, by decide +kernel⟩
theorem q_Scale_knows (T : Tx K mg) (c_is_row : Cal P w K mg base "is_row" 2 ["thing"] (spF 1 w_is_row K) []) {f : Addr} {cdv : Value} {A : Around} {outer : List Env} {s : Shared} {H : Hp} {E : XK} (hr : Room 2 (A.deeper (PyProof.Rows.envOfC "Scale.knows" (defScope s_Scale_knows) s.heap.objs.size f cdv))) : QB (cxOf CX0 P w K mg base ["self", "row", "letter"] "Scale.knows" (defScope s_Scale_knows) f cdv A outer s H E).nox [.bor, .bor, .sh] [.bor, .bor, .sh] [.bor, .bor, .sh] (defBody s_Scale_knows) p_Scale_knows := by
  exact (qb_cons (qs_if (qt_not (qt_tru (qe_calF c_is_row dfl_nil (hr.mono (j := 2) (by decide)) (by rfl) (qa_cons (qe_v 1 (pv 1)) qa_nil)))) (qb_one qs_never) qb_nil)
  (qb_one (qs_ret (qe_cbS all_ok (cr_all (by rfl)) T.f_all (by rfl) (by decide +kernel) (qa_cons (yq_lc (xe_lc (own := [("letter", 2)]) (fun hi hg ht he => pe_lc (own := [("letter", 2)]) (by rfl) sc_Scale_knows.nd hi (blkOk_by (own := [("letter", 2)]) (by kernel_rfl)) hg ht he) (qi_str (qe_v 1 (pv 1))) (fun _ _ _ _ _ => (xq_name (i := 2) (pg_name (i := 2) sc_Scale_knows.nd rfl (by first | exact Or.inl rfl | exact Or.inr rfl)))) (fun _ _ _ _ _ => by exact qts_nil) (fun _ _ _ _ _ => by exact (qe_in  (qe_v 2 (pv 2)) (qe_fld 0 0 T.c_Scale T.a_Scale_kept_letters (qe_v 0 (pv 0))))))) qa_nil)))))
theorem ok_Scale_knows (T : Tx K mg) (c_is_row : Cal P w K mg base "is_row" 2 ["thing"] (spF 1 w_is_row K) []) {f : Addr} {fd : FuncData} (F : FunD K "knows" "Scale.knows" (defArgs s_Scale_knows) (defBody s_Scale_knows) (defScope s_Scale_knows) [] [] f fd) : FnOk P w K mg base CX0 3 f fd ["self", "row"] (spF 2 w_Scale_knows K) := by
  refine F.ok sc_Scale_knows (fun vs H Q E h => len_F h) (fun cdv A outer s H vs Q E hr h => ?_)
  have hq := q_Scale_knows (P := P) (w := w) (base := base) (E := E) (H := H) (outer := outer) T c_is_row hr
  rw [e_Scale_knows, xF_eq] at h
  obtain ⟨t, h1, h2⟩ := body_F (N := ["self", "row", "letter"]) (n := 2) hq rfl (by decide) h
  exact ⟨t, PSs.nox h1, h2⟩
abbrev s_law_bag : Stmt := topS 22
theorem sc_law_bag : FnScope ["_law_script", "_law_cell"] ["_law_script"] (defScope s_law_bag) := ⟨rfl, rfl, rfl, by decide +kernel, rfl, by decide +kernel, by decide +kernel⟩
abbrev s_law : Stmt := topS 29
theorem sc_law : FnScope ["_law_script", "_law_bag_here", "_law_letters_here", "_law_scale", "_law_alphabet", "_law_rows", "_law_row_here", "_law_due", "_law_found", "_law_k", "_law_letter"] ["_law_script"] (defScope s_law) := ⟨rfl, rfl, rfl, by decide +kernel, rfl, by decide +kernel, by decide +kernel⟩
end
section
variable {P : Program} {w : World} {K : Vl.Fg} {mg : Str → Option Value} {base : Heap}
theorem td_law_take (T : Tx K mg) {f : Addr} {cdv : Value} {A : Around} {outer : List Env} {s : Shared} {H : Hp} {E : XK} (hr : Room 0 (A.deeper (PyProof.Rows.envOfC "_law_take" (defScope s_law_take) s.heap.objs.size f cdv))) : PSs (cxOf CX0 P w K mg base ["_law_bag_here", "_law_many", "_law_cell", "_law_value", "_law_first", "_law_second"] "_law_take" (defScope s_law_take) f cdv A outer s H E).nox (defBody s_law_take) (t_take K) := by
  exact (pss_cons (ps_if (pt_cmpR (op_eqA hr.units) (pe_ix ix_seq (pv 0) pe_int (fun _ _ => rfl)) pe_int (nomark _)) (pss_cons (ps_set (i := 2) sc_law_take.nd rfl (by first | exact Or.inl rfl | exact Or.inr rfl) pe_int)
  (pss_cons (ps_if (pt_cmpR op_ltA (pe_ix ix_seq (pv 0) pe_int (fun _ _ => rfl)) (pe_callB call_lenA (by rfl) T.f_len (by decide +kernel) (pa_cons (pe_ix ix_seq (pv 0) pe_int (fun _ _ => rfl)) pa_nil)) (nomark _)) (pss_one (ps_set (i := 2) sc_law_take.nd rfl (by first | exact Or.inl rfl | exact Or.inr rfl) (pe_ix ix_seq (pe_ix ix_seq (pv 0) pe_int (fun _ _ => rfl)) (pe_ix ix_seq (pv 0) pe_int (fun _ _ => rfl)) (fun _ _ => rfl)))) pss_nil)
  (pss_cons (ps_augS (pv 0) pe_int get_list pe_int ip_addA set_list)
  (pss_cons (ps_if (pt_cmpR op_geA (pv 2) pe_int (nomark _)) (pss_one (ps_asg (pv 2) (pg_sub (pv 0) pe_int set_list))) pss_nil)
  (pss_one (ps_asg (pe_op op_modA (pe_op op_addA (pe_op op_addA (pe_op op_mulA (pe_ix ix_seq (pv 0) pe_int (fun _ _ => rfl)) pe_int) (pe_op op_modA (pv 2) pe_int)) (pe_op op_mulA pe_int (pe_ix ix_seq (pv 0) pe_int (fun _ _ => rfl)))) pe_int) (pg_sub (pv 0) pe_int set_list))))))) pss_nil)
  (pss_cons (ps_if (pt_cmpR op_gtA (pe_ix ix_seq (pv 0) pe_int (fun _ _ => rfl)) pe_int (nomark _)) (pss_cons (ps_set (i := 3) sc_law_take.nd rfl (by first | exact Or.inl rfl | exact Or.inr rfl) (pe_op op_modA (pe_ix ix_seq (pv 0) pe_int (fun _ _ => rfl)) (pv 1)))
  (pss_cons (ps_asg (pe_op op_divA (pe_ix ix_seq (pv 0) pe_int (fun _ _ => rfl)) (pv 1)) (pg_sub (pv 0) pe_int set_list)) (pss_one (ps_ret (pv 3))))) pss_nil)
  (pss_cons (ps_set (i := 4) sc_law_take.nd rfl (by first | exact Or.inl rfl | exact Or.inr rfl) (pe_op op_modA (pe_op op_mulA (pe_op op_addA (pe_ix ix_seq (pv 0) pe_int (fun _ _ => rfl)) pe_int) pe_int) pe_int))
  (pss_cons (ps_set (i := 5) sc_law_take.nd rfl (by first | exact Or.inl rfl | exact Or.inr rfl) (pe_op op_modA (pe_op op_mulA (pe_op op_modA (pe_op op_mulA (pv 4) (pv 4)) pe_int) pe_int) pe_int))
  (pss_cons (ps_if (pt_cmpR op_gtA (pv 1) pe_int (nomark _)) (pss_one (ps_ret (pe_op op_modA (pe_op op_addA (pe_op op_mulA (pv 5) pe_int) (pv 4)) (pv 1)))) pss_nil)
  (pss_one (ps_ret (pe_op op_modA (pe_op op_divA (pv 5) pe_int) (pv 1)))))))))
theorem ok_law_take (T : Tx K mg) {f : Addr} {fd : FuncData} (F : FunD K "_law_take" "_law_take" (defArgs s_law_take) (defBody s_law_take) (defScope s_law_take) [] [] f fd) : FnOk P w K mg base CX0 1 f fd ["_law_bag_here", "_law_many"] (spF 2 w_law_take K) := by
  refine F.ok sc_law_take (fun vs H Q E h => len_F h) (fun cdv A outer s H vs Q E hr h => ?_)
  exact ⟨_, PSs.nox (td_law_take T hr), pure_take h⟩
theorem td_law_bag (T : Tx K mg) {f : Addr} {cdv : Value} {A : Around} {outer : List Env} {s : Shared} {H : Hp} {E : XK} (hr : Room 0 (A.deeper (PyProof.Rows.envOfC "_law_bag" (defScope s_law_bag) s.heap.objs.size f cdv))) : PSs (cxOf CX0 P w K mg base ["_law_script", "_law_cell"] "_law_bag" (defScope s_law_bag) f cdv A outer s H E).nox (defBody s_law_bag) (t_bag K) := by
  exact (pss_one (ps_ret (pe_lst (pa_cons pe_int (pa_cons pe_int (pa_cons pe_int (pa_cons (pe_lc (own := [("_law_cell", 1)]) (by rfl) sc_law_bag.nd (pi_list (pe_slice sl_list (pv 0) po_none (po_some pe_int))) (blkOk_by (own := [("_law_cell", 1)]) (by kernel_rfl)) (fun _ _ _ _ _ => pg_name (i := 1) sc_law_bag.nd rfl (by first | exact Or.inl rfl | exact Or.inr rfl)) (fun _ _ _ _ _ => by exact pts_nil) (fun _ _ _ _ _ => by exact pe_callB call_absA (by rfl) T.f_abs (by decide +kernel) (pa_cons (pv 1) pa_nil))) pa_nil)))))))
theorem ok_law_bag (T : Tx K mg) {f : Addr} {fd : FuncData} (F : FunD K "_law_bag" "_law_bag" (defArgs s_law_bag) (defBody s_law_bag) (defScope s_law_bag) [] [] f fd) : FnOk P w K mg base CX0 1 f fd ["_law_script"] (spBag K) := by
  refine F.ok sc_law_bag (fun vs H Q E h => by obtain ⟨_, _, rfl, _⟩ := h; rfl) (fun cdv A outer s H vs Q E hr h => ?_)
  exact ⟨_, PSs.nox (td_law_bag T hr), pure_bag h⟩
theorem q_law (T : Tx K mg) (c_law_letters : Cal P w K mg base "_law_letters" 2 ["_law_bag_here", "_law_most"] (spF 2 w_law_letters K) []) (c_law_worths : Cal P w K mg base "_law_worths" 3 ["_law_bag_here", "_law_many"] (spF 2 w_law_worths K) []) (ci_Scale : CalI P w K mg base "Scale" 5 ["self", "letters", "worths", "opening", "each"] (spIF 0 4 w_Scale_init K) [.int 3, .int 1]) (c_law_row : Cal P w K mg base "_law_row" 2 ["_law_bag_here", "_law_letters_here"] (spF 2 w_law_row K) []) (m_Scale_knows : CalM P w K mg base "Scale" "knows" 3 ["self", "row"] (spF 2 w_Scale_knows K) []) (c_law_bag : Cal P w K mg base "_law_bag" 1 ["_law_script"] (spBag K) []) {f : Addr} {cdv : Value} {A : Around} {outer : List Env} {s : Shared} {H : Hp} {E : XK} (hr : Room 6 (A.deeper (PyProof.Rows.envOfC "law" (defScope s_law) s.heap.objs.size f cdv))) : QB (cxOf CX0 P w K mg base ["_law_script", "_law_bag_here", "_law_letters_here", "_law_scale", "_law_alphabet", "_law_rows", "_law_row_here", "_law_due", "_law_found", "_law_k", "_law_letter"] "law" (defScope s_law) f cdv A outer s H E).nox [.bor, .sh, .sh, .sh, .sh, .sh, .sh, .sh, .sh, .sh, .sh] [.bor, .sh, .sh, .sh, .sh, .sh, .sh, .sh, .sh, .sh, .sh] [.bor, .sh, .sh, .sh, .sh, .sh, .sh, .sh, .sh, .sh, .sh] (defBody s_law).tail p_law := by
  exact (qb_cons (xs_setG (i := 2) (fun h => ps_set (i := 2) sc_law.nd rfl (by first | exact Or.inl rfl | exact Or.inr rfl) h) (qe_calF c_law_letters dfl_nil (hr.mono (j := 2) (by decide)) (by rfl) (qa_cons (qe_v 1 (pv 1)) (qa_cons qe_int qa_nil))))
  (qb_cons (xs_setG (i := 3) (fun h => ps_set (i := 3) sc_law.nd rfl (by first | exact Or.inl rfl | exact Or.inr rfl) h) (qe_mkIF (c := 0) ci_Scale T.d_Scale_init (hr.mono (j := 6) (by decide)) (by rfl) (qa_cons (qe_v 2 (pv 2)) (qa_cons (qe_calF c_law_worths dfl_nil (hr.mono (j := 3) (by decide)) (by rfl) (qa_cons (qe_v 1 (pv 1)) (qa_cons (qe_cbS len_ok call_lenA T.f_len (by rfl) (by decide +kernel) (qa_cons (qe_v 2 (pv 2)) qa_nil)) qa_nil))) qa_nil))))
  (qb_cons (xs_setG (i := 4) (fun h => ps_set (i := 4) sc_law.nd rfl (by first | exact Or.inl rfl | exact Or.inr rfl) h) qe_str)
  (qb_cons (xs_setG (i := 5) (fun h => ps_set (i := 5) sc_law.nd rfl (by first | exact Or.inl rfl | exact Or.inr rfl) h) (qe_add (yq_lc (xe_lc (own := [("_law_k", 9)]) (fun hi hg ht he => pe_lc (own := [("_law_k", 9)]) (by rfl) sc_law.nd hi (blkOk_by (own := [("_law_k", 9)]) (by kernel_rfl)) hg ht he) (qi_rng (by rfl) T.f_range qe_int) (fun _ _ _ _ _ => (xq_name (i := 9) (pg_name (i := 9) sc_law.nd rfl (by first | exact Or.inl rfl | exact Or.inr rfl)))) (fun _ _ _ _ _ => by exact qts_nil) (fun _ _ _ _ _ => by exact (qe_calF c_law_row dfl_nil (hr.mono (j := 2) (by decide)) (by rfl) (qa_cons (qe_v 1 (pv 1)) (qa_cons (qe_v 2 (pv 2)) qa_nil)))))) (qe_lst (qa_cons qe_str (qa_cons (qe_v 2 (pv 2)) (qa_cons (qe_rev (qe_v 2 (pv 2))) (qa_cons (qe_v 4 (pv 4)) (qa_cons (qe_mul (qe_ix (qe_v 2 (pv 2)) (qe_neg qe_int)) qe_int) qa_nil))))))))
  (qb_cons (yq_for (qs_for (js := [6]) (fun h1 h2 h3 => ps_for PassesOwn.never rfl h1 h2 h3) (qi_lst (qe_add (qe_v 5 (pv 5)) (qe_rev (qe_v 5 (pv 5))))) (xq_name (i := 6) (pg_name (i := 6) sc_law.nd rfl (by first | exact Or.inl rfl | exact Or.inr rfl))) (qb_cons (xs_setG (i := 7) (fun h => ps_set (i := 7) sc_law.nd rfl (by first | exact Or.inl rfl | exact Or.inr rfl) h) (qe_eq (hr.units) (yq_lc (xe_lc (own := [("_law_letter", 10)]) (fun hi hg ht he => pe_lc (own := [("_law_letter", 10)]) (by rfl) sc_law.nd hi (blkOk_by (own := [("_law_letter", 10)]) (by kernel_rfl)) hg ht he) (qi_str (qe_v 6 (pv 6))) (fun _ _ _ _ _ => (xq_name (i := 10) (pg_name (i := 10) sc_law.nd rfl (by first | exact Or.inl rfl | exact Or.inr rfl)))) (fun _ _ _ _ _ => by exact (qts_one (qt_notIn  (qe_v 10 (pv 10)) (qe_v 2 (pv 2))))) (fun _ _ _ _ _ => by exact (qe_v 10 (pv 10))))) (qe_lst qa_nil)))
  (qb_cons (xs_setG (i := 8) (fun h => ps_set (i := 8) sc_law.nd rfl (by first | exact Or.inl rfl | exact Or.inr rfl) h) (qe_mthF (c := 0) m_Scale_knows dfl_nil (hr.mono (j := 3) (by decide)) (qe_v 3 (pv 3)) (qa_cons (qe_v 6 (pv 6)) qa_nil)))
  (qb_one (qs_if (qt_w (qw_or (qt_not (qt_tru (qe_cbS isB_ok call_isB T.f_isinstance (by rfl) (by decide +kernel) (qa_cons (qe_v 8 (pv 8)) (qa_cons (qe_ty .bool T.f_bool (by rfl) (by decide +kernel)) qa_nil))))) (qw_or1 (qt_ne (hr.units) (qe_v 8 (pv 8)) (qe_v 7 (pv 7)))))) (qb_one (qs_ret qe_bl)) qb_nil))))))
  (qb_one (qs_ret qe_bl)))))))
theorem ok_law (hp : p_law lawD (lawG 11)) (T : Tx K mg) (c_law_letters : Cal P w K mg base "_law_letters" 2 ["_law_bag_here", "_law_most"] (spF 2 w_law_letters K) []) (c_law_worths : Cal P w K mg base "_law_worths" 3 ["_law_bag_here", "_law_many"] (spF 2 w_law_worths K) []) (ci_Scale : CalI P w K mg base "Scale" 5 ["self", "letters", "worths", "opening", "each"] (spIF 0 4 w_Scale_init K) [.int 3, .int 1]) (c_law_row : Cal P w K mg base "_law_row" 2 ["_law_bag_here", "_law_letters_here"] (spF 2 w_law_row K) []) (m_Scale_knows : CalM P w K mg base "Scale" "knows" 3 ["self", "row"] (spF 2 w_Scale_knows K) []) (c_law_bag : Cal P w K mg base "_law_bag" 1 ["_law_script"] (spBag K) []) {f : Addr} {fd : FuncData} (F : FunD K "law" "law" (defArgs s_law) (defBody s_law) (defScope s_law) [] [] f fd) : FnOk P w K mg base CX0 7 f fd ["_law_script"] (spLaw K) := by
  refine F.ok sc_law (fun vs H Q E h => by obtain ⟨_, _, rfl, _⟩ := h; rfl) (fun cdv A outer s H vs Q E hr h => ?_)
  have hq := q_law (P := P) (w := w) (base := base) (E := E) (H := H) (outer := outer) T c_law_letters c_law_worths ci_Scale c_law_row m_Scale_knows c_law_bag hr
  obtain ⟨t, h1, h2⟩ := body_law (N := ["_law_script", "_law_bag_here", "_law_letters_here", "_law_scale", "_law_alphabet", "_law_rows", "_law_row_here", "_law_due", "_law_found", "_law_k", "_law_letter"]) (ps_set (i := 1) sc_law.nd rfl (by first | exact Or.inl rfl | exact Or.inr rfl) (pe_cal c_law_bag (hr.mono (j := 1) (by decide)) (by rfl) (pa_cons (pv 0) pa_nil))) hq rfl (by decide) hp h
  exact ⟨t, PSs.nox h1, h2⟩
end
def dd_law_take : He.DefD := ⟨("_law_take", none), "_law_take", "_law_take", defArgs s_law_take, defBody s_law_take, defScope s_law_take, [], []⟩
def dd_law_letters : He.DefD := ⟨("_law_letters", none), "_law_letters", "_law_letters", defArgs s_law_letters, defBody s_law_letters, defScope s_law_letters, [], []⟩
def dd_law_worth : He.DefD := ⟨("_law_worth", none), "_law_worth", "_law_worth", defArgs s_law_worth, defBody s_law_worth, defScope s_law_worth, [], []⟩
def dd_law_worths : He.DefD := ⟨("_law_worths", none), "_law_worths", "_law_worths", defArgs s_law_worths, defBody s_law_worths, defScope s_law_worths, [], []⟩
def dd_is_text_of : He.DefD := ⟨("is_text_of", none), "is_text_of", "is_text_of", defArgs s_is_text_of, defBody s_is_text_of, defScope s_is_text_of, [], []⟩
def dd_are_letters : He.DefD := ⟨("are_letters", none), "are_letters", "are_letters", defArgs s_are_letters, defBody s_are_letters, defScope s_are_letters, [], []⟩
def dd_is_whole : He.DefD := ⟨("is_whole", none), "is_whole", "is_whole", defArgs s_is_whole, defBody s_is_whole, defScope s_is_whole, [], []⟩
def dd_is_between : He.DefD := ⟨("is_between", none), "is_between", "is_between", defArgs s_is_between, defBody s_is_between, defScope s_is_between, [], []⟩
def dd_is_worth : He.DefD := ⟨("is_worth", none), "is_worth", "is_worth", defArgs s_is_worth, defBody s_is_worth, defScope s_is_worth, [], []⟩
def dd_are_worths : He.DefD := ⟨("are_worths", none), "are_worths", "are_worths", defArgs s_are_worths, defBody s_are_worths, defScope s_are_worths, [], []⟩
def dd_is_price : He.DefD := ⟨("is_price", none), "is_price", "is_price", defArgs s_is_price, defBody s_is_price, defScope s_is_price, [], []⟩
def dd_Scale_init : He.DefD := ⟨("Scale", some "__init__"), "__init__", "Scale.__init__", defArgs s_Scale_init, defBody s_Scale_init, defScope s_Scale_init, [], [("opening", .int 3), ("each", .int 1)]⟩
def dd_law_row : He.DefD := ⟨("_law_row", none), "_law_row", "_law_row", defArgs s_law_row, defBody s_law_row, defScope s_law_row, [], []⟩
def dd_is_row : He.DefD := ⟨("is_row", none), "is_row", "is_row", defArgs s_is_row, defBody s_is_row, defScope s_is_row, [], []⟩
def dd_Scale_knows : He.DefD := ⟨("Scale", some "knows"), "knows", "Scale.knows", defArgs s_Scale_knows, defBody s_Scale_knows, defScope s_Scale_knows, [], []⟩
def dd_law_bag : He.DefD := ⟨("_law_bag", none), "_law_bag", "_law_bag", defArgs s_law_bag, defBody s_law_bag, defScope s_law_bag, [], []⟩
def dd_law : He.DefD := ⟨("law", none), "law", "law", defArgs s_law, defBody s_law, defScope s_law, [], []⟩
def fn : List He.DefD := [dd_law_take, dd_law_letters, dd_law_worth, dd_law_worths, dd_is_text_of, dd_are_letters, dd_is_whole, dd_is_between, dd_is_worth, dd_are_worths, dd_is_price, dd_Scale_init, dd_law_row, dd_is_row, dd_Scale_knows, dd_law_bag, dd_law]
def fa : List He.Fa := [.noat "Scale" "by_two", .noat "Scale" "kept_each", .noat "Scale" "kept_letters", .noat "Scale" "kept_opening", .cls "Scale", .free "abs", .free "all", .free "bool", .free "enumerate", .free "int", .free "isinstance", .free "len", .free "list", .free "range", .free "str", .glo "_law_take", .glo "_law_letters", .glo "_law_worth", .glo "_law_worths", .glo "is_text_of", .glo "are_letters", .glo "is_whole", .glo "is_between", .glo "is_worth", .glo "are_worths", .glo "is_price", .glo "Scale", .mkr "Scale", .glo "_law_row", .glo "is_row", .meth "Scale" "knows", .glo "_law_bag", .glo "law"]
def exl : List (Vl.Fg → Bool) := [fun K => gvB K "LETTERS" (.str "abcdefghijklmnopqrstuvwxyz"), fun K => gvB K "LONGEST_ROW" (.int 40), fun K => gvB K "MOST_LETTERS" (.int 8), fun K => gvB K "MOST_WORTH" (.int 1000000)]
abbrev R : PySem.W.OpenRow := PySem.W.OpenLaw.row PySem.Challenge.rw_laybeside_k15_knows
abbrev hk : PySem.W.Hook := He.hookX 6 fa fn [] [] (fun K => exl.all fun f => f K)
def ob (s : PySem.W.SharedT) : He.AlX := He.obsX 6 fa fn [] [] (fun K => exl.all fun f => f K) (HandSHeadRun.getT s)
theorem ob_eq (s : PySem.W.SharedT) : ob s = hk.obs s.abs := He.obsX_eq (HandSHeadRun.getT_eq s)
def nm0 : List PySem.Str := ["_wall", "LayError", "Wrong", "MOST_WORTH", "LONGEST_ROW", "LETTERS", "is_whole", "is_between", "is_text_of", "is_worth", "is_price", "is_row", "OPENING", "EACH", "MOST_LETTERS", "are_letters", "are_worths", "Scale", "_law_bag", "_law_take", "_law_letters", "_law_worth", "_law_price", "_law_worths", "_law_row"]
abbrev loose : List PySem.Str := nm0
theorem run (w : World) : HandSHeadRun.RunEq R (PySem.W.view R.prog [29]) hk ob 200000 loose w := by
  intro os
  kernel_rfl
section
variable {P : Program} {w : World} {K : Vl.Fg} {h : Heap} {mg : Str → Option Value}
theorem tx (X : K.In h) (G : h.Ns mainGlobals mg) (c : He.SaysX fa fn [] [] (fun K => exl.all fun f => f K) w h K) : Tx K mg :=
  ⟨He.noat_ok (c.t.d.fact 0 rfl),
   He.noat_ok (c.t.d.fact 1 rfl),
   He.noat_ok (c.t.d.fact 2 rfl),
   He.noat_ok (c.t.d.fact 3 rfl),
   He.cls_ok (c.t.d.fact 4 rfl),
   (dfl_app (dfl_int _) (dfl_int _)),
   He.free_ok X G (c.t.d.fact 5 rfl),
   He.free_ok X G (c.t.d.fact 6 rfl),
   He.free_ok X G (c.t.d.fact 7 rfl),
   He.free_ok X G (c.t.d.fact 8 rfl),
   He.free_ok X G (c.t.d.fact 9 rfl),
   He.free_ok X G (c.t.d.fact 10 rfl),
   He.free_ok X G (c.t.d.fact 11 rfl),
   He.free_ok X G (c.t.d.fact 12 rfl),
   He.free_ok X G (c.t.d.fact 13 rfl),
   He.free_ok X G (c.t.d.fact 14 rfl),
   gvB_ok X G (all_at 0 c.more rfl),
   gvB_ok X G (all_at 1 c.more rfl),
   gvB_ok X G (all_at 2 c.more rfl),
   gvB_ok X G (all_at 3 c.more rfl)⟩
theorem facts {f : Addr} (X : K.In h) (G : h.Ns mainGlobals mg) (hp : p_law lawD (lawG 11)) (hfa : mg ("law" : Str) = some (.ref f)) (c : He.SaysX fa fn [] [] (fun K => exl.all fun f => f K) w h K) :
    ∃ fd : FuncData, (∀ (s : Shared) (v : Value), BindsTo s fd ⟨[v], []⟩ [("_law_script", v)]) ∧ ∀ base : Heap, K.In base → base.Ns mainGlobals mg → FnOk P w K mg base CX0 7 f fd ["_law_script"] (spLaw K) := by
  have T := tx X G c
  obtain ⟨fd_law, F_law⟩ := c.t.d.def_ 16 (d := dd_law) rfl
  have e := hfa.symm.trans (He.glo_ok X G (c.t.d.fact 32 rfl))
  cases e
  have b := FunD.bindsA (ps := ["_law_script"]) F_law fun _ _ _ _ _ _ us hl => match us, hl with | [_], _ => rfl
  refine ⟨fd_law, fun s v => b s [v] rfl, fun base _ _ => ?_⟩
  obtain ⟨fd_law_take, F_law_take⟩ := c.t.d.def_ 0 (d := dd_law_take) rfl
  have o_law_take := ok_law_take (P := P) (w := w) (base := base) T  F_law_take
  have c_law_take : Cal P w K mg base "_law_take" 1 ["_law_bag_here", "_law_many"] (spF 2 w_law_take K) [] := ⟨fd_law_take, [], o_law_take, (F_law_take.bindsN fun _ _ _ _ _ _ us hl => match us, hl with | [_, _], _ => rfl), .nil, He.glo_ok X G (c.t.d.fact 15 rfl), F_law_take.kp⟩
  obtain ⟨fd_law_letters, F_law_letters⟩ := c.t.d.def_ 1 (d := dd_law_letters) rfl
  have o_law_letters := ok_law_letters (P := P) (w := w) (base := base) T c_law_take F_law_letters
  have c_law_letters : Cal P w K mg base "_law_letters" 2 ["_law_bag_here", "_law_most"] (spF 2 w_law_letters K) [] := ⟨fd_law_letters, [], o_law_letters, (F_law_letters.bindsN fun _ _ _ _ _ _ us hl => match us, hl with | [_, _], _ => rfl), .nil, He.glo_ok X G (c.t.d.fact 16 rfl), F_law_letters.kp⟩
  obtain ⟨fd_law_worth, F_law_worth⟩ := c.t.d.def_ 2 (d := dd_law_worth) rfl
  have o_law_worth := ok_law_worth (P := P) (w := w) (base := base) T c_law_take F_law_worth
  have c_law_worth : Cal P w K mg base "_law_worth" 2 ["_law_bag_here"] (spF 1 w_law_worth K) [] := ⟨fd_law_worth, [], o_law_worth, (F_law_worth.bindsN fun _ _ _ _ _ _ us hl => match us, hl with | [_], _ => rfl), .nil, He.glo_ok X G (c.t.d.fact 17 rfl), F_law_worth.kp⟩
  obtain ⟨fd_law_worths, F_law_worths⟩ := c.t.d.def_ 3 (d := dd_law_worths) rfl
  have o_law_worths := ok_law_worths (P := P) (w := w) (base := base) T c_law_worth F_law_worths
  have c_law_worths : Cal P w K mg base "_law_worths" 3 ["_law_bag_here", "_law_many"] (spF 2 w_law_worths K) [] := ⟨fd_law_worths, [], o_law_worths, (F_law_worths.bindsN fun _ _ _ _ _ _ us hl => match us, hl with | [_, _], _ => rfl), .nil, He.glo_ok X G (c.t.d.fact 18 rfl), F_law_worths.kp⟩
  obtain ⟨fd_is_text_of, F_is_text_of⟩ := c.t.d.def_ 4 (d := dd_is_text_of) rfl
  have o_is_text_of := ok_is_text_of (P := P) (w := w) (base := base) T  F_is_text_of
  have c_is_text_of : Cal P w K mg base "is_text_of" 1 ["thing", "signs", "least", "most"] (spF 4 w_is_text_of K) [] := ⟨fd_is_text_of, [], o_is_text_of, (F_is_text_of.bindsN fun _ _ _ _ _ _ us hl => match us, hl with | [_, _, _, _], _ => rfl), .nil, He.glo_ok X G (c.t.d.fact 19 rfl), F_is_text_of.kp⟩
  obtain ⟨fd_are_letters, F_are_letters⟩ := c.t.d.def_ 5 (d := dd_are_letters) rfl
  have o_are_letters := ok_are_letters (P := P) (w := w) (base := base) T c_is_text_of F_are_letters
  have c_are_letters : Cal P w K mg base "are_letters" 2 ["thing"] (spF 1 w_are_letters K) [] := ⟨fd_are_letters, [], o_are_letters, (F_are_letters.bindsN fun _ _ _ _ _ _ us hl => match us, hl with | [_], _ => rfl), .nil, He.glo_ok X G (c.t.d.fact 20 rfl), F_are_letters.kp⟩
  obtain ⟨fd_is_whole, F_is_whole⟩ := c.t.d.def_ 6 (d := dd_is_whole) rfl
  have o_is_whole := ok_is_whole (P := P) (w := w) (base := base) T  F_is_whole
  have c_is_whole : Cal P w K mg base "is_whole" 1 ["thing"] (spF 1 w_is_whole K) [] := ⟨fd_is_whole, [], o_is_whole, (F_is_whole.bindsN fun _ _ _ _ _ _ us hl => match us, hl with | [_], _ => rfl), .nil, He.glo_ok X G (c.t.d.fact 21 rfl), F_is_whole.kp⟩
  obtain ⟨fd_is_between, F_is_between⟩ := c.t.d.def_ 7 (d := dd_is_between) rfl
  have o_is_between := ok_is_between (P := P) (w := w) (base := base) T c_is_whole F_is_between
  have c_is_between : Cal P w K mg base "is_between" 2 ["thing", "low", "high"] (spF 3 w_is_between K) [] := ⟨fd_is_between, [], o_is_between, (F_is_between.bindsN fun _ _ _ _ _ _ us hl => match us, hl with | [_, _, _], _ => rfl), .nil, He.glo_ok X G (c.t.d.fact 22 rfl), F_is_between.kp⟩
  obtain ⟨fd_is_worth, F_is_worth⟩ := c.t.d.def_ 8 (d := dd_is_worth) rfl
  have o_is_worth := ok_is_worth (P := P) (w := w) (base := base) T c_is_between F_is_worth
  have c_is_worth : Cal P w K mg base "is_worth" 3 ["thing"] (spF 1 w_is_worth K) [] := ⟨fd_is_worth, [], o_is_worth, (F_is_worth.bindsN fun _ _ _ _ _ _ us hl => match us, hl with | [_], _ => rfl), .nil, He.glo_ok X G (c.t.d.fact 23 rfl), F_is_worth.kp⟩
  obtain ⟨fd_are_worths, F_are_worths⟩ := c.t.d.def_ 9 (d := dd_are_worths) rfl
  have o_are_worths := ok_are_worths (P := P) (w := w) (base := base) T c_is_worth F_are_worths
  have c_are_worths : Cal P w K mg base "are_worths" 4 ["thing", "many"] (spF 2 w_are_worths K) [] := ⟨fd_are_worths, [], o_are_worths, (F_are_worths.bindsN fun _ _ _ _ _ _ us hl => match us, hl with | [_, _], _ => rfl), .nil, He.glo_ok X G (c.t.d.fact 24 rfl), F_are_worths.kp⟩
  obtain ⟨fd_is_price, F_is_price⟩ := c.t.d.def_ 10 (d := dd_is_price) rfl
  have o_is_price := ok_is_price (P := P) (w := w) (base := base) T c_is_between F_is_price
  have c_is_price : Cal P w K mg base "is_price" 3 ["thing"] (spF 1 w_is_price K) [] := ⟨fd_is_price, [], o_is_price, (F_is_price.bindsN fun _ _ _ _ _ _ us hl => match us, hl with | [_], _ => rfl), .nil, He.glo_ok X G (c.t.d.fact 25 rfl), F_is_price.kp⟩
  obtain ⟨fd_Scale_init, F_Scale_init⟩ := c.t.d.def_ 11 (d := dd_Scale_init) rfl
  have o_Scale_init := ok_Scale_init (P := P) (w := w) (base := base) T c_are_letters c_are_worths c_is_price F_Scale_init
  obtain ⟨ds_Scale_init, v_Scale_init, b_Scale_init⟩ := F_Scale_init.binds0 (ps := ["self", "letters", "worths", "opening", "each"]) 3 (by simp [dd_Scale_init, He.DefD.kws]) rfl fun D doc pm an cdv ct us ks h1 h2 => match us, ks, h1, h2 with | [_, _, _], [_, _], _, _ => ⟨_, _, _, _, _, _, rfl, rfl, ⟨_, _, _, _, _, _, rfl, rfl, rfl⟩⟩
  have ci_Scale : CalI P w K mg base "Scale" 5 ["self", "letters", "worths", "opening", "each"] (spIF 0 4 w_Scale_init K) [.int 3, .int 1] := ⟨fd_Scale_init, ds_Scale_init, _, o_Scale_init, b_Scale_init, v_Scale_init, He.mkr_ok (c.t.d.fact 27 rfl), He.glo_ok X G (c.t.d.fact 26 rfl)⟩
  obtain ⟨fd_law_row, F_law_row⟩ := c.t.d.def_ 12 (d := dd_law_row) rfl
  have o_law_row := ok_law_row (P := P) (w := w) (base := base) T c_law_take F_law_row
  have c_law_row : Cal P w K mg base "_law_row" 2 ["_law_bag_here", "_law_letters_here"] (spF 2 w_law_row K) [] := ⟨fd_law_row, [], o_law_row, (F_law_row.bindsN fun _ _ _ _ _ _ us hl => match us, hl with | [_, _], _ => rfl), .nil, He.glo_ok X G (c.t.d.fact 28 rfl), F_law_row.kp⟩
  obtain ⟨fd_is_row, F_is_row⟩ := c.t.d.def_ 13 (d := dd_is_row) rfl
  have o_is_row := ok_is_row (P := P) (w := w) (base := base) T c_is_text_of F_is_row
  have c_is_row : Cal P w K mg base "is_row" 2 ["thing"] (spF 1 w_is_row K) [] := ⟨fd_is_row, [], o_is_row, (F_is_row.bindsN fun _ _ _ _ _ _ us hl => match us, hl with | [_], _ => rfl), .nil, He.glo_ok X G (c.t.d.fact 29 rfl), F_is_row.kp⟩
  obtain ⟨fd_Scale_knows, F_Scale_knows⟩ := c.t.d.def_ 14 (d := dd_Scale_knows) rfl
  have o_Scale_knows := ok_Scale_knows (P := P) (w := w) (base := base) T c_is_row F_Scale_knows
  have m_Scale_knows : CalM P w K mg base "Scale" "knows" 3 ["self", "row"] (spF 2 w_Scale_knows K) [] := ⟨fd_Scale_knows, [], _, o_Scale_knows, (F_Scale_knows.bindsN fun _ _ _ _ _ _ us hl => match us, hl with | [_, _], _ => rfl), .nil, He.meth_ok (c.t.d.fact 30 rfl), He.cls_ok (c.t.d.fact 4 rfl)⟩
  obtain ⟨fd_law_bag, F_law_bag⟩ := c.t.d.def_ 15 (d := dd_law_bag) rfl
  have o_law_bag := ok_law_bag (P := P) (w := w) (base := base) T  F_law_bag
  have c_law_bag : Cal P w K mg base "_law_bag" 1 ["_law_script"] (spBag K) [] := ⟨fd_law_bag, [], o_law_bag, (F_law_bag.bindsN fun _ _ _ _ _ _ us hl => match us, hl with | [_], _ => rfl), .nil, He.glo_ok X G (c.t.d.fact 31 rfl), F_law_bag.kp⟩
  exact ok_law hp T c_law_letters c_law_worths ci_Scale c_law_row m_Scale_knows c_law_bag F_law
end
end Lw
namespace Lw
open PySem PySem.Spec L2 Lb Vl
local macro_rules | `(tactic| walk_at "sd") => `(tactic| first | with_reducible rfl | assumption | omega | (simp only [List.length_map, List.length_range, List.length_append, List.length_cons, List.length_nil]; omega) | rfl | (constructor <;> omega) | (simp only [List.length_map, List.length_range]; constructor <;> omega) | (refine few ?_; simp; done) | (refine few ?_; simp; omega) | (refine few ?_; omega) | (refine few1 ?_; simp; done) | (refine few1 ?_; simp; omega) | walk_at "sdx" | (simp; done) | (simp; omega))
local macro_rules | `(tactic| walk_at "sdx") => `(tactic| fail)
local macro_rules | `(tactic| walk_at "call") => `(tactic| fail)
local macro_rules | `(tactic| walk_at "go1") => `(tactic| first | walk_at "call" | refine And.intro (by walk_at "sd") ?_ | refine bift (by walk_at "sd") ?_ | refine biff (by walk_at "sd") ?_ | refine nbift (by walk_at "sd") ?_ | refine nbiff (by walk_at "sd") ?_ | with_reducible refine yfor_cons ?_ | with_reducible refine yfor_nil ?_ | with_reducible refine ylc_cons ?_ | with_reducible refine ylc_nil ?_ | rw [peq_int])
local macro_rules | `(tactic| walk_at "go") => `(tactic| ((repeat ((conv => whnf); walk_at "go1")); try (conv => whnf)))
theorem if2 {c : Prop} [Decidable c] {A B : Prop} (h1 : c → A) (h2 : ¬ c → B) : bfi (decide c) A B := by
  by_cases h : c
  · rw [decide_eq_true h]; exact h1 h
  · rw [decide_eq_false h]; exact h2 h
theorem ifc {c : Prop} [Decidable c] {A B : Prop} (h : c) (k : A) : bfi (decide c) A B := by rw [decide_eq_true h]; exact k
theorem ifn {c : Prop} [Decidable c] {A B : Prop} (h : ¬ c) (k : B) : bfi (decide c) A B := by rw [decide_eq_false h]; exact k
theorem L_is_whole {i : Int} {Q : PV → Prop} (k : Q (.bl true)) : w_is_whole [.int i] Q := by rw [e_is_whole]; exact k
theorem L_is_between {i lo hi : Int} {Q : PV → Prop} (k : Q (.bl (decide (lo ≤ i ∧ i ≤ hi)))) : w_is_between [.int i, .int lo, .int hi] Q := by
  rw [e_is_between]
  conv => whnf
  refine L_is_whole ?_
  conv => whnf
  refine if2 (fun h => ?_) fun h => ?_
  · have : decide (lo ≤ i ∧ i ≤ hi) = decide (i ≤ hi) := by simp [h]
    rw [this] at k; exact k
  · have : decide (lo ≤ i ∧ i ≤ hi) = false := by simp [h]
    rw [this] at k; exact k
/-- a comprehension whose element is told for each item -/
theorem lcM {α : Type} {g : GG} {e : GE} {γ : G} {h f : α → PV} : ∀ {l : List α} {Q : List PV → Prop}, (∀ a ∈ l, ∀ Q, Q (f a) → g (h a) γ fun γ2 => e γ2 Q) → Q (l.map f) → lcP g pYes e γ (l.map h) Q
  | [], _, _, k => k
  | a :: l, Q, hf, k => by
    show g (h a) γ fun γ2 => pYes γ2 fun b => bfi b (e γ2 fun y => lcP g pYes e γ (l.map h) fun ys => Q (y :: ys)) (lcP g pYes e γ (l.map h) Q)
    exact hf a (by simp) _ (lcM (fun b m => hf b (by simp [m])) k)
/-- .. is any value with a property -/
theorem lcD {α : Type} {g : GG} {e : GE} {γ : G} {h : α → PV} {P : PV → Prop} : ∀ {l : List α} {Q : List PV → Prop}, (∀ a ∈ l, ∀ Q : PV → Prop, (∀ y, P y → Q y) → g (h a) γ fun γ2 => e γ2 Q) → (∀ ys, ys.length = l.length → (∀ y ∈ ys, P y) → Q ys) → lcP g pYes e γ (l.map h) Q
  | [], _, _, k => k [] rfl (by simp)
  | a :: l, Q, hf, k => by
    show g (h a) γ fun γ2 => pYes γ2 fun b => bfi b (e γ2 fun y => lcP g pYes e γ (l.map h) fun ys => Q (y :: ys)) (lcP g pYes e γ (l.map h) Q)
    exact hf a (by simp) _ fun y hy => lcD (fun b m => hf b (by simp [m])) fun ys hl hp => k (y :: ys) (by simp [hl]) fun z m => (List.mem_cons.mp m).elim (fun e => e ▸ hy) (hp z)
theorem forI {α : Type} {g : GG} {b : GS} {D : GD} {h : α → PV} (I : List α → G → Prop) : ∀ {l : List α} {γ : G}, I l γ → (∀ a l γ, I (a :: l) γ → ∀ K : G → Prop, (∀ γ', I l γ' → K γ') → g (h a) γ fun γ1 => b { D with nx := K, ct := K, bk := D.nx } γ1) → (∀ γ, I [] γ → D.nx γ) → forP g b D (l.map h) γ
  | [], _, i, _, k => k _ i
  | a :: l, γ, i, hs, k => hs a l γ i _ fun γ' i' => forI I i' hs k
theorem len_pv {α : Type} {f : α → PV} {l : List α} (h : l.length ≤ 1000) : (l.map f).length ≤ sizeLine := by rw [List.length_map]; exact few h
abbrev pvI (l : List Int) : PV := .lst (l.map PV.int)
abbrev pvR (l : List (List Int)) : PV := .lst (l.map pvI)
theorem bools_true {α : Type} : ∀ l : List α, pBools (l.map fun _ => PV.bl true) = some (l.map fun _ => true)
  | [] => rfl
  | a :: l => by simp [pBools, bools_true l]
theorem all_true {α : Type} (l : List α) : allB (l.map fun _ => true) = true := by simp [allB]
theorem bBs_true {α : Type} {l : List α} {f : List Bool → Bool} {Q : PV → Prop} (k : Q (.bl (f (l.map fun _ => true)))) : bBs f [.lst (l.map fun _ => PV.bl true)] Q := by
  show match pBools (l.map fun _ => PV.bl true) with | some bs => Q (.bl (f bs)) | none => False
  rw [bools_true]; exact k
abbrev okW (i : Int) : Prop := -1000000000000 ≤ i ∧ i ≤ 1000000000000
abbrev okP (i : Int) : Prop := 0 ≤ i ∧ i ≤ 1000000000000
theorem peq_int (i j : Int) : peq (.int i) (.int j) = decide (i = j) := by
  simp only [peq, toD, PyData.eqv]
  by_cases h : i = j
  · simp [h]
  · simp [h]
theorem atI_at {α β : Type} {f : α → β} {l : List α} {n : Nat} {a : α} (h : l[n]? = some a) : atI (l.map f) (n : Int) = some (f a) := by
  have hn : n < l.length := (List.getElem?_eq_some_iff.mp h).1
  unfold atI ixN
  rw [List.length_map, if_pos (by omega), if_pos (by omega)]
  simp [h]
theorem atI_0 {α β : Type} {f : α → β} {a : α} {l : List α} : atI ((a :: l).map f) (0 : Int) = some (f a) := atI_at (n := 0) rfl
theorem immI : ∀ l : List Int, immL (l.map PV.int) = true
  | [] => rfl
  | i :: l => by simp [immL, imm, immI l]
theorem datI (n : Nat) : ∀ l : List Int, dats n (l.map PV.int) = true
  | [] => by simp [dats]
  | i :: l => by cases n <;> simp [dats, dat, datI _ l]
theorem datR : ∀ l : List (List Int), dats 7 (l.map pvI) = true
  | [] => by simp [dats]
  | i :: l => by simp [dats, dat, datI _ i, datR l]
theorem peq_nil {α : Type} {f : α → PV} : ∀ l : List α, peq (.lst (l.map f)) (.lst []) = l.isEmpty
  | [] => rfl
  | a :: l => rfl
/-- a field -/
structure Fd where
  pairs : List (List Int)
  over : List Int
  under : List Int
  op : Int
def pvF (F : Fd) : PV := .ins 1 [pvR F.pairs, pvI F.over, pvI F.under, .int F.op]
structure Fd.Ok (F : Fd) : Prop where
  h : F.over.length ≤ 60
  w : F.under.length ≤ 60
  ph : F.pairs.length = F.over.length
  pw : ∀ r ∈ F.pairs, r.length = F.under.length ∧ ∀ i ∈ r, okW i
  po : ∀ i ∈ F.over, okP i
  pu : ∀ i ∈ F.under, okP i
  pp : okP F.op
def Fd.pr (F : Fd) (i j : Nat) : Int := (F.pairs.getD i []).getD j 0
def Fd.ov (F : Fd) (i : Nat) : Int := F.over.getD i 0
def Fd.un (F : Fd) (j : Nat) : Int := F.under.getD j 0
theorem getD_at {α : Type} {l : List α} {n : Nat} {d : α} (h : n < l.length) : l[n]? = some (l.getD n d) := by simp [List.getD, h]
local macro_rules | `(tactic| walk_at "call") => `(tactic| refine L_is_whole ?_)
end Lw
namespace Lw
open PySem PySem.Spec L2 Lb Vl
local macro_rules | `(tactic| walk_at "sd") => `(tactic| first | with_reducible rfl | assumption | omega | (simp only [List.length_map, List.length_range, List.length_append, List.length_cons, List.length_nil]; omega) | rfl | (constructor <;> omega) | (simp only [List.length_map, List.length_range]; constructor <;> omega) | (refine few ?_; simp; done) | (refine few ?_; simp; omega) | (refine few ?_; omega) | (refine few1 ?_; simp; done) | (refine few1 ?_; simp; omega) | walk_at "sdx" | (simp; done) | (simp; omega))
local macro_rules | `(tactic| walk_at "sdx") => `(tactic| fail)
local macro_rules | `(tactic| walk_at "call") => `(tactic| fail)
local macro_rules | `(tactic| walk_at "go1") => `(tactic| first | walk_at "call" | refine And.intro (by walk_at "sd") ?_ | refine bift (by walk_at "sd") ?_ | refine biff (by walk_at "sd") ?_ | refine nbift (by walk_at "sd") ?_ | refine nbiff (by walk_at "sd") ?_ | with_reducible refine yfor_cons ?_ | with_reducible refine yfor_nil ?_ | with_reducible refine ylc_cons ?_ | with_reducible refine ylc_nil ?_ | rw [peq_int])
local macro_rules | `(tactic| walk_at "go") => `(tactic| ((repeat ((conv => whnf); walk_at "go1")); try (conv => whnf)))
local macro_rules | `(tactic| walk_at "call") => `(tactic| refine L_is_whole ?_)
inductive Stp where
  | b | o | u
  deriving DecidableEq
def Stp.s : Stp → Str
  | .b => "b"
  | .o => "o"
  | .u => "u"
structure Ens where
  oh : Bool
  ot : Bool
  uh : Bool
  ut : Bool
def pvE (e : Ens) : PV := .tup [.bl e.oh, .bl e.ot, .bl e.uh, .bl e.ut]
theorem bools_f {α : Type} {f : α → Bool} (l : List α) : pBools (l.map fun x => PV.bl (f x)) = some (l.map f) := bools_map l
theorem allB_f {α : Type} {f : α → Bool} (l : List α) : allB (l.map f) = l.all f := by simp [allB]
theorem L_is_text_of {z sg : Str} {lo hi : Int} {Q : PV → Prop} (hz : z.length ≤ 1000) (k : Q (.bl (decide (lo ≤ (z.length : Int) ∧ (z.length : Int) ≤ hi) && z.cps.toList.all fun c => decide (c ∈ sg.cps.toList)))) : w_is_text_of [.str z, .str sg, .int lo, .int hi] Q := by
  rw [e_is_text_of]
  (conv => whnf)
  refine ⟨few hz, ?_⟩
  (conv => whnf)
  by_cases h : lo ≤ (z.length : Int)
  · rw [decide_eq_true h]
    (conv => whnf)
    by_cases h' : (z.length : Int) ≤ hi
    · rw [decide_eq_true h']
      (conv => whnf)
      refine ⟨len_pv (by simpa [Str.length] using hz), lcM (f := fun c => .bl (decide (c ∈ sg.cps.toList))) (fun c m Q k => ⟨rfl, k⟩) ?_⟩
      (conv => whnf)
      rw [bools_f]
      show Q (.bl (allB _))
      rw [allB_f]
      have : decide (lo ≤ (z.length : Int) ∧ (z.length : Int) ≤ hi) = true := decide_eq_true ⟨h, h'⟩
      rw [this, Bool.true_and] at k; exact k
    · rw [decide_eq_false h']
      (conv => whnf)
      have : decide (lo ≤ (z.length : Int) ∧ (z.length : Int) ≤ hi) = false := decide_eq_false (fun z => h' z.2)
      rw [this, Bool.false_and] at k; exact k
  · rw [decide_eq_false h]
    (conv => whnf)
    have : decide (lo ≤ (z.length : Int) ∧ (z.length : Int) ≤ hi) = false := decide_eq_false (fun z => h z.1)
    rw [this, Bool.false_and] at k; exact k
def sw (F : Fd) (e : Ens) (i j : Nat) (s a : Stp) : Int := match s with
  | .b => F.pr i j
  | .o => if (j = 0 ∧ e.oh = true) ∨ (j = F.under.length ∧ e.ot = true) then 0 else -(F.ov i + if a = .o then 0 else F.op)
  | .u => if (i = 0 ∧ e.uh = true) ∨ (i = F.over.length ∧ e.ut = true) then 0 else -(F.un j + if a = .u then 0 else F.op)
/-- a step leads on -/
def lead (F : Fd) (i j : Nat) : Stp → Prop
  | .b => i < F.over.length ∧ j < F.under.length
  | .o => i < F.over.length ∧ j ≤ F.under.length
  | .u => i ≤ F.over.length ∧ j < F.under.length
theorem dat_stp (s : Stp) : dat 8 (.str s.s) = true := by cases s <;> decide +kernel
theorem peq_stp (s t : Stp) : peq (.str s.s) (.str t.s) = decide (s = t) := by cases s <;> cases t <;> decide +kernel
theorem peq_b (s : Stp) : peq (.str s.s) (.str (Str.ofString "b")) = decide (s = .b) := peq_stp s .b
theorem peq_o (s : Stp) : peq (.str s.s) (.str (Str.ofString "o")) = decide (s = .o) := peq_stp s .o
theorem peq_u (s : Stp) : peq (.str s.s) (.str (Str.ofString "u")) = decide (s = .u) := peq_stp s .u
theorem dat_b : dat 8 (.str (Str.ofString "b")) = true := dat_stp .b
theorem dat_o : dat 8 (.str (Str.ofString "o")) = true := dat_stp .o
theorem dat_u : dat 8 (.str (Str.ofString "u")) = true := dat_stp .u
theorem cut_ {K G : Prop} (f : K → G) (k : K) : G := f k
theorem cutI {c K G : Prop} (f : (¬ c → K) → G) (k : ¬ c → K) : G := f k
end Lw
namespace Lw
open PySem PySem.Spec L2 Lb Vl
local macro_rules | `(tactic| walk_at "sd") => `(tactic| first | with_reducible rfl | assumption | omega | (simp only [List.length_map, List.length_range, List.length_append, List.length_cons, List.length_nil]; omega) | rfl | (constructor <;> omega) | (simp only [List.length_map, List.length_range]; constructor <;> omega) | (refine few ?_; simp; done) | (refine few ?_; simp; omega) | (refine few ?_; omega) | (refine few1 ?_; simp; done) | (refine few1 ?_; simp; omega) | walk_at "sdx" | (simp; done) | (simp; omega))
local macro_rules | `(tactic| walk_at "sdx") => `(tactic| fail)
local macro_rules | `(tactic| walk_at "call") => `(tactic| fail)
local macro_rules | `(tactic| walk_at "go1") => `(tactic| first | walk_at "call" | refine And.intro (by walk_at "sd") ?_ | refine bift (by walk_at "sd") ?_ | refine biff (by walk_at "sd") ?_ | refine nbift (by walk_at "sd") ?_ | refine nbiff (by walk_at "sd") ?_ | with_reducible refine yfor_cons ?_ | with_reducible refine yfor_nil ?_ | with_reducible refine ylc_cons ?_ | with_reducible refine ylc_nil ?_ | rw [peq_int])
local macro_rules | `(tactic| walk_at "go") => `(tactic| ((repeat ((conv => whnf); walk_at "go1")); try (conv => whnf)))
local macro_rules | `(tactic| walk_at "call") => `(tactic| refine L_is_whole ?_)
/-! scales: letters -/
def abA : List Nat := (Str.ofString "abcdefghijklmnopqrstuvwxyz").cps.toList
def txA (l : List Nat) : Str := ⟨l.toArray⟩
def chA (c : Nat) : PV := .str ⟨#[c]⟩
theorem few1 {n : Nat} (h : n + 1 ≤ 1000) : n < sizeLine := few h
theorem toN {n : Int} (h : 0 ≤ n) : ∃ k : Nat, n = k := Int.eq_ofNat_of_zero_le h
theorem tx_len (l : List Nat) : (txA l).length = l.length := by show (List.toArray _).size = _; simp
theorem ab_tx : (Str.ofString "abcdefghijklmnopqrstuvwxyz") = txA abA := by unfold txA abA; simp
theorem nil_tx : Str.ofString "" = txA [] := by decide +kernel
theorem ab_len : abA.length = 26 := by decide +kernel
theorem ab_nd : abA.Nodup := by decide +kernel
theorem chars_tx (l : List Nat) : chars (txA l) = l.map chA := by unfold chars txA; simp; intro a _; rfl
theorem tx_snoc (l : List Nat) (c : Nat) : txA l ++ (⟨#[c]⟩ : Str) = txA (l ++ [c]) := by
  show (⟨l.toArray ++ #[c]⟩ : Str) = txA (l ++ [c])
  unfold txA; simp
theorem tx_app (l m : List Nat) : txA l ++ txA m = txA (l ++ m) := by
  show (⟨l.toArray ++ m.toArray⟩ : Str) = txA (l ++ m)
  unfold txA; simp
theorem tx_cut (l : List Nat) (i j : Option Int) : cutS (txA l) i j = txA ((l.drop (HT.sIx l.length 0 i)).take (HT.sIx l.length l.length j - HT.sIx l.length 0 i)) := by
  unfold cutS
  rw [tx_len]
  unfold txA
  simp
theorem L_letters {Q : PV → Prop} (k : ∀ l : List Nat, l.Nodup → 1 ≤ l.length → l.length ≤ 8 → (∀ c ∈ l, c ∈ abA) → Q (.str (txA l))) : w_law_letters [.bag, .int 8] Q := by
  rw [e_law_letters]
  (conv => whnf)
  rw [ab_tx, nil_tx]
  refine ⟨by rw [tx_len, ab_len]; exact few (by decide), ?_⟩
  rw [chars_tx]
  (conv => whnf)
  refine ⟨⟨by omega, by omega⟩, ?_⟩
  intro n n1 n2
  obtain ⟨n, rfl⟩ := toN n1
  (conv => whnf)
  refine ⟨⟨by omega, by omega⟩, ?_⟩
  rw [show ((1 : Int) + n).toNat = n + 1 by omega]
  refine yforR (fun m γ => ∃ (fd pl : List Nat) (b4 : Option PV), (fd ++ pl).Perm abA ∧ fd.length = m ∧ γ = [some .bag, some (.int 8), some (.lst (pl.map chA)), some (.str (txA fd)), b4]) ⟨[], abA, _, .refl _, rfl, rfl⟩ ?_ ?_
  · rintro m γ hm ⟨fd, pl, b4, hp, hl, rfl⟩ K hK
    have h26 : fd.length + pl.length = 26 := by rw [← List.length_append, hp.length_eq, ab_len]
    (conv => whnf)
    rw [List.length_map]
    refine ⟨⟨by omega, by omega⟩, ?_⟩
    intro v v1 v2
    obtain ⟨j, rfl⟩ := toN v1
    have hj : j < pl.length := by omega
    have e0 : pl = pl.take j ++ pl[j] :: pl.drop (j + 1) := by rw [← List.drop_eq_getElem_cons hj, List.take_append_drop]
    generalize pl[j] = x at e0
    have ht : (pl.take j).length = j := by rw [List.length_take]; omega
    have hpl : pl.length ≤ 26 := by omega
    generalize pl.take j = t at e0 ht
    generalize pl.drop (j + 1) = d at e0
    subst e0
    refine ⟨t.map chA, chA x, d.map chA, by rw [List.map_append]; rfl, ⟨by rw [List.length_map, ht], few (by omega)⟩, ?_⟩
    (conv => whnf)
    refine ⟨few (by rw [tx_len]; show _ + 1 ≤ 1000; omega), hK _ ⟨fd ++ [x], t ++ d, some (.int m), ?_, by simp; omega, by rw [List.map_append, tx_snoc]⟩⟩
    refine List.Perm.trans ?_ hp
    rw [List.append_assoc]
    show (fd ++ (x :: (t ++ d))).Perm (fd ++ (t ++ x :: d))
    exact List.Perm.append_left fd List.perm_middle.symm
  · rintro γ ⟨fd, pl, b4, hp, hl, rfl⟩
    (conv => whnf)
    have nd : (fd ++ pl).Nodup := hp.nodup_iff.mpr ab_nd
    exact k fd (List.nodup_append.mp nd).1 (by omega) (by omega) fun c hc => hp.subset (List.mem_append_left _ hc)
abbrev okS (i : Int) : Prop := -1000000 ≤ i ∧ i ≤ 1000000
theorem pow6 : (10 : Int) ^ Int.toNat 6 = 1000000 := by decide
theorem cpow6 : CPow 10 6 := by unfold CPow; decide
theorem L15_worth {Q : PV → Prop} (k : ∀ i : Int, okS i → Q (.int i)) : w_law_worth [.bag] Q := by
  rw [e_law_worth]
  walk_at "go"
  intro w w1 w2
  walk_at "go"
  by_cases h1 : w < 2
  · rw [decide_eq_true h1]
    walk_at "go"
    intro v v1 v2
    walk_at "go"
    exact k _ ⟨by omega, by omega⟩
  · rw [decide_eq_false h1]
    walk_at "go"
    by_cases h2 : w = 2
    · rw [decide_eq_true h2]
      (conv => whnf)
      refine ⟨cpow6, ?_⟩
      rw [pow6]
      (conv => whnf)
      refine ⟨.inl ⟨by omega, by omega⟩, ?_⟩
      (conv => whnf)
      refine ⟨⟨by omega, by omega⟩, ?_⟩
      intro v v1 v2
      (conv => whnf)
      refine ⟨cpow6, ?_⟩
      rw [pow6]
      (conv => whnf)
      exact k _ ⟨by omega, by omega⟩
    · rw [decide_eq_false h2]
      (conv => whnf)
      refine ⟨cpow6, ?_⟩
      rw [pow6]
      (conv => whnf)
      refine ⟨cpow6, ?_⟩
      rw [pow6]
      (conv => whnf)
      refine ⟨⟨by omega, by omega⟩, ?_⟩
      intro v v1 v2
      have : v = 0 ∨ v = 1 ∨ v = 2 ∨ v = 3 := by omega
      rcases this with rfl | rfl | rfl | rfl
      · exact k 1000000 ⟨by omega, by omega⟩
      · exact k (-1000000) ⟨by omega, by omega⟩
      · exact k 0 ⟨by omega, by omega⟩
      · exact k 0 ⟨by omega, by omega⟩
theorem listOf {α β : Type} {f : α → β} {p : α → Prop} : ∀ {ys : List β}, (∀ y ∈ ys, ∃ a, y = f a ∧ p a) → ∃ l : List α, ys = l.map f ∧ ∀ a ∈ l, p a
  | [], _ => ⟨[], rfl, by simp⟩
  | y :: ys, h => by
    obtain ⟨a, e, pa⟩ := h y (by simp)
    obtain ⟨l, e2, pl⟩ := listOf (ys := ys) fun z m => h z (by simp [m])
    exact ⟨a :: l, by simp [e, e2], fun z m => (List.mem_cons.mp m).elim (fun q => q ▸ pa) (pl z)⟩
def okR (n : Nat) (R : List (List Int)) : Prop := R.length = n ∧ ∀ r ∈ R, r.length = n ∧ ∀ i ∈ r, okS i
theorem L_worths {n : Nat} (hn : n ≤ 8) {Q : PV → Prop} (k : ∀ R, okR n R → Q (pvR R)) : w_law_worths [.bag, .int n] Q := by
  rw [e_law_worths]
  (conv => whnf)
  refine ⟨⟨by omega, by omega⟩, ?_⟩
  rw [show ((n : Int)).toNat = n by omega]
  unfold Vl.upTo
  refine ⟨by rw [List.length_map, List.length_range, sizeLine_eq]; omega, ?_⟩
  (conv => whnf)
  refine ylcD (P := fun y => ∃ r : List Int, y = pvI r ∧ (r.length = n ∧ ∀ i ∈ r, okS i)) (fun a ma Q k => ?_) fun ys hl hp => ?_
  · (conv => whnf)
    refine ⟨⟨by omega, by omega⟩, ?_⟩
    rw [show ((n : Int)).toNat = n by omega]
    unfold Vl.upTo
    refine ⟨by rw [List.length_map, List.length_range, sizeLine_eq]; omega, ?_⟩
    (conv => whnf)
    refine ylcD (P := fun y => ∃ i : Int, y = .int i ∧ okS i) (fun a ma Q k => ?_) fun ys hl hp => ?_
    · (conv => whnf)
      exact L15_worth fun i hi => k _ ⟨i, rfl, hi⟩
    · obtain ⟨r, rfl, hr⟩ := listOf hp
      (conv => whnf)
      exact k _ ⟨r, rfl, by simpa using hl, hr⟩
  · obtain ⟨R, rfl, hR⟩ := listOf hp
    (conv => whnf)
    exact k _ ⟨by simpa using hl, hR⟩
theorem tx_cps (l : List Nat) : (txA l).cps.toList = l := by simp [txA]
theorem tx_sz (l : List Nat) : (txA l).cps.size = l.length := by simp [txA]
theorem dst_nd {l : List Nat} (nd : l.Nodup) : ∀ j, j ≤ l.length → dst l j = j
  | 0, _ => rfl
  | j + 1, h => by
    have ih := dst_nd nd j (by omega)
    have hj : j < l.length := h
    have e : l[j]? = some l[j] := List.getElem?_eq_getElem hj
    have no : ¬ sjS l j (.inr ⟨#[l[j]]⟩) = true := by
      unfold sjS
      intro z
      obtain ⟨c, mc, ec⟩ := List.any_eq_true.mp z
      have ec := of_decide_eq_true ec
      have e2 : l[j] = c := by
        have := Sum.inr.inj ec
        have := congrArg (fun s : Str => s.cps.toList) this
        simpa using this
      obtain ⟨i, hi, ei⟩ := List.getElem_of_mem mc
      rw [List.length_take] at hi
      rw [List.getElem_take] at ei
      exact List.pairwise_iff_getElem.mp nd i j (by omega) hj (by omega) (ei.trans e2.symm)
    show (match l[j]? with | some c => if sjS l j (.inr ⟨#[c]⟩) = true then dst l j else dst l j + 1 | none => dst l j) = j + 1
    rw [e]
    show (if sjS l j (.inr ⟨#[l[j]]⟩) = true then dst l j else dst l j + 1) = j + 1
    rw [if_neg no, ih]
theorem all_ab {l : List Nat} (h : ∀ c ∈ l, c ∈ abA) : ((txA l).cps.toList.all fun c => decide (c ∈ (Str.ofString "abcdefghijklmnopqrstuvwxyz").cps.toList)) = true := by
  rw [List.all_eq_true]
  intro c hc
  exact decide_eq_true (h c (by simpa [txA] using hc))
theorem L_are_letters {l : List Nat} (nd : l.Nodup) (h1 : 1 ≤ l.length) (h2 : l.length ≤ 8) (ha : ∀ c ∈ l, c ∈ abA) {Q : PV → Prop} (k : Q (.bl true)) : w_are_letters [.str (txA l)] Q := by
  rw [e_are_letters]
  (conv => whnf)
  refine L_is_text_of (by rw [tx_len]; omega) ?_
  rw [all_ab ha, tx_len, decide_eq_true (by omega), Bool.and_self]
  (conv => whnf)
  refine ⟨Nat.lt_succ_self 1, by rw [tx_len]; omega, ?_⟩
  rw [tx_sz, tx_cps, dst_nd nd _ (Nat.le_refl _)]
  (conv => whnf)
  refine ⟨by rw [tx_len]; exact few (by omega), ?_⟩
  rw [tx_len]
  (conv => whnf)
  refine ⟨rfl, rfl, ?_⟩
  rw [peq_int, decide_eq_true rfl]
  exact k
theorem L_is_row {l : List Nat} (h2 : l.length ≤ 40) (ha : ∀ c ∈ l, c ∈ abA) {Q : PV → Prop} (k : Q (.bl true)) : w_is_row [.str (txA l)] Q := by
  rw [e_is_row]
  (conv => whnf)
  refine L_is_text_of (by rw [tx_len]; omega) ?_
  rw [all_ab ha, tx_len, decide_eq_true (by omega), Bool.and_self]
  exact k
theorem L_is_worth {i : Int} (h : okS i) {Q : PV → Prop} (k : Q (.bl true)) : w_is_worth [.int i] Q := by
  rw [e_is_worth]
  (conv => whnf)
  refine L_is_between ?_
  rw [decide_eq_true h]
  exact k
theorem L_is_price {i : Int} (h : 0 ≤ i ∧ i ≤ 1000000) {Q : PV → Prop} (k : Q (.bl true)) : w_is_price [.int i] Q := by
  rw [e_is_price]
  (conv => whnf)
  refine L_is_between ?_
  rw [decide_eq_true h]
  exact k
theorem L_are_worths {n : Nat} (hn : n ≤ 8) {R : List (List Int)} (hR : okR n R) {Q : PV → Prop} (k : Q (.bl true)) : w_are_worths [pvR R, .int n] Q := by
  rw [e_are_worths]
  (conv => whnf)
  rw [List.length_map, hR.1]
  refine ⟨rfl, rfl, ?_⟩
  rw [peq_int, decide_eq_true rfl]
  (conv => whnf)
  refine yforI (h := pvI) (fun l γ => (∀ r ∈ l, r.length = n ∧ ∀ i ∈ r, okS i) ∧ ∃ b2 b3, γ = [some (pvR R), some (.int n), b2, b3]) ⟨hR.2, _, _, rfl⟩ ?_ ?_
  · rintro r l γ ⟨h, b2, b3, rfl⟩ K hK
    obtain ⟨r1, r2⟩ := h r (by simp)
    (conv => whnf)
    rw [List.length_map, r1]
    refine ⟨rfl, rfl, ?_⟩
    rw [peq_int, decide_eq_true rfl]
    (conv => whnf)
    refine ⟨len_pv (by omega), ?_⟩
    (conv => whnf)
    refine ylcM (f := fun _ => .bl true) (fun i mi Q k => ?_) ?_
    · (conv => whnf)
      exact L_is_worth (r2 i mi) k
    (conv => whnf)
    rw [bools_true]
    (conv => whnf)
    rw [all_true]
    (conv => whnf)
    exact hK _ ⟨fun x hx => h x (by simp [hx]), _, _, rfl⟩
  · rintro γ ⟨-, b2, b3, rfl⟩
    (conv => whnf)
    exact k
theorem bdAt {n : Nat} {R : List (List Int)} (hR : okR n R) {a b : Nat} (ha : a < n) (hb : b < n) : ∃ (r : List Int) (v : Int), atI (R.map pvI) (a : Int) = some (pvI r) ∧ atI (r.map PV.int) (b : Int) = some (.int v) := by
  have h1 : a < R.length := by rw [hR.1]; exact ha
  have h2 := (hR.2 R[a] (List.getElem_mem h1)).1
  exact ⟨R[a], (R[a])[b], atI_at (List.getElem?_eq_getElem h1), atI_at (List.getElem?_eq_getElem (by omega))⟩
theorem en_map : ∀ (l : List Nat) (s : Nat), enumL s (l.map chA) = (l.zipIdx s).map fun p => .tup [.int (p.2 : Nat), chA p.1]
  | [], _ => rfl
  | c :: l, s => by simp only [List.map_cons, enumL, List.zipIdx_cons, en_map l (s + 1)]
theorem ck_by {g : GG} {t : GT} {b : GB} {γ : G} {α : Type} {h : α → PV} {Q : KVs → Prop} (I : List α → KVs → Prop) : ∀ {l : List α} {d : KVs}, I l d → (∀ a l d, I (a :: l) d → ∀ K : KVs → Prop, (∀ d', I l d' → K d') → g (h a) γ fun γ2 => t γ2 fun c => bfi c (b γ2 d K) (K d)) → (∀ d, I [] d → Q d) → ckP g t b γ (l.map h) d Q
  | [], d, i, _, k => ck_nil (k d i)
  | a :: l, d, i, hs, k => ck_cons (hs a l d i _ fun d' i' => ck_by I i' hs k)
theorem zix_lt (l : List Nat) : ∀ p ∈ l.zipIdx, p.2 < l.length := fun p m => by
  have := List.snd_lt_of_mem_zipIdx m
  omega
def pvS (l : List Nat) (d : KVs) : PV := .ins 0 [.str (txA l), .dT d, .int 3, .int 1]
theorem L_Scale {l : List Nat} (nd : l.Nodup) (h1 : 1 ≤ l.length) (h2 : l.length ≤ 8) (ha : ∀ c ∈ l, c ∈ abA) {R : List (List Int)} (hR : okR l.length R) {Q : PV → Prop} (k : ∀ d, Q (pvS l d)) : w_Scale_init [.str (txA l), pvR R, .int 3, .int 1] Q := by
  rw [e_Scale_init]
  (conv => whnf)
  refine L_are_letters nd h1 h2 ha ?_
  (conv => whnf)
  refine ⟨by rw [tx_len]; exact few (by omega), ?_⟩
  rw [tx_len]
  (conv => whnf)
  refine L_are_worths h2 hR ?_
  (conv => whnf)
  refine ⟨rfl, ?_⟩
  (conv => whnf)
  refine ⟨rfl, ?_⟩
  (conv => whnf)
  refine yfor_cons ?_
  (conv => whnf)
  refine L_is_price ⟨by omega, by omega⟩ ?_
  (conv => whnf)
  refine yfor_cons ?_
  (conv => whnf)
  refine L_is_price ⟨by omega, by omega⟩ ?_
  (conv => whnf)
  refine yfor_nil ?_
  (conv => whnf)
  refine ⟨rfl, ?_⟩
  (conv => whnf)
  refine ⟨rfl, ?_⟩
  (conv => whnf)
  rw [chars_tx, en_map]
  refine ck_by (fun (es : List (Nat × Nat)) d => (∀ p ∈ es, p.2 < l.length) ∧ d.length + es.length * l.length ≤ 64) ⟨zix_lt l, ?_⟩ ?_ ?_
  · rw [List.length_zipIdx, List.length_nil, Nat.zero_add]
    exact Nat.mul_le_mul h2 h2
  · rintro p es d ⟨g1, g2⟩ K hK
    have gp := g1 p (by simp)
    (conv => whnf)
    rw [chars_tx, en_map]
    refine ck_by (fun (fs : List (Nat × Nat)) d => (∀ p ∈ fs, p.2 < l.length) ∧ d.length + fs.length + es.length * l.length ≤ 64) ⟨zix_lt l, ?_⟩ ?_ ?_
    · rw [List.length_zipIdx]
      simp only [List.length_cons, Nat.add_mul, Nat.one_mul] at g2
      omega
    · rintro q fs d ⟨f1, f2⟩ K hK
      obtain ⟨r, v, e1, e2⟩ := bdAt hR gp (f1 q (by simp))
      simp only [List.length_cons] at f2
      (conv => whnf)
      rw [e1]
      (conv => whnf)
      rw [e2]
      (conv => whnf)
      refine ⟨rfl, few1 (by omega), hK _ ⟨fun z m => f1 z (by simp [m]), ?_⟩⟩
      refine Nat.le_trans (Nat.add_le_add_right (Nat.add_le_add_right (len_putP _ _ _) _) _) (by omega)
    · rintro d ⟨_, f2⟩
      exact hK _ ⟨fun z m => g1 z (by simp [m]), by simpa using f2⟩
  · rintro d ⟨_, g2⟩
    (conv => whnf)
    refine ⟨rfl, ?_⟩
    (conv => whnf)
    refine ⟨rfl, ?_⟩
    (conv => whnf)
    refine ⟨rfl, ?_⟩
    (conv => whnf)
    refine ⟨rfl, Nat.le_refl 2, ?_⟩
    (conv => whnf)
    refine ⟨rfl, Nat.le_refl 3, ?_⟩
    (conv => whnf)
    exact k d
end Lw
namespace Lw
open PySem PySem.Spec L2 Lb Vl
local macro_rules | `(tactic| walk_at "sd") => `(tactic| first | with_reducible rfl | assumption | omega | (simp only [List.length_map, List.length_range, List.length_append, List.length_cons, List.length_nil]; omega) | rfl | (constructor <;> omega) | (simp only [List.length_map, List.length_range]; constructor <;> omega) | (refine few ?_; simp; done) | (refine few ?_; simp; omega) | (refine few ?_; omega) | (refine few1 ?_; simp; done) | (refine few1 ?_; simp; omega) | walk_at "sdx" | (simp; done) | (simp; omega))
local macro_rules | `(tactic| walk_at "sdx") => `(tactic| fail)
local macro_rules | `(tactic| walk_at "call") => `(tactic| fail)
local macro_rules | `(tactic| walk_at "go1") => `(tactic| first | walk_at "call" | refine And.intro (by walk_at "sd") ?_ | refine bift (by walk_at "sd") ?_ | refine biff (by walk_at "sd") ?_ | refine nbift (by walk_at "sd") ?_ | refine nbiff (by walk_at "sd") ?_ | with_reducible refine yfor_cons ?_ | with_reducible refine yfor_nil ?_ | with_reducible refine ylc_cons ?_ | with_reducible refine ylc_nil ?_ | rw [peq_int])
local macro_rules | `(tactic| walk_at "go") => `(tactic| ((repeat ((conv => whnf); walk_at "go1")); try (conv => whnf)))
local macro_rules | `(tactic| walk_at "call") => `(tactic| refine L_is_whole ?_)
/-! scales: rows, knows -/
theorem joinA_nil : ∀ ys : List (List Nat), TL.joinL [] ys = ys.flatten
  | [] => rfl
  | [p] => by simp [TL.joinL]
  | p :: q :: r => by
    have := joinA_nil (q :: r)
    simp only [TL.joinL, this, List.nil_append, List.flatten_cons]
def sgn (c : Nat) : Str := ⟨#[c]⟩
theorem flatA (l : List Nat) : (l.map fun c => [c]).flatten = l := by
  induction l with
  | nil => rfl
  | cons s t ih => simp only [List.map_cons, List.flatten_cons, ih]; rfl
theorem join_a (l : List Nat) : Txt.join (Str.ofString "") (l.map sgn) = txA l := by
  have h : l.map sgn = (l.map fun c => [c]).map SX.S := by rw [List.map_map]; rfl
  have e : (Str.ofString "") = SX.S [] := by decide +kernel
  rw [h, e, SX.join_S, joinA_nil, flatA]; rfl
theorem strs_a (l : List Nat) : pStrs (l.map chA) = some (l.map sgn) := by
  induction l with
  | nil => rfl
  | cons s t ih => simp only [List.map_cons, chA, pStrs]; rw [show pStrs (t.map chA) = _ from ih]; rfl
theorem lens_a (l : List Nat) : ((l.map sgn).map (·.length)).sum = l.length := by
  induction l with
  | nil => rfl
  | cons s t ih => simp only [List.map_cons, List.sum_cons, List.length_cons, ih]; show 1 + _ = _; omega
theorem atI_nat {α : Type} {l : List α} {n : Nat} (h : n < l.length) : atI l (n : Int) = some l[n] := by
  have := atI_at (f := fun x : α => x) (List.getElem?_eq_getElem h)
  rw [List.map_id'] at this
  exact this
theorem tx_sub (l : List Nat) (i j : Option Int) : ∃ m, cutS (txA l) i j = txA m ∧ m.length ≤ l.length ∧ ∀ c ∈ m, c ∈ l := by
  refine ⟨_, tx_cut l i j, ?_, fun c hc => List.mem_of_mem_drop (List.mem_of_mem_take hc)⟩
  rw [List.length_take, List.length_drop]
  omega
theorem tx_top (l : List Nat) : cutS (txA l) none (some ((40 : Nat) : Int)) = txA (l.take 40) := by
  rw [tx_cut, HT.sIx_none, HT.sIx_nat, List.drop_zero, Nat.sub_zero]
  congr 1
  rw [List.take_eq_take_iff]
  omega
theorem L_row {l : List Nat} (h1 : 1 ≤ l.length) (h2 : l.length ≤ 8) (ha : ∀ c ∈ l, c ∈ abA) {Q : PV → Prop} (k : ∀ r : List Nat, r.length ≤ 40 → (∀ c ∈ r, c ∈ abA) → Q (.str (txA r))) : w_law_row [.bag, .str (txA l)] Q := by
  obtain ⟨c0, t0, rfl⟩ : ∃ c t, l = c :: t := by
    cases l with
    | nil => simp at h1
    | cons c t => exact ⟨c, t, rfl⟩
  rw [e_law_row]
  (conv => whnf)
  rw [ab_tx]
  refine ⟨⟨by omega, by omega⟩, ?_⟩
  intro v v1 v2
  (conv => whnf)
  refine ⟨⟨by omega, by omega⟩, ?_⟩
  intro w w1 w2
  obtain ⟨n, hn, he⟩ : ∃ n : Nat, n ≤ 40 ∧ atI [PV.int 0, PV.int 1, PV.int 2, PV.int 8, PV.int 39, PV.int 40, PV.int 40, PV.int v] w = some (.int n) := by
    obtain ⟨v, rfl⟩ := toN v1
    have : w = 0 ∨ w = 1 ∨ w = 2 ∨ w = 3 ∨ w = 4 ∨ w = 5 ∨ w = 6 ∨ w = 7 := by omega
    rcases this with rfl | rfl | rfl | rfl | rfl | rfl | rfl | rfl
    · exact ⟨0, by omega, rfl⟩
    · exact ⟨1, by omega, rfl⟩
    · exact ⟨2, by omega, rfl⟩
    · exact ⟨8, by omega, rfl⟩
    · exact ⟨39, by omega, rfl⟩
    · exact ⟨40, by omega, rfl⟩
    · exact ⟨40, by omega, rfl⟩
    · exact ⟨v, by omega, rfl⟩
  (conv => whnf)
  rw [he]
  (conv => whnf)
  refine ⟨rfl, ?_⟩
  (conv => whnf)
  refine ⟨rfl, ?_⟩
  (conv => whnf)
  refine ⟨rfl, ?_⟩
  (conv => whnf)
  refine ⟨by rw [tx_len]; exact few (by omega), ?_⟩
  rw [tx_cps, show atI (c0 :: t0) (0 : Int) = some c0 from atI_nat (n := 0) (by simp)]
  (conv => whnf)
  refine ⟨rfl, ?_⟩
  (conv => whnf)
  refine ⟨⟨by omega, by omega⟩, ?_⟩
  intro u u1 u2
  obtain ⟨P, hP1, hP2, hP3, hPe⟩ : ∃ P : List Nat, 1 ≤ P.length ∧ P.length ≤ 26 ∧ (∀ c ∈ P, c ∈ abA) ∧ atI [PV.str (txA (c0 :: t0)), PV.str (txA (c0 :: t0)), PV.str (txA (c0 :: t0)), PV.str (txA abA), PV.str ⟨#[c0]⟩] u = some (.str (txA P)) := by
    have : u = 0 ∨ u = 1 ∨ u = 2 ∨ u = 3 ∨ u = 4 := by omega
    rcases this with rfl | rfl | rfl | rfl | rfl
    · exact ⟨_, h1, by omega, ha, rfl⟩
    · exact ⟨_, h1, by omega, ha, rfl⟩
    · exact ⟨_, h1, by omega, ha, rfl⟩
    · exact ⟨abA, by rw [ab_len]; omega, by rw [ab_len]; omega, fun _ h => h, rfl⟩
    · exact ⟨[c0], by simp, by simp, fun c h => by rw [List.mem_singleton.mp h]; exact ha c0 (by simp), rfl⟩
  (conv => whnf)
  rw [hPe]
  (conv => whnf)
  refine ⟨⟨by omega, by omega⟩, ?_⟩
  rw [show ((n : Int)).toNat = n by omega]
  unfold Vl.upTo
  refine ⟨by rw [List.length_map, List.length_range, sizeLine_eq]; omega, ?_⟩
  (conv => whnf)
  refine ylcD (P := fun y => ∃ c : Nat, y = chA c ∧ c ∈ abA) (fun a ma Q k => ?_) fun ys hl hp => ?_
  · (conv => whnf)
    refine ⟨by rw [tx_len]; exact few (by omega), ?_⟩
    rw [tx_len]
    (conv => whnf)
    refine ⟨⟨by omega, by omega⟩, ?_⟩
    intro x x1 x2
    obtain ⟨x, rfl⟩ := toN x1
    have hx : x < P.length := by omega
    (conv => whnf)
    refine ⟨by rw [tx_len]; exact few (by omega), ?_⟩
    rw [tx_cps, atI_nat hx]
    (conv => whnf)
    exact k _ ⟨_, rfl, hP3 _ (List.getElem_mem hx)⟩
  obtain ⟨cs, rfl, hcs⟩ := listOf hp
  have hcl : cs.length ≤ 40 := by
    rw [List.length_map, List.length_range] at hl
    omega
  (conv => whnf)
  rw [strs_a]
  (conv => whnf)
  refine ⟨by rw [lens_a, show (Str.ofString "").length = 0 by decide +kernel, List.length_map, Nat.mul_zero]; omega, ?_⟩
  rw [join_a]
  (conv => whnf)
  refine ⟨⟨by omega, by omega⟩, ?_⟩
  intro y y1 y2
  obtain ⟨y, rfl⟩ := toN y1
  (conv => whnf)
  refine ⟨⟨by omega, by omega⟩, ?_⟩
  refine yforR (fun m γ => ∃ (r : List Nat) (b6 b7 : Option PV), r.length ≤ 40 ∧ (∀ c ∈ r, c ∈ abA) ∧ γ = [some .bag, some (.str (txA (c0 :: t0))), some (.str (txA abA)), some (.int n), some (.str (txA P)), some (.str (txA r)), b6, b7]) ⟨cs, _, _, hcl, hcs, rfl⟩ ?_ ?_
  · rintro m γ hm ⟨r, b6, b7, r1, r2, rfl⟩ K hK
    (conv => whnf)
    refine ⟨by rw [tx_len]; exact few (by omega), ?_⟩
    rw [tx_len]
    (conv => whnf)
    refine ⟨⟨by omega, by omega⟩, ?_⟩
    intro a a1 a2
    (conv => whnf)
    refine ⟨by rw [tx_len]; exact few (by omega), ?_⟩
    obtain ⟨s1, e1, s2, s3⟩ := tx_sub r none (some a)
    rw [e1]
    (conv => whnf)
    refine ⟨⟨by omega, by omega⟩, ?_⟩
    intro b b1 b2
    obtain ⟨b, rfl⟩ := toN b1
    have hb : b < abA.length := by rw [ab_len]; omega
    (conv => whnf)
    refine ⟨by rw [tx_len, ab_len]; exact few (by omega), ?_⟩
    rw [tx_cps, atI_nat hb]
    (conv => whnf)
    refine ⟨few (by rw [tx_len]; show _ + 1 ≤ 1000; omega), ?_⟩
    rw [tx_snoc]
    (conv => whnf)
    refine ⟨by rw [tx_len]; exact few (by omega), ?_⟩
    obtain ⟨s4, e4, s5, s6⟩ := tx_sub r (some a) none
    rw [e4]
    (conv => whnf)
    refine ⟨few (by rw [tx_len, tx_len]; simp; omega), ?_⟩
    rw [tx_app]
    (conv => whnf)
    refine ⟨few (by rw [tx_len]; simp; omega), ?_⟩
    rw [show (40 : Int) = ((40 : Nat) : Int) from rfl, tx_top]
    refine hK _ ⟨_, some (.int m), some (.int a), ?_, ?_, rfl⟩
    · rw [List.length_take]; omega
    · intro c hc
      have hc := List.mem_of_mem_take hc
      rcases List.mem_append.mp hc with hc | hc
      · rcases List.mem_append.mp hc with hc | hc
        · exact r2 c (s3 c hc)
        · rw [List.mem_singleton.mp hc]; exact List.getElem_mem hb
      · exact r2 c (s6 c hc)
  · rintro γ ⟨r, b6, b7, r1, r2, rfl⟩
    (conv => whnf)
    exact k r r1 r2
theorem L_knows {l r : List Nat} {d : KVs} (h2 : r.length ≤ 40) (ha : ∀ c ∈ r, c ∈ abA) {Q : PV → Prop} (k : Q (.bl (r.all fun c => decide (c ∈ l)))) : w_Scale_knows [pvS l d, .str (txA r)] Q := by
  rw [e_Scale_knows]
  (conv => whnf)
  refine L_is_row h2 ha ?_
  (conv => whnf)
  rw [chars_tx]
  refine ⟨by rw [List.length_map]; exact few (by omega), ?_⟩
  (conv => whnf)
  refine ylcM (f := fun c => .bl (decide (c ∈ l))) (fun c mc Q k => ?_) ?_
  · (conv => whnf)
    refine ⟨rfl, ?_⟩
    (conv => whnf)
    rw [tx_cps]
    exact ⟨rfl, k⟩
  (conv => whnf)
  rw [bools_f (f := fun c => decide (c ∈ l))]
  (conv => whnf)
  rw [allB_f]
  exact k
end Lw
namespace Lw
open PySem PySem.Spec L2 Lb Vl
local macro_rules | `(tactic| walk_at "sd") => `(tactic| first | with_reducible rfl | assumption | omega | (simp only [List.length_map, List.length_range, List.length_append, List.length_cons, List.length_nil]; omega) | rfl | (constructor <;> omega) | (simp only [List.length_map, List.length_range]; constructor <;> omega) | (refine few ?_; simp; done) | (refine few ?_; simp; omega) | (refine few ?_; omega) | (refine few1 ?_; simp; done) | (refine few1 ?_; simp; omega) | walk_at "sdx" | (simp; done) | (simp; omega))
local macro_rules | `(tactic| walk_at "sdx") => `(tactic| fail)
local macro_rules | `(tactic| walk_at "call") => `(tactic| fail)
local macro_rules | `(tactic| walk_at "go1") => `(tactic| first | walk_at "call" | refine And.intro (by walk_at "sd") ?_ | refine bift (by walk_at "sd") ?_ | refine biff (by walk_at "sd") ?_ | refine nbift (by walk_at "sd") ?_ | refine nbiff (by walk_at "sd") ?_ | with_reducible refine yfor_cons ?_ | with_reducible refine yfor_nil ?_ | with_reducible refine ylc_cons ?_ | with_reducible refine ylc_nil ?_ | rw [peq_int])
local macro_rules | `(tactic| walk_at "go") => `(tactic| ((repeat ((conv => whnf); walk_at "go1")); try (conv => whnf)))
local macro_rules | `(tactic| walk_at "call") => `(tactic| refine L_is_whole ?_)
/-! law k15 -/
theorem atI_end {α : Type} {l : List α} (h : l ≠ []) : atI l (-1) = some (l.getLast h) := by
  have hl : 0 < l.length := List.length_pos_iff.mpr h
  unfold L2.atI ixN
  rw [if_neg (by omega), if_pos (by omega)]
  have h2 : (-1 + (l.length : Int)).toNat = l.length - 1 := by omega
  have h3 : l.length - 1 < l.length := by omega
  simp [h2, List.getLast_eq_getElem, List.getElem?_eq_getElem h3]
theorem mul_ok40 (c : Nat) : MulOk (⟨#[c]⟩ : Str) 40 := ⟨by decide, fun _ _ => by show ¬ ((1 : Int) > (2 ^ 63 - 1) / 40); decide, fun _ _ => by show Builtin.Str.tooLong (1 * 40) = false; decide⟩
theorem mul_40 (c : Nat) : Txt.mul (⟨#[c]⟩ : Str) 40 = txA (List.replicate 40 c) := by
  have key : ∀ (n : Nat) (acc : Array Nat), (List.replicate n #[c]).foldl (· ++ ·) acc = acc ++ (List.replicate n c).toArray := by
    intro n
    induction n with
    | zero => intro acc; simp
    | succ n ih => intro acc; rw [List.replicate_succ, List.foldl_cons, ih, List.replicate_succ]; apply Array.ext'; simp
  unfold Txt.mul
  rw [if_neg (by decide), if_neg (by show ¬ ((40 : Int) == 1 || (1 : Nat) == 0) = true; decide)]
  show (⟨(List.replicate 40 #[c]).foldl (· ++ ·) #[]⟩ : Str) = _
  rw [key]
  unfold txA
  simp
theorem ab_small : ∀ c ∈ abA, c < 0x110000 := by decide +kernel
theorem dat_ch {c : Nat} (h : c ∈ abA) : dat 8 (chA c) = true := by
  have := ab_small c h
  show (#[c] : Array Nat).all (· < 0x110000) = true
  simp only [List.all_toArray, List.all_cons, List.all_nil, Bool.and_true]
  exact decide_eq_true this
theorem dat_chs : ∀ l : List Nat, (∀ c ∈ l, c ∈ abA) → dats 7 (l.map chA) = true
  | [], _ => rfl
  | c :: l, h => by
    have h1 := dat_ch (h c (by simp))
    unfold chA at h1
    simp only [dat] at h1
    simp only [List.map_cons, chA, dats, dat, h1, Bool.true_and]
    exact dat_chs l fun x m => h x (by simp [m])
theorem dat_chL (l : List Nat) (h : ∀ c ∈ l, c ∈ abA) : dat 8 (.lst (l.map chA)) = true := by simp only [dat]; exact dat_chs l h
theorem dues (l r : List Nat) : (r.filter fun c => decide (¬ c ∈ l)).isEmpty = r.all fun c => decide (c ∈ l) := by
  induction r with
  | nil => rfl
  | cons c t ih =>
    by_cases hc : c ∈ l
    · rw [List.filter_cons_of_neg (by simp [hc]), ih, List.all_cons, decide_eq_true hc, Bool.true_and]
    · rw [List.filter_cons_of_pos (by simp [hc]), List.all_cons, decide_eq_false hc]; rfl
theorem peq_bl (a : Bool) : peq (.bl a) (.bl a) = true := peq_refl (by cases a <;> rfl)
def okRow (r : List Nat) : Prop := r.length ≤ 40 ∧ ∀ c ∈ r, c ∈ abA
theorem rev_tx (l : List Nat) : revS (txA l) = txA l.reverse := by
  unfold revS
  rw [tx_cps]; rfl
theorem law_plain : p_law lawD (lawG 11) := by
  (conv => whnf)
  refine L_letters fun l nd h1 h2 ha => ?_
  (conv => whnf)
  refine ⟨by rw [tx_len]; exact few (by omega), ?_⟩
  rw [tx_len]
  (conv => whnf)
  refine L_worths h2 fun R hR => ?_
  (conv => whnf)
  refine L_Scale nd h1 h2 ha hR fun d => ?_
  (conv => whnf)
  rw [ab_tx]
  refine ⟨⟨by omega, by omega⟩, ?_⟩
  rw [show Int.toNat 8 = 8 from rfl]
  unfold Vl.upTo
  refine ⟨by rw [List.length_map, List.length_range, sizeLine_eq]; omega, ?_⟩
  (conv => whnf)
  refine ylcD (P := fun y => ∃ r : List Nat, y = .str (txA r) ∧ (r.length ≤ 40 ∧ ∀ c ∈ r, c ∈ abA)) (fun a ma Q k => ?_) fun ys hl hp => ?_
  · (conv => whnf)
    exact L_row h1 h2 ha fun r r1 r2 => k _ ⟨r, rfl, r1, r2⟩
  obtain ⟨rs, rfl, hrs⟩ := listOf hp
  have hrl : rs.length = 8 := by simpa using hl
  (conv => whnf)
  refine ⟨by rw [tx_len]; exact few (by omega), ?_⟩
  (conv => whnf)
  refine ⟨by rw [tx_len]; exact few (by omega), ?_⟩
  have hne : l ≠ [] := by intro z; rw [z] at h1; simp at h1
  rw [tx_cps, show atI l (-1 : Int) = some (l.getLast hne) from atI_end hne]
  (conv => whnf)
  refine ⟨mul_ok40 _, ?_⟩
  rw [mul_40, rev_tx, nil_tx]
  (conv => whnf)
  refine ⟨few (by rw [List.length_map, hrl]; show 8 + 5 ≤ 1000; omega), ?_⟩
  obtain ⟨RS, eR, oR, lR⟩ : ∃ RS : List (List Nat), (rs.map fun a => PV.str (txA a)) ++ [PV.str (txA []), PV.str (txA l), PV.str (txA l.reverse), PV.str (txA abA), PV.str (txA (List.replicate 40 (l.getLast hne)))] = RS.map (fun a => PV.str (txA a)) ∧ (∀ r ∈ RS, okRow r) ∧ RS.length = 13 := by
    refine ⟨rs ++ [[], l, l.reverse, abA, List.replicate 40 (l.getLast hne)], by rw [List.map_append]; rfl, fun r hr => ?_, by simp [hrl]⟩
    rcases List.mem_append.mp hr with hr | hr
    · exact hrs r hr
    · simp only [List.mem_cons, List.not_mem_nil, or_false] at hr
      rcases hr with rfl | rfl | rfl | rfl | rfl
      · exact ⟨by simp, by simp⟩
      · exact ⟨by omega, ha⟩
      · exact ⟨by simp; omega, fun c hc => ha c (by simpa using hc)⟩
      · exact ⟨by rw [ab_len]; omega, fun _ h => h⟩
      · exact ⟨by simp, fun c hc => by rw [List.eq_of_mem_replicate hc]; exact ha _ (List.getLast_mem hne)⟩
  rw [eR]
  (conv => whnf)
  refine ⟨few (by simp [lR]), ?_⟩
  rw [← List.map_reverse, ← List.map_append]
  refine yforI (h := fun a => PV.str (txA a)) (fun l' γ => (∀ r ∈ l', okRow r) ∧ ∃ b6 b7 b8 b9 b10, γ = [none, some .bag, some (.str (txA l)), some (pvS l d), some (.str (txA abA)), some (.lst (RS.map fun a => PV.str (txA a))), b6, b7, b8, b9, b10]) ⟨fun r hr => ?_, _, _, _, _, _, rfl⟩ ?_ ?_
  · rcases List.mem_append.mp hr with hr | hr
    · exact oR r hr
    · exact oR r (List.mem_reverse.mp hr)
  · rintro r l' γ ⟨hr, b6, b7, b8, b9, b10, rfl⟩ K hK
    obtain ⟨r1, r2⟩ := hr r (by simp)
    (conv => whnf)
    rw [chars_tx]
    refine ⟨by rw [List.length_map]; exact few (by omega), ?_⟩
    (conv => whnf)
    refine ylcF (h := chA) (f := chA) (c := fun c => decide (¬ c ∈ l)) (fun c m Q Q' k1 k2 => ?_) ?_
    · (conv => whnf)
      rw [tx_cps]
      refine ⟨rfl, ?_⟩
      rw [if_pos rfl]
      show bfi (!decide (c ∈ l)) _ _
      by_cases hx : c ∈ l
      · rw [decide_eq_true hx]
        exact k2 (decide_eq_false (fun z => z hx))
      · rw [decide_eq_false hx]
        exact k1 (decide_eq_true hx)
    (conv => whnf)
    refine ⟨dat_chL _ fun c hc => r2 c (List.mem_filter.mp hc).1, by decide +kernel, ?_⟩
    rw [peq_nil]
    (conv => whnf)
    refine ⟨rfl, L_knows r1 r2 ?_⟩
    (conv => whnf)
    refine ⟨rfl, rfl, ?_⟩
    rw [dues, peq_bl]
    (conv => whnf)
    exact hK _ ⟨fun x hx => hr x (by simp [hx]), _, _, _, _, _, rfl⟩
  · rintro γ ⟨-, b6, b7, b8, b9, b10, rfl⟩
    (conv => whnf)
end Lw
open PySem PySem.W PySem.Calls PyProof.Rows
theorem PySem.Challenge.cw_laybeside_k15_knows_holds : PySem.Challenge.rw_laybeside_k15_knows.Holds := by
  w_on; o_law
  refine HandSHeadRun.head_any (r := OpenLaw.row PySem.Challenge.rw_laybeside_k15_knows) (q := view (OpenLaw.row PySem.Challenge.rw_laybeside_k15_knows).prog [29]) (H := Lw.hk) (ob := Lw.ob) (M := 200000) (loose := Lw.loose) (d := HandSHeadRun.topDef (OpenLaw.row PySem.Challenge.rw_laybeside_k15_knows).prog 29) (kwd := []) Lw.ob_eq
    (by kernel_rfl) (fun s => by kernel_rfl) Lw.run (by kernel_rfl) (by kernel_rfl) (by kernel_rfl) (by rfl) (by first | assumption | decide +kernel) (by decide +kernel) ⟨rfl, rfl, rfl, rfl, rfl, by decide +kernel⟩ ?hw ?hc
  case hw => w_witness2
  case hc =>
    refine L2.walk_ofE (l := PySem.Challenge.rw_laybeside_k15_knows) (n := 63) (k := 7) (x := "_law_script") (CX := L2.CX0) rfl (by decide) (by kernel_rfl) ⟨rfl, by decide, by decide⟩ ?F (fun _ _ _ _ z => z)
    intro w mg fa h Y G hmg0
    obtain ⟨K, KX, c⟩ := Y
    have hmg : mg ("law" : PySem.Str) = some (.ref fa) := by
      have e : (HandSHeadRun.topDef (OpenLaw.row PySem.Challenge.rw_laybeside_k15_knows).prog 29).name = ("law" : PySem.Str) := by kernel_rfl
      rw [← e]
      exact hmg0
    obtain ⟨fd, hb, hF⟩ := Lw.facts (P := (PySem.Challenge.rw_laybeside_k15_knows).prog) (w := w) KX G Lw.law_plain hmg c
    exact ⟨K, fd, Vl.spLaw K, KX, hb, fun H a ns hl _ hS => ⟨a, ns, rfl, hS, by rw [sizeLine_eq]; omega, fun _ => rfl⟩, hF⟩
