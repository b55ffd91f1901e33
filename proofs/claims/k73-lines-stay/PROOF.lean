import PyProof.Rows.All
import Wide.All
import OpenK.AllK
import Wide.FinOn
import KE.KStateDown
import KE.KIndexOf
import HandS.ForMost
import HandS.ForExc
import HandS.IsInst
import HandS.Codes
import HandS.Flow
import HandS.Wide
import HandS.MakeKwOnly
import HandS.RevRange
import HandS.NoneIn
import HandS.Style
import HandS.SortInts
import HandS.Walk
import HandS.StrMore
import HandS.More
import HandS.Defaults
import HandS.Head0
import HandS.Head1
import HandS.Head2
import HandS.HeadEnd
import HandS.HeadHook4
import HandS.Zip
import KE.DatumOrd
import HandS.TryMany
import HandS.TryOnly
import HandS.SuiteRaise
import HandS.RaiseMore
import HandS.ExcField
import HandS.ExcIs
import HandS.ExcInit
import HandS.DictComp
import HandS.DictEq
import HandS.WordsExc
import KE.GoesZip
import KE.GoesEnum
import KE.GoesMore
import HandS.Remove
import HandS.Rindex
import HandS.SetIn
import HandS.TupLe
import HandS.DictTup
import HandS.TupMul
import HandS.AnyAll
import HandS.Base
import HandS.BoundDict
import HandS.BoundList
import HandS.Bytes
import HandS.BytesMake
import HandS.Call
import HandS.CallLocal
import HandS.CallRecv
import HandS.CallSlots
import HandS.ClsMeth
import HandS.Comp
import HandS.Conv
import HandS.Deep
import HandS.DeepEq
import HandS.Dict
import HandS.DictSub
import HandS.DictSubMake
import HandS.DictSubView
import HandS.DictSubView0
import HandS.EndBits
import HandS.EndOwn
import HandS.EndTab
import HandS.Ends
import HandS.Evl
import HandS.Exc
import HandS.ExcBuiltin
import HandS.ExcCtx
import HandS.ExcInitHot
import HandS.ExcOwn
import HandS.ExcSuper
import HandS.ExcValue
import HandS.ExcValueFrom
import HandS.ExcValueHot
import HandS.ExpandTabs
import HandS.ExpandTabs0
import HandS.FStr
import HandS.FStrTup
import HandS.Finally
import HandS.Flt
import HandS.FltErr
import HandS.FltExact
import HandS.FltList
import HandS.FltSums
import HandS.FltText
import HandS.ForDict
import HandS.ForList
import HandS.ForSpec
import HandS.FromBytesMap
import HandS.Gcd
import HandS.GenBody
import HandS.GenCall
import HandS.GenList
import HandS.GenOver
import HandS.GenYield
import HandS.Head3
import HandS.Head4
import HandS.HeadHook1
import HandS.HeadHook2
import HandS.HeadHook3
import HandS.HeadNt
import HandS.HeadWalk
import HandS.Hot
import HandS.HotCalls
import HandS.IntHex
import HandS.IntRatio
import HandS.Iter
import HandS.IterNext
import HandS.IterVal
import HandS.JoinGen
import HandS.Keys
import HandS.Lambda
import HandS.LawCells
import HandS.List
import HandS.ListEq
import HandS.ListItems
import HandS.MakeKw
import HandS.MapJoin
import HandS.MapObj
import HandS.MapSum
import HandS.MethStar
import HandS.NamedTup0
import HandS.NamedTupGet
import HandS.NamedTupSort
import HandS.Nested
import HandS.NestedHot
import HandS.NestedK
import HandS.New
import HandS.New0
import HandS.OwnEq
import HandS.OwnIter
import HandS.Property
import HandS.Proxy
import HandS.RaiseFrom
import HandS.RaiseOp
import HandS.ReBound
import HandS.ReCall
import HandS.ReCheck
import HandS.ReDoes
import HandS.ReFacts
import HandS.ReHeld
import HandS.ReIface
import HandS.ReLoops
import HandS.ReMatch
import HandS.ReName
import HandS.ReRuns
import HandS.ReSeek
import HandS.ReSem
import HandS.ReSet
import HandS.ReSub
import HandS.ReTell
import HandS.Records
import HandS.RepeatKit
import HandS.Replace
import HandS.ReplaceDef
import HandS.ReplaceList
import HandS.ReplaceLit
import HandS.Rev
import HandS.RevTup
import HandS.Set
import HandS.SetBool
import HandS.SetFor
import HandS.SetKeys
import HandS.SetTxt0
import HandS.SetTxtIn
import HandS.Slots
import HandS.SlotsOwn
import HandS.SlotsVar
import HandS.Small
import HandS.Sort
import HandS.SortKw
import HandS.SortOrd
import HandS.SortRule
import HandS.Spec
import HandS.Star
import HandS.Steps
import HandS.StrSplit
import HandS.Strs
import HandS.Struct
import HandS.Struct0
import HandS.Text
import HandS.ToBytes
import HandS.Translate
import HandS.TryElse
import HandS.TupAny
import HandS.TupLen
import HandS.TupSets
import HandS.WideBits
import HandS.WideMore
import HandS.Words
import HandS.WordsDict
import HandS.WordsList
import HandS.WrittenFld
import HandS.WrittenGet
import HandS.Zip0
import PyProof.Rows.TupDisplay
import PyProof.Rows.StrLawsPart
import KE.KDictWalk
import KE.KExcIs
import PyProof.Rows.DictMethods
import PyProof.ReprBulk
import PyProof.Rows.CountFlat
import PyProof.TupleOfStr
import PySem.Challenge.RW_laybeside_k73_lines_stay
set_option Elab.async false
set_option linter.all false
set_option maxRecDepth 100000
set_option maxHeartbeats 4000000
namespace Lb
open PySem PySem.Spec L2
abbrev Fg := PySem.W.Frag
def tTru (K : Fg) (ta : TE) : TT := fun σ H Q => ta σ H fun x H' => ∃ k, TruV K x H' k ∧ Q k H'
end Lb
namespace Lb
open PySem PySem.Spec L2
def rAddI : R2 := fun x y H Q => ∃ i j, x = .int i ∧ y = .int j ∧ Q (.int (i + j)) H
def rAddS : R2 := fun x y H Q => ∃ i j, x = .str i ∧ y = .str j ∧ i.length + j.length ≤ sizeLine ∧ Q (.str (i ++ j)) H
def rAddA : R2 := fun x y H Q => rAddI x y H Q ∨ rAddS x y H Q ∨ rCat x y H Q
def rSubA : R2 := rI0 fun i j => .int (i - j)
def rMulI : R2 := rI CMul fun i j => .int (i * j)
def rMulA : R2 := fun x y H Q => rMulI x y H Q ∨ rRep x y H Q
def rModA : R2 := rI (fun _ j => 0 < j) fun i j => .int (i % j)
def rDivA : R2 := rI CDivW fun i j => .int (i / j)
def rPowA : R2 := rI CPow fun i j => .int (i ^ j.toNat)
def rEqA (K : Fg) : R2 := fun x y H Q => rEq x y H Q ∨ rEqD K x y H Q
def rNeA (K : Fg) : R2 := fun x y H Q => rNe x y H Q ∨ rNeD K x y H Q
def rLtI : R2 := rI0 fun i j => .bl (decide (i < j))
def rLtS : R2 := fun x y H Q => ∃ i j, x = .str i ∧ y = .str j ∧ Q (.bl (decide (i.cps.toList < j.cps.toList))) H
def rLtA : R2 := fun x y H Q => rLtI x y H Q ∨ rLtS x y H Q
def rLeA : R2 := rI0 fun i j => .bl (decide (i ≤ j))
def rGtA : R2 := rI0 fun i j => .bl (decide (j < i))
def rGeA : R2 := rI0 fun i j => .bl (decide (j ≤ i))
def rInC : R2 := fun x y H Q => ∃ (c : Nat) (z : Str), x = .str ⟨#[c]⟩ ∧ y = .str z ∧ Q (.bl (decide (c ∈ z.cps.toList))) H
def rInA (K : Fg) : R2 := fun x y H Q => rInC x y H Q ∨ rIn K false x y H Q
def rNotInC : R2 := fun x y H Q => ∃ (c : Nat) (z : Str), x = .str ⟨#[c]⟩ ∧ y = .str z ∧ Q (.bl (!decide (c ∈ z.cps.toList))) H
def rNotInA (K : Fg) : R2 := fun x y H Q => rNotInC x y H Q ∨ rIn K true x y H Q
def rNegA : V → Hp → VK → Prop := rU fun i => .int (-i)
def ipAddA : TIp := fun x y H Q => rAddI x y H Q ∨ rAddS x y H Q
def rAbs : List V → Hp → VK → Prop := fun xs H Q => ∃ i, xs = [V.int i] ∧ Q (V.int (if i < 0 then -i else i)) H
def rInt1 : List V → Hp → VK → Prop := fun xs H Q => (∃ i, xs = [V.int i] ∧ Q (V.int i) H) ∨ ∃ k, xs = [V.bl k] ∧ Q (V.int (if k = true then 1 else 0)) H
def rTupOf (K : Fg) : List V → Hp → VK → Prop := fun xs H Q => ∃ p ys, xs = [.ref p] ∧ ((SqL K H p ys ∧ ∀ l, H l = none → Q (.ref l) (upd H l (.tup ys))) ∨ (SqT K H p ys ∧ Q (.ref p) H))
def rMin2 : List V → Hp → VK → Prop := fun xs H Q => ∃ i j, xs = [.int i, .int j] ∧ Q (.int (if j < i then j else i)) H
/-- isinstance(x, T), T a built-in class -/
def rIsB (K : Fg) : List V → Hp → VK → Prop := fun xs H Q => ∃ (x : V) (T t : String) (b : Bool), xs = [x, .ty T] ∧ TyX K H x (.type t) ∧ kitB t T = some b ∧ Q (.bl b) H
def rIsC (C : Addr) : List V → Hp → VK → Prop := fun xs H Q => ∃ a dx fs, xs = [.ref a, .ref C] ∧ H a = some (.ins C dx fs) ∧ Q (.bl true) H
/-- t.index(x), t a tuple of texts -/
def rIdxT (K : Fg) : V → List V → Hp → VK → Prop := fun x xs H Q => ∃ (a : Addr) (ys : List Str) (y : Str), x = .ref a ∧ xs = [.str y] ∧ SqT K H a (ys.map V.str) ∧ y ∈ ys ∧ Q (.int (ys.idxOf y : Nat)) H
def rGetL (K : Fg) : R2 := fun x y H Q => ∃ p xs j v, x = .ref p ∧ y = .int ((j : Nat) : Int) ∧ SqL K H p xs ∧ xs[j]? = some v ∧ Q v H
section
variable {X : Cx}
theorem op_addA : OpR X (binaryOp .Add) rAddA := OpR.or op_add (OpR.or op_add_str op_cat)
theorem op_subA : OpR X (binaryOp .Sub) rSubA := op_sub
theorem op_mulA : OpR X (binaryOp .Mult) rMulA := OpR.or op_mul op_rep
theorem op_modA : OpR X (binaryOp .Mod) rModA := op_mod
theorem op_divA : OpR X (binaryOp .FloorDiv) rDivA := op_fdivW
theorem op_powA : OpR X (binaryOp .Pow) rPowA := op_pow
theorem op_eqA (hu : X.A.units + 64 < cLine) : OpR X (compareOp .Eq) (rEqA X.K) := OpR.or op_eq (op_eqD hu)
theorem op_neA (hu : X.A.units + 64 < cLine) : OpR X (compareOp .NotEq) (rNeA X.K) := OpR.or op_ne (op_neD hu)
theorem op_ltA : OpR X (compareOp .Lt) rLtA := OpR.or op_lt op_lt_str
theorem op_leA : OpR X (compareOp .LtE) rLeA := op_le
theorem op_gtA : OpR X (compareOp .Gt) rGtA := op_gt
theorem op_geA : OpR X (compareOp .GtE) rGeA := op_ge
theorem op_inA : OpR X (compareOp .In) (rInA X.K) := OpR.or op_in_sign op_in_seq
theorem op_notInA : OpR X (compareOp .NotIn) (rNotInA X.K) := OpR.or op_notIn_sign op_notIn_seq
theorem un_negA : UnR X (unaryOp .USub) rNegA := un_neg
theorem ip_addA : PIp X .Add ipAddA := by
  intro pins s σ H x y v u Q I rx ry h
  rcases h with h | h
  · exact iop_add pins s σ H x y v u Q I rx ry h
  · exact iop_add_str pins s σ H x y v u Q I rx ry h
theorem call_absA : CallR X (.builtin "abs") rAbs := call_abs
theorem call_int1A : CallR X (.type "int") rInt1 := call_int1
theorem call_tuple_ofA : CallR X (.type "tuple") (rTupOf X.K) := call_tuple_of
theorem call_lenA : CallR X (.builtin "len") (rLen X.K) := call_len
theorem call_isB : CallR X (.builtin "isinstance") (rIsB X.K) := by
  intro pins s σ H xs us Q I r h
  obtain ⟨x, T, t, b, rfl, ty, e, q⟩ := h
  exact call_isi pins s σ H _ us Q I r ⟨x, .ty T, .type t, .type T, b, rfl, .ty T, ty, kit_ty e, q⟩
theorem call_isCA {C : Addr} (c : C8.InsC X.K C) : CallR X (.builtin "isinstance") (rIsC C) := C8.call_isC c
theorem strs_are : ∀ {ys : List Str} {its : List Value}, Vals (ys.map V.str) its → PyProof.Rows.StrsAre its ys
  | [], _, .nil => .nil
  | y :: ys, _, .cons r t => by
    obtain ⟨tk, rfl⟩ := r
    exact .cons _ _ (strs_are t)
theorem mt_idxT : MtR X "tuple.index" (rIdxT X.K) := by
  intro pins s σ H x xs v us Q I rx rxs h
  obtain ⟨a, ys, y, rfl, rfl, hs, hy, q⟩ := h
  cases rx
  cases rxs with
  | cons ry rt =>
    cases rt
    obtain ⟨t, rfl⟩ := ry
    obtain ⟨its, r, pl, hz⟩ := I.tuple hs
    exact SeqAt.tuple_index_strs pl (strs_are r) hy ⟨.int (ys.idxOf y : Nat), H, I.tok _, ⟨_, rfl⟩, q⟩
theorem get_list : PGet X (rGetL X.K) := by
  intro pins s σ H o i ov iv Q I ro ri h
  obtain ⟨p, xs, j, v, rfl, rfl, hq, he, q⟩ := h
  cases ro
  obtain ⟨t, rfl⟩ := ri
  obtain ⟨its, r, pl, hz⟩ := I.list hq
  obtain ⟨w, ew, rw'⟩ := r.get he
  have hl := r.length
  have hn := line63
  have hj : j < xs.length := (List.getElem?_eq_some_iff.mp he).1
  exact wpAny_getItem_list pl.isList (by omega) (by omega) (by simpa using ew) ⟨v, H, I, rw', q⟩
theorem call_min2A (hc : X.calm = true) : CallR X (.builtin "min") rMin2 := call_min2 hc
end
def Cal (P : Program) (w : World) (K : Fg) (mg : Str → Option Value) (base : Heap) (x : Str) (k : Nat) (ps : List Str) (sp : Sp) (dvs : List V) : Prop :=
  ∃ fd ds, FnOk P w K mg base CX0 k (He.ga K x) fd ps sp ∧ Binds K fd ps ds ∧ Vals dvs ds ∧ mg x = some (.ref (He.ga K x)) ∧ PySem.W.keepIn K (.ref (He.ga K x)) = true
def CalM (P : Program) (w : World) (K : Fg) (mg : Str → Option Value) (base : Heap) (c m : Str) (k : Nat) (ps : List Str) (sp : Sp) (dvs : List V) : Prop :=
  ∃ fd ds f, FnOk P w K mg base CX0 k f fd ps sp ∧ Binds K fd ps ds ∧ Vals dvs ds ∧ Meth K (He.ga K c) m f ∧ Cls K (He.ga K c)
def CalI (P : Program) (w : World) (K : Fg) (mg : Str → Option Value) (base : Heap) (c : Str) (k : Nat) (ps : List Str) (sp : Sp) (dvs : List V) : Prop :=
  ∃ fd ds f, FnOk P w K mg base CX0 k f fd ps sp ∧ Binds K fd ps ds ∧ Vals dvs ds ∧ Mk K (He.ga K c) f ∧ mg c = some (.ref (He.ga K c))
def CalIK (P : Program) (w : World) (K : Fg) (mg : Str → Option Value) (base : Heap) (c : Str) (k : Nat) (ps : List Str) (sp : Sp) (n : Nat) (ks : List Str) (gV : List V → List V → List V) : Prop :=
  ∃ fd g f, FnOk P w K mg base CX0 k f fd ps sp ∧ KBn K fd ps (n + 1) ks g gV ∧ Mk K (He.ga K c) f ∧ mg c = some (.ref (He.ga K c))
section
variable {X : Cx} {k n : Nat} {ps ks : List Str} {sp : Sp} {dvs : List V} {x c m : Str} {p pos apos : Pos} {e o : Expr} {es : List Expr} {kws : List Keyword} {ta te : TE} {t tk : TA} {gV : List V → List V → List V} {i : Int} {z : Str}
theorem pe_gref {a : Addr} (h : X.mg x = some (.ref a)) (hg : Gl X x) (hd : (x == ("__debug__" : Str)) = false := by decide) : PE X (.Name x pos) (tC (.ref a)) := pe_glob hg h rfl hd
theorem pe_cal (c : Cal X.prog X.w X.K X.mg X.base x k ps sp dvs) (hr : Room k X.A) (hg : Gl X x) (ha : PA X (e :: es) t) (hdb : (x == ("__debug__" : Str)) = false := by decide)
    (he : starEach (e :: es) X.env = (false, eval e X.env) :: starEach es X.env := by rfl) (hpl : (backTo pos (starEach es X.env)).any (·.1) = false := by rfl) :
    PE X (.Call (.Name x p) (e :: es) [] pos) (tCall sp dvs E0 t) := by
  obtain ⟨fd, ds, F, b, v, g, kp⟩ := c
  exact pe_call F hr hg g kp b v pass0 ha hdb he hpl
theorem pe_mth {pl : Sem Bool} (cc : CalM X.prog X.w X.K X.mg X.base c m k ps sp dvs) (hr : Room k X.A) (he : PE X o ta) (ha : PA X (e :: es) t)
    (hst : starEach (e :: es) X.env = (false, eval e X.env) :: starEach es X.env := by rfl) (hpl : (backTo pos (starEach es X.env)).any (·.1) = false := by rfl)
    (ht : eval (.Call (.Attribute o m apos) (e :: es) [] pos) X.env = (do
      let ov ← eval o X.env
      standAt apos.atName
      let (f, first) ← holding [ov] (getMethod ov m pl)
      callWith pos f first (backTo pos (starEach (e :: es) X.env)) (backToKw pos (keywordEach [] X.env))) := by rfl) :
    PE X (.Call (.Attribute o m apos) (e :: es) [] pos) (tMeth (He.ga X.K c) m sp dvs E0 ta t) := by
  obtain ⟨fd, ds, f, F, b, v, mm, cl⟩ := cc
  exact pe_meth he cl mm F hr b v pass0 ha hst hpl ht
theorem pe_mth0 {pl : Sem Bool} (cc : CalM X.prog X.w X.K X.mg X.base c m k ps sp dvs) (hr : Room k X.A) (he : PE X o ta)
    (ht : eval (.Call (.Attribute o m apos) [] [] pos) X.env = (do
      let ov ← eval o X.env
      standAt apos.atName
      let (f, first) ← holding [ov] (getMethod ov m pl)
      callWith pos f first (backTo pos (starEach [] X.env)) (backToKw pos (keywordEach [] X.env))) := by rfl) :
    PE X (.Call (.Attribute o m apos) [] [] pos) (tMeth (He.ga X.K c) m sp dvs E0 ta tNil) := by
  obtain ⟨fd, ds, f, F, b, v, mm, cl⟩ := cc
  exact pe_meth0 he cl mm F hr b v pass0 ht
theorem pe_mak (c : CalI X.prog X.w X.K X.mg X.base x k ps sp dvs) (hr : Room (k + 1) X.A) (hg : Gl X x) (ha : PA X (e :: es) t) (hdb : (x == ("__debug__" : Str)) = false := by decide)
    (he : starEach (e :: es) X.env = (false, eval e X.env) :: starEach es X.env := by rfl) (hpl : (backTo pos (starEach es X.env)).any (·.1) = false := by rfl) :
    PE X (.Call (.Name x p) (e :: es) [] pos) (tMake (He.ga X.K x) sp dvs E0 t) := by
  obtain ⟨fd, ds, f, F, b, v, mk, g⟩ := c
  exact pe_make mk F hr hg g b v pass0 ha hdb he hpl
theorem pe_makK {m : Nat} (c : CalIK X.prog X.w X.K X.mg X.base x k ps sp n ks gV) (hr : Room (k + 1) X.A) (hg : Gl X x) (ha : PA X (e :: es) t) (hkw : PK X kws tk) (hall : (backToKw pos (keywordEach kws X.env)).all (·.1.isSome) = true := by rfl) (hks : (backToKw pos (keywordEach kws X.env)).filterMap (·.1) = ks := by rfl)
    (hdb : (x == ("__debug__" : Str)) = false := by decide) (he : starEach (e :: es) X.env = (false, eval e X.env) :: starEach es X.env := by rfl)
    (hpl : ((backTo pos (starEach (e :: es) X.env)).any (·.1) || (backToKw pos (keywordEach kws X.env)).any (·.1.isNone)) = false := by rfl)
    (hm : ks.length = m := by rfl) : PE X (.Call (.Name x p) (e :: es) kws pos) (tMakeK (He.ga X.K x) n m sp gV E0 t tk) := by
  obtain ⟨fd, g, f, F, b, mk, gm⟩ := c
  subst hm
  exact pe_makeK mk F hr hg gm b pass0 ha hkw hall hks hdb he hpl
theorem pt_tru (ha : PE X e te) (he : ∀ whole, isTrue e X.env whole = (do let v ← whole; standAt e.pos; holding [v] (truthy v)) := by intro _; rfl) : PT X e (tTru X.K te) := pt_truth ha he
end
end Lb
namespace Vl
open PySem PySem.Spec L2
abbrev Fg := PySem.W.Frag
/-- the built-in classes that are asked for -/
inductive Kn where
  | int | bool | str | list | tuple | dict
def knS : Kn → String
  | .int => "int"
  | .bool => "bool"
  | .str => "str"
  | .list => "list"
  | .tuple => "tuple"
  | .dict => "dict"
/-- plain values -/
inductive PV where
  | non | bl (b : Bool) | int (i : Int) | str (x : Str) | ty (n : Kn)
  | lst (xs : List PV) | tup (xs : List PV)
  | dK (kvs : List (Key × PV)) | dT (kvs : List (List Key × PV))
  | ins (c : Nat) (fs : List PV)
  | cls (c : Str) | bag
/-- the program's classes and their attributes, in the order of their making -/
def clsT : Nat → Str × List Str
  | 0 => ("Scale", ["kept_letters", "by_two", "kept_opening", "kept_each"])
  | 1 => ("Field", ["kept_pairs", "over_kept", "under_kept", "to_open"])
  | 2 => ("Bounds", ["ground", "ended", "lines"])
  | 3 => ("Stretches", ["laid_in", "most_from"])
  | 4 => ("Chain", ["chained_in", "fee_each", "by_place"])
  | 5 => ("Ways", ["walked", "ended_so", "lines_told", "ways_on"])
  | 6 => ("Sheet", ["over_row", "under_row", "ruled", "known", "all_known"])
  | 7 => ("Joined", ["held_rows"])
  | 8 => ("Book", ["ruled", "stands", "done", "undone"])
  | 9 => ("Desk", ["own_book"])
  | _ => ("", [])
/-- the written part, the bag's two lists -/
structure Bg where
  K : Fg
  q : Addr
  r : Addr
/-- a tuple, tracked or written -/
def STp (K : Fg) (H : Hp) (a : Addr) (xs : List V) : Prop :=
  H a = some (.tup xs) ∨ ∃ (o : Obj) (its : Array Value) (n : Nat), K.lookup a = some o ∧ o.cls = .type "tuple" ∧ o.data = .seq its n ∧ its.size ≤ sizeLine ∧ Vals xs its.toList
theorem STp.sq {K : Fg} {H : Hp} {a : Addr} {xs : List V} (h : STp K H a xs) : SqT K H a xs := by
  rcases h with h | h
  · exact .inl (.inl h)
  · exact .inr h
mutual
inductive Rp (B : Bg) (A : Addr → Prop) (H : Hp) : PV → V → Prop
  | non : Rp B A H .non .non
  | bl (b : Bool) : Rp B A H (.bl b) (.bl b)
  | int (i : Int) : Rp B A H (.int i) (.int i)
  | str (x : Str) : Rp B A H (.str x) (.str x)
  | ty (n : Kn) : Rp B A H (.ty n) (.ty (knS n))
  | lst {a : Addr} {vs : List V} {xs : List PV} : ¬ A a → H a = some (.lst vs) → RpL B A H xs vs → Rp B A H (.lst xs) (.ref a)
  | tup {a : Addr} {vs : List V} {xs : List PV} : STp B.K H a vs → RpL B A H xs vs → Rp B A H (.tup xs) (.ref a)
  | dK {a : Addr} {ws : List (Key × V)} {kvs : List (Key × PV)} {ks : List Key} {xs : List PV} {vs : List V} : ¬ A a → H a = some (.dK ws) → kvs.map (·.1) = ks → ws.map (·.1) = ks → kvs.map (·.2) = xs → ws.map (·.2) = vs → RpL B A H xs vs → Rp B A H (.dK kvs) (.ref a)
  | dT {a : Addr} {ws : List (List Key × V)} {kvs : List (List Key × PV)} {ks : List (List Key)} {xs : List PV} {vs : List V} : ¬ A a → H a = some (.dT ws) → kvs.map (·.1) = ks → ws.map (·.1) = ks → kvs.map (·.2) = xs → ws.map (·.2) = vs → RpL B A H xs vs → Rp B A H (.dT kvs) (.ref a)
  | ins {a dx : Addr} {c : Nat} {ws : List (Str × V)} {xs : List PV} {vs : List V} : ¬ A a → H a = some (.ins (He.ga B.K (clsT c).1) dx ws) → ws.map (·.1) = (clsT c).2.take xs.length → ws.map (·.2) = vs → RpL B A H xs vs → Rp B A H (.ins c xs) (.ref a)
  | cls (c : Str) : Rp B A H (.cls c) (.ref (He.ga B.K c))
  | bag : Rp B A H .bag (.ref B.q)
inductive RpL (B : Bg) (A : Addr → Prop) (H : Hp) : List PV → List V → Prop
  | nil : RpL B A H [] []
  | cons {x : PV} {v : V} {xs : List PV} {vs : List V} : Rp B A H x v → RpL B A H xs vs → RpL B A H (x :: xs) (v :: vs)
end
section
variable {B : Bg} {A A' : Addr → Prop} {H H' : Hp}
mutual
theorem Rp.mv (f : ∀ a o, H a = some o → ¬ A a → H' a = some o) (ft : ∀ a vs, H a = some (.tup vs) → H' a = some (.tup vs)) (g : ∀ a, A' a → H a ≠ none → A a) :
    ∀ {x : PV} {v : V}, Rp B A H x v → Rp B A' H' x v
  | _, _, .non => .non
  | _, _, .bl b => .bl b
  | _, _, .int i => .int i
  | _, _, .str x => .str x
  | _, _, .ty n => .ty n
  | _, _, .lst n h r => .lst (fun z => n (g _ z (by rw [h]; exact nofun))) (f _ _ h n) (RpL.mv f ft g r)
  | _, _, .tup h r => .tup (h.elim (fun h => .inl (ft _ _ h)) .inr) (RpL.mv f ft g r)
  | _, _, .dK n h a b c d r => .dK (fun z => n (g _ z (by rw [h]; exact nofun))) (f _ _ h n) a b c d (RpL.mv f ft g r)
  | _, _, .dT n h a b c d r => .dT (fun z => n (g _ z (by rw [h]; exact nofun))) (f _ _ h n) a b c d (RpL.mv f ft g r)
  | _, _, .ins n h a b r => .ins (fun z => n (g _ z (by rw [h]; exact nofun))) (f _ _ h n) a b (RpL.mv f ft g r)
  | _, _, .cls c => .cls c
  | _, _, .bag => .bag
theorem RpL.mv (f : ∀ a o, H a = some o → ¬ A a → H' a = some o) (ft : ∀ a vs, H a = some (.tup vs) → H' a = some (.tup vs)) (g : ∀ a, A' a → H a ≠ none → A a) :
    ∀ {x : List PV} {v : List V}, RpL B A H x v → RpL B A' H' x v
  | _, _, .nil => .nil
  | _, _, .cons a b => .cons (Rp.mv f ft g a) (RpL.mv f ft g b)
end
theorem Rp.anti (g : ∀ a, A' a → A a) {x : PV} {v : V} (h : Rp B A H x v) : Rp B A' H x v := h.mv (fun _ _ h _ => h) (fun _ _ h => h) fun a h _ => g a h
theorem RpL.anti (g : ∀ a, A' a → A a) {x : List PV} {v : List V} (h : RpL B A H x v) : RpL B A' H x v := h.mv (fun _ _ h _ => h) (fun _ _ h => h) fun a h _ => g a h
theorem RpL.length : ∀ {x : List PV} {v : List V}, RpL B A H x v → x.length = v.length
  | _, _, .nil => rfl
  | _, _, .cons _ b => by simp [RpL.length b]
theorem RpL.get : ∀ {x : List PV} {v : List V}, RpL B A H x v → ∀ {i : Nat} {p : PV}, x[i]? = some p → ∃ u, v[i]? = some u ∧ Rp B A H p u
  | _, _, .nil, _, _, e => by simp at e
  | _, _, .cons a _, 0, _, e => by simp at e; subst e; exact ⟨_, rfl, a⟩
  | _, _, .cons _ b, i + 1, _, e => by simpa using RpL.get b (by simpa using e)
theorem RpL.append : ∀ {x y : List PV} {v w : List V}, RpL B A H x v → RpL B A H y w → RpL B A H (x ++ y) (v ++ w)
  | _, _, _, _, .nil, r => r
  | _, _, _, _, .cons a b, r => .cons a (RpL.append b r)
theorem RpL.drop : ∀ {x : List PV} {v : List V} (n : Nat), RpL B A H x v → RpL B A H (x.drop n) (v.drop n)
  | _, _, 0, r => r
  | _, _, _ + 1, .nil => .nil
  | _, _, n + 1, .cons _ t => RpL.drop n t
theorem RpL.take : ∀ {x : List PV} {v : List V} (n : Nat), RpL B A H x v → RpL B A H (x.take n) (v.take n)
  | _, _, 0, _ => .nil
  | _, _, _ + 1, .nil => .nil
  | _, _, n + 1, .cons r t => .cons r (RpL.take n t)
theorem RpL.set : ∀ {x : List PV} {v : List V} {p : PV} {u : V} (n : Nat), RpL B A H x v → Rp B A H p u → RpL B A H (x.set n p) (v.set n u)
  | _, _, _, _, _, .nil, _ => .nil
  | _, _, _, _, 0, .cons _ t, r => .cons r t
  | _, _, _, _, n + 1, .cons q t, r => .cons q (RpL.set n t r)
end
mutual
def imm : PV → Bool
  | .non => true
  | .bl _ => true
  | .int _ => true
  | .str _ => true
  | .ty _ => true
  | .tup xs => immL xs
  | .cls _ => true
  | .bag => true
  | _ => false
def immL : List PV → Bool
  | [] => true
  | x :: xs => imm x && immL xs
end
section
variable {B : Bg} {A A' : Addr → Prop} {H : Hp}
mutual
theorem Rp.im : ∀ {x : PV} {v : V}, Rp B A H x v → imm x = true → Rp B A' H x v
  | _, _, .non, _ => .non
  | _, _, .bl b, _ => .bl b
  | _, _, .int i, _ => .int i
  | _, _, .str x, _ => .str x
  | _, _, .ty n, _ => .ty n
  | _, _, .tup h r, e => .tup h (RpL.im r (by simpa only [imm] using e))
  | _, _, .cls c, _ => .cls c
  | _, _, .bag, _ => .bag
  | _, _, .lst _ _ _, e => by simp [imm] at e
  | _, _, .dK _ _ _ _ _ _ _, e => by simp [imm] at e
  | _, _, .dT _ _ _ _ _ _ _, e => by simp [imm] at e
  | _, _, .ins _ _ _ _ _, e => by simp [imm] at e
theorem RpL.im : ∀ {x : List PV} {v : List V}, RpL B A H x v → immL x = true → RpL B A' H x v
  | _, _, .nil, _ => .nil
  | _, _, .cons a b, e => by
    simp only [immL, Bool.and_eq_true] at e
    exact .cons (Rp.im a e.1) (RpL.im b e.2)
end
end
def BagOk (B : Bg) (H : Hp) : Prop := ∃ (x y : Int) (z : Nat) (cs : List Int), H B.q = some (.lst [.int x, .int y, .int z, .ref B.r]) ∧ H B.r = some (.lst (cs.map V.int)) ∧ B.r ≠ B.q ∧
  0 ≤ x ∧ 0 ≤ y ∧ y < 2147483647 ∧ ∀ c ∈ cs, 0 ≤ c
structure Ex (B : Bg) (H H' : Hp) : Prop where
  st : ∀ a o, H a = some o → a ≠ B.q → H' a = some o
  tp : ∀ a vs, H a = some (.tup vs) → H' a = some (.tup vs)
  nn : ∀ a, H a ≠ none → H' a ≠ none
  bg : BagOk B H → BagOk B H'
theorem Ex.refl (B : Bg) (H : Hp) : Ex B H H := ⟨fun _ _ h _ => h, fun _ _ h => h, fun _ h => h, fun h => h⟩
theorem Ex.trans {B : Bg} {H H1 H2 : Hp} (a : Ex B H H1) (b : Ex B H1 H2) : Ex B H H2 :=
  ⟨fun c o h n => b.st c o (a.st c o h n) n, fun c v h => b.tp c v (a.tp c v h), fun c h => b.nn c (a.nn c h), fun h => b.bg (a.bg h)⟩
theorem BagOk.q {B : Bg} {H : Hp} (h : BagOk B H) : H B.q ≠ none := by
  obtain ⟨_, _, _, _, h, _⟩ := h; rw [h]; exact nofun
theorem BagOk.stay {B : Bg} {H H' : Hp} (h : BagOk B H) (f : ∀ o, H B.q = some o → H' B.q = some o) (g : ∀ o, H B.r = some o → H' B.r = some o) : BagOk B H' := by
  obtain ⟨x, y, z, cs, h1, h2, h3⟩ := h
  exact ⟨x, y, z, cs, f _ h1, g _ h2, h3⟩
/-- a new object -/
theorem Ex.new {B : Bg} {H : Hp} {p : Addr} {o : HO} (n : H p = none) : Ex B H (upd H p o) := by
  have k : ∀ a u, H a = some u → upd H p o a = some u := fun a u e => by rw [upd_ne (ne_of_none e n)]; exact e
  exact ⟨fun a u e _ => k a u e, fun a u e => k a _ e, fun a h => by
    cases e : H a with
    | none => exact absurd e h
    | some u => rw [k a u e]; exact nofun, fun h => h.stay (fun u e => k _ u e) fun u e => k _ u e⟩
theorem Ex.free {B : Bg} {H H' : Hp} (e : Ex B H H') {a : Addr} (h : H' a = none) : H a = none := by
  cases q : H a with
  | none => rfl
  | some o => exact absurd h (e.nn a (by rw [q]; exact nofun))
section
variable {B : Bg} {A : Addr → Prop} {H H' : Hp}
theorem Rp.ex {x : PV} {v : V} (h : Rp B A H x v) (e : Ex B H H') (aq : A B.q) : Rp B A H' x v :=
  h.mv (fun a o h n => e.st a o h (fun z => n (by rw [z]; exact aq))) e.tp fun _ h _ => h
theorem RpL.ex {x : List PV} {v : List V} (h : RpL B A H x v) (e : Ex B H H') (aq : A B.q) : RpL B A H' x v :=
  h.mv (fun a o h n => e.st a o h (fun z => n (by rw [z]; exact aq))) e.tp fun _ h _ => h
end
structure Ac where
  B : Bg
  A0 : Addr → Prop
  H0 : Hp
  me : Addr
/-- what a value keeps off: the caller's part (a), the own objects (s), the bag always -/
def av (E : Ac) (L : List Addr) (a s : Bool) (x : Addr) : Prop := x = E.B.q ∨ (a = true ∧ E.A0 x) ∨ (s = true ∧ x ∈ L)
/-- how a slot is held: shared, borrowed, an own list or dict, an own list of own lists, the own instance, the own instance with an own field; a caught exception (where it lies, its dict, its field); a dict by tuples that is walked (locked meanwhile) -/
inductive Whr where
  | any | at_ (a : Addr) | me
  deriving DecidableEq
def Whr.ok (w : Whr) (me a : Addr) : Prop := match w with
  | .any => True
  | .at_ b => a = b
  | .me => a = me
inductive Kd where
  | sh | bor | own | own2 | slf | slfD (j : Nat) | tt | deep | exc (a : Addr) (d : Option Addr) (f : Str) | fz
  | obj (w : Whr) (js : List Nat) | ownA (a : Addr)
  deriving DecidableEq
/-- an object of one's own at a -/
def Ob (B : Bg) (A : Addr → Prop) (H : Hp) (a : Addr) : PV → Prop
  | .lst xs => ∃ vs, H a = some (.lst vs) ∧ RpL B A H xs vs
  | .dT kvs => ∃ ws, H a = some (.dT ws) ∧ kvs.map (·.1) = ws.map (·.1) ∧ RpL B A H (kvs.map (·.2)) (ws.map (·.2))
  | .dK kvs => ∃ ws, H a = some (.dK ws) ∧ kvs.map (·.1) = ws.map (·.1) ∧ RpL B A H (kvs.map (·.2)) (ws.map (·.2))
  | .ins c fs => ∃ dx ws, H a = some (.ins (He.ga B.K (clsT c).1) dx ws) ∧ ws.map (·.1) = (clsT c).2.take fs.length ∧ RpL B A H fs (ws.map (·.2))
  | _ => False
/-- own lists within a list -/
inductive Obs (B : Bg) (A : Addr → Prop) (H : Hp) : List PV → List Addr → Prop
  | nil : Obs B A H [] []
  | cons {x : PV} {xs : List PV} {a : Addr} {as : List Addr} : Ob B A H a x → Obs B A H xs as → Obs B A H (x :: xs) (a :: as)
mutual
inductive RpO (B : Bg) (A : Addr → Prop) (H : Hp) : PV → V → List Addr → Prop
  | imm {x : PV} {v : V} : imm x = true → Rp B A H x v → RpO B A H x v []
  | lst {a : Addr} {vs : List V} {xs : List PV} {O : List Addr} : H a = some (.lst vs) → RpOL B A H xs vs O → RpO B A H (.lst xs) (.ref a) (a :: O)
  | tup {a : Addr} {vs : List V} {xs : List PV} {O : List Addr} : STp B.K H a vs → RpOL B A H xs vs O → RpO B A H (.tup xs) (.ref a) O
inductive RpOL (B : Bg) (A : Addr → Prop) (H : Hp) : List PV → List V → List Addr → Prop
  | nil : RpOL B A H [] [] []
  | cons {x : PV} {v : V} {xs : List PV} {vs : List V} {O P : List Addr} : RpO B A H x v O → RpOL B A H xs vs P → RpOL B A H (x :: xs) (v :: vs) (O ++ P)
end
/-- an instance's fields, some (js) of which are own objects -/
inductive Fo (B : Bg) (A : Addr → Prop) (H : Hp) (js : List Nat) : Nat → List PV → List V → List Addr → Prop
  | nil {k : Nat} : Fo B A H js k [] [] []
  | sh {k : Nat} {x : PV} {v : V} {xs : List PV} {vs : List V} {bs : List Addr} : k ∉ js → Rp B A H x v → Fo B A H js (k + 1) xs vs bs → Fo B A H js k (x :: xs) (v :: vs) bs
  | own {k : Nat} {b : Addr} {x : PV} {xs : List PV} {vs : List V} {bs : List Addr} : k ∈ js → Ob B A H b x → Fo B A H js (k + 1) xs vs bs → Fo B A H js k (x :: xs) (.ref b :: vs) (b :: bs)
def Kr (E : Ac) (L : List Addr) (H : Hp) : Kd → PV → V → List Addr → Prop
  | .sh, x, v, O => O = [] ∧ Rp E.B (av E L true true) H x v
  | .bor, x, v, O => O = [] ∧ Rp E.B (av E L false true) H x v
  | .own, x, v, O => ∃ a, v = .ref a ∧ O = [a] ∧ Ob E.B (av E L true true) H a x
  | .own2, x, v, O => ∃ a xs as, v = .ref a ∧ O = a :: as ∧ x = .lst xs ∧ H a = some (.lst (as.map V.ref)) ∧ Obs E.B (av E L true true) H xs as
  | .slf, x, v, O => ∃ a, v = .ref a ∧ O = [a] ∧ ((∃ c fs, x = .ins c fs) ∧ a = E.me) ∧ Ob E.B (av E L true true) H a x
  | .slfD j, x, v, O => ∃ a b c fs ws dx y, v = .ref a ∧ O = [a, b] ∧ (x = .ins c fs ∧ a = E.me) ∧ H a = some (.ins (He.ga E.B.K (clsT c).1) dx ws) ∧ ws.map (·.1) = (clsT c).2.take fs.length ∧
      fs[j]? = some y ∧ (ws.map (·.2))[j]? = some (.ref b) ∧ Ob E.B (av E L true true) H b y ∧ RpL E.B (av E L true true) H (fs.set j .non) ((ws.map (·.2)).set j .non)
  | .tt, x, v, O => O = [] ∧ ∃ a xs vs, x = .tup xs ∧ v = .ref a ∧ H a = some (.tup vs) ∧ RpL E.B (av E L true true) H xs vs
  | .deep, x, v, O => RpO E.B (av E L true true) H x v O
  | .exc a d f, x, v, O => O = [] ∧ v = .ref a ∧ (d = none → x = .bag) ∧ ∀ b, d = some b → ¬ av E L true true b ∧ ∃ u, H b = some (.xd [(f, u)]) ∧ Rp E.B (av E L true true) H x u
  | .fz, x, v, O => O = [] ∧ ∃ a od kvs ws, x = .dT kvs ∧ v = .ref a ∧ ¬ av E L false true a ∧ H a = some (.frz od (.dT ws)) ∧ kvs.map (·.1) = ws.map (·.1) ∧ RpL E.B (av E L false true) H (kvs.map (·.2)) (ws.map (·.2))
  | .obj w js, x, v, O => ∃ a c fs ws dx bs, x = .ins c fs ∧ v = .ref a ∧ O = a :: bs ∧ w.ok E.me a ∧ H a = some (.ins (He.ga E.B.K (clsT c).1) dx ws) ∧ ws.map (·.1) = (clsT c).2.take fs.length ∧ Fo E.B (av E L true true) H js 0 fs (ws.map (·.2)) bs
  | .ownA a, x, v, O => v = .ref a ∧ O = [a] ∧ Ob E.B (av E L true true) H a x
abbrev G := List (Option PV)
def kd (ks : List Kd) (i : Nat) : Kd := ks.getD i .sh
structure Rel (E : Ac) (L : List Addr) (ks : List Kd) (γ : G) (σ : St) (H : Hp) : Prop where
  old : ∀ a o, E.H0 a = some o → a ≠ E.B.q → H a = some o
  onn : ∀ a, E.H0 a ≠ none → H a ≠ none
  bag : BagOk E.B H
  a0 : ∀ a, E.A0 a → E.H0 a ≠ none
  aq : E.A0 E.B.q
  ar : E.H0 E.B.r ≠ none
  lf : ∀ a ∈ L, E.H0 a = none ∧ H a ≠ none
  len : γ.length = σ.length
  sl : ∃ O : Nat → List Addr, (∀ i x, γ[i]? = some (some x) → ∃ v, σ[i]? = some (some v) ∧ Kr E L H (kd ks i) x v (O i)) ∧ (∀ i a, a ∈ O i → a ∈ L) ∧
    (∀ i j a, a ∈ O i → a ∈ O j → i = j) ∧ ∀ i, (O i).Nodup
end Vl
namespace Vl
open PySem PySem.Spec L2
section
variable {B : Bg} {A A' : Addr → Prop} {H H' : Hp}
theorem Ob.mv (f : ∀ a o, H a = some o → ¬ A a → H' a = some o) (ft : ∀ a vs, H a = some (.tup vs) → H' a = some (.tup vs)) (g : ∀ a, A' a → H a ≠ none → A a) {a : Addr} (fa : ∀ o, H a = some o → H' a = some o) {x : PV} (h : Ob B A H a x) : Ob B A' H' a x := by
  cases x with
  | lst xs => obtain ⟨vs, h1, h2⟩ := h; exact ⟨vs, fa _ h1, h2.mv f ft g⟩
  | dT kvs => obtain ⟨ws, h1, h2, h3⟩ := h; exact ⟨ws, fa _ h1, h2, h3.mv f ft g⟩
  | dK kvs => obtain ⟨ws, h1, h2, h3⟩ := h; exact ⟨ws, fa _ h1, h2, h3.mv f ft g⟩
  | ins c fs => obtain ⟨dx, ws, h1, h2, h3⟩ := h; exact ⟨dx, ws, fa _ h1, h2, h3.mv f ft g⟩
  | _ => exact h.elim
theorem Obs.mv (f : ∀ a o, H a = some o → ¬ A a → H' a = some o) (ft : ∀ a vs, H a = some (.tup vs) → H' a = some (.tup vs)) (g : ∀ a, A' a → H a ≠ none → A a) : ∀ {xs : List PV} {as : List Addr}, (∀ a ∈ as, ∀ o, H a = some o → H' a = some o) → Obs B A H xs as → Obs B A' H' xs as
  | _, _, _, .nil => .nil
  | _, _, fa, .cons h t => .cons (h.mv f ft g (fa _ (by simp))) (Obs.mv f ft g (fun a m => fa a (by simp [m])) t)
theorem Fo.mv {js : List Nat} (f : ∀ a o, H a = some o → ¬ A a → H' a = some o) (ft : ∀ a vs, H a = some (.tup vs) → H' a = some (.tup vs)) (g : ∀ a, A' a → H a ≠ none → A a) : ∀ {k : Nat} {xs : List PV} {vs : List V} {bs : List Addr}, (∀ a ∈ bs, ∀ o, H a = some o → H' a = some o) → Fo B A H js k xs vs bs → Fo B A' H' js k xs vs bs
  | _, _, _, _, _, .nil => .nil
  | _, _, _, _, fa, .sh n r t => .sh n (r.mv f ft g) (Fo.mv f ft g fa t)
  | _, _, _, _, fa, .own n o t => .own n (o.mv f ft g (fa _ (by simp))) (Fo.mv f ft g (fun a m => fa a (by simp [m])) t)
theorem Fo.len {js : List Nat} : ∀ {k : Nat} {xs : List PV} {vs : List V} {bs : List Addr}, Fo B A H js k xs vs bs → xs.length = vs.length
  | _, _, _, _, .nil => rfl
  | _, _, _, _, .sh _ _ t => by simp [Fo.len t]
  | _, _, _, _, .own _ _ t => by simp [Fo.len t]
mutual
theorem RpO.mv (f : ∀ a o, H a = some o → ¬ A a → H' a = some o) (ft : ∀ a vs, H a = some (.tup vs) → H' a = some (.tup vs)) (g : ∀ a, A' a → H a ≠ none → A a) : ∀ {x : PV} {v : V} {O : List Addr}, (∀ a ∈ O, ∀ o, H a = some o → H' a = some o) → RpO B A H x v O → RpO B A' H' x v O
  | _, _, _, _, .imm e r => .imm e (r.mv f ft g)
  | _, _, _, fa, .lst h r => .lst (fa _ (by simp) _ h) (RpOL.mv f ft g (fun a m => fa a (by simp [m])) r)
  | _, _, _, fa, .tup h r => .tup (h.elim (fun h => .inl (ft _ _ h)) .inr) (RpOL.mv f ft g fa r)
theorem RpOL.mv (f : ∀ a o, H a = some o → ¬ A a → H' a = some o) (ft : ∀ a vs, H a = some (.tup vs) → H' a = some (.tup vs)) (g : ∀ a, A' a → H a ≠ none → A a) : ∀ {x : List PV} {v : List V} {O : List Addr}, (∀ a ∈ O, ∀ o, H a = some o → H' a = some o) → RpOL B A H x v O → RpOL B A' H' x v O
  | _, _, _, _, .nil => .nil
  | _, _, _, fa, .cons h r => .cons (RpO.mv f ft g (fun a m => fa a (by simp [m])) h) (RpOL.mv f ft g (fun a m => fa a (by simp [m])) r)
end
end
section
variable {E : Ac} {L L' : List Addr} {H H' : Hp}
theorem av_mono {a s a' s' : Bool} (ha : a' = true → a = true) (hs : s' = true → s = true) {x : Addr} (h : av E L a' s' x) : av E L a s x := by
  rcases h with h | ⟨h, k⟩ | ⟨h, k⟩
  · exact .inl h
  · exact .inr (.inl ⟨ha h, k⟩)
  · exact .inr (.inr ⟨hs h, k⟩)
theorem av_q {a s : Bool} : av E L a s E.B.q := .inl rfl
/-- a slot stands when all but others' own objects stand -/
theorem Kr.mv (st : ∀ a o, H a = some o → a ≠ E.B.q → (a ∈ L → False) → H' a = some o) (ft : ∀ a vs, H a = some (.tup vs) → H' a = some (.tup vs)) (ls : ∀ a ∈ L', a ∈ L ∨ H a = none)
    {k : Kd} {x : PV} {v : V} {O : List Addr} (fo : ∀ a ∈ O, ∀ o, H a = some o → H' a = some o) (h : Kr E L H k x v O) : Kr E L' H' k x v O := by
  have f1 : ∀ a o, H a = some o → ¬ av E L true true a → H' a = some o := fun a o e n => st a o e (fun z => n (.inl z)) fun z => n (.inr (.inr ⟨rfl, z⟩))
  have f2 : ∀ a o, H a = some o → ¬ av E L false true a → H' a = some o := fun a o e n => st a o e (fun z => n (.inl z)) fun z => n (.inr (.inr ⟨rfl, z⟩))
  have g : ∀ {b : Bool} a, av E L' b true a → H a ≠ none → av E L b true a := fun {b} a z n => by
    rcases z with z | z | ⟨_, z⟩
    · exact .inl z
    · exact .inr (.inl z)
    · exact (ls a z).elim (fun z => .inr (.inr ⟨rfl, z⟩)) fun z => absurd z n
  cases k with
  | sh => exact ⟨h.1, h.2.mv f1 ft g⟩
  | bor => exact ⟨h.1, h.2.mv f2 ft g⟩
  | own => obtain ⟨a, e1, rfl, h⟩ := h; exact ⟨a, e1, rfl, h.mv f1 ft g (fo a (by simp))⟩
  | own2 =>
    obtain ⟨a, xs, as, e1, rfl, e2, h1, h2⟩ := h
    exact ⟨a, xs, as, e1, rfl, e2, fo a (by simp) _ h1, h2.mv f1 ft g fun b m => fo b (by simp [m])⟩
  | slf => obtain ⟨a, e1, rfl, e2, h⟩ := h; exact ⟨a, e1, rfl, e2, h.mv f1 ft g (fo a (by simp))⟩
  | slfD fl =>
    obtain ⟨a, b, c, fs, ws, dx, y, e1, rfl, e2, h1, h2, h3, h4, h5, h6⟩ := h
    exact ⟨a, b, c, fs, ws, dx, y, e1, rfl, e2, fo a (by simp) _ h1, h2, h3, h4, h5.mv f1 ft g (fo b (by simp)), h6.mv f1 ft g⟩
  | tt =>
    obtain ⟨e0, a, xs, vs, e1, e2, h1, h2⟩ := h
    exact ⟨e0, a, xs, vs, e1, e2, ft a vs h1, h2.mv f1 ft g⟩
  | deep => exact RpO.mv f1 ft g fo h
  | exc a d f =>
    obtain ⟨e0, e1, e2, h⟩ := h
    refine ⟨e0, e1, e2, fun b e => ?_⟩
    obtain ⟨n, u, h1, h2⟩ := h b e
    exact ⟨fun z => n (g b z (by rw [h1]; exact nofun)), u, f1 b _ h1 n, h2.mv f1 ft g⟩
  | fz =>
    obtain ⟨e0, a, od, kvs, ws, e1, e2, n, h1, h2, h3⟩ := h
    exact ⟨e0, a, od, kvs, ws, e1, e2, fun z => n (g a z (by rw [h1]; exact nofun)), f2 a _ h1 n, h2, h3.mv f2 ft g⟩
  | obj w js =>
    obtain ⟨a, c, fs, ws, dx, bs, e1, e2, rfl, e3, h1, h2, h3⟩ := h
    exact ⟨a, c, fs, ws, dx, bs, e1, e2, rfl, e3, fo a (by simp) _ h1, h2, h3.mv f1 ft g fun b m => fo b (by simp [m])⟩
  | ownA b => obtain ⟨e1, rfl, h⟩ := h; exact ⟨e1, rfl, h.mv f1 ft g (fo b (by simp))⟩
variable {ks : List Kd} {γ : G} {σ : St}
theorem Rel.lq (R : Rel E L ks γ σ H) {a : Addr} (h : a ∈ L) : a ≠ E.B.q := fun z => R.a0 _ R.aq (by rw [← z]; exact (R.lf a h).1)
theorem Rel.ex (R : Rel E L ks γ σ H) (e : Ex E.B H H') : Rel E L ks γ σ H' where
  old := fun a o h n => e.st a o (R.old a o h n) n
  onn := fun a h => e.nn a (R.onn a h)
  bag := e.bg R.bag
  a0 := R.a0
  aq := R.aq
  ar := R.ar
  lf := fun a h => ⟨(R.lf a h).1, e.nn a (R.lf a h).2⟩
  len := R.len
  sl := by
    obtain ⟨O, h1, h2, h3, h4⟩ := R.sl
    refine ⟨O, fun i x hx => ?_, h2, h3, h4⟩
    obtain ⟨v, hv, k⟩ := h1 i x hx
    exact ⟨v, hv, k.mv (fun a o e1 n _ => e.st a o e1 n) e.tp (fun a z => .inl z) fun a m o e1 => e.st a o e1 (R.lq (h2 i a m))⟩
end
/-- how the heap goes on behind a statement -/
structure Fw (B : Bg) (L : List Addr) (H : Hp) (L' : List Addr) (H' : Hp) : Prop where
  st : ∀ a o, H a = some o → a ∉ L → a ≠ B.q → H' a = some o
  tp : ∀ a vs, H a = some (.tup vs) → H' a = some (.tup vs)
  nn : ∀ a, H a ≠ none → H' a ≠ none
  ls : ∀ a ∈ L', a ∈ L ∨ H a = none
theorem Fw.refl (B : Bg) (L : List Addr) (H : Hp) : Fw B L H L H := ⟨fun _ _ h _ _ => h, fun _ _ h => h, fun _ h => h, fun _ h => .inl h⟩
theorem Fw.trans {B : Bg} {L L1 L2 : List Addr} {H H1 H2 : Hp} (a : Fw B L H L1 H1) (b : Fw B L1 H1 L2 H2) : Fw B L H L2 H2 where
  st := fun c o h n m => b.st c o (a.st c o h n m) (fun z => (a.ls c z).elim n fun e => by rw [h] at e; cases e) m
  tp := fun c v h => b.tp c v (a.tp c v h)
  nn := fun c h => b.nn c (a.nn c h)
  ls := fun c h => (b.ls c h).elim (fun z => a.ls c z) fun e => .inr (by
    cases q : H c with
    | none => rfl
    | some o => exact absurd e (a.nn c (by rw [q]; exact nofun)))
theorem Ex.fw {B : Bg} {L : List Addr} {H H' : Hp} (e : Ex B H H') : Fw B L H L H' := ⟨fun a o h _ n => e.st a o h n, e.tp, e.nn, fun _ h => .inl h⟩
/-- a value that keeps off the own objects stands behind a statement -/
theorem Rp.fw {E : Ac} {L L' : List Addr} {H H' : Hp} {a : Bool} {x : PV} {v : V} (h : Rp E.B (av E L a true) H x v) (f : Fw E.B L H L' H') : Rp E.B (av E L' a true) H' x v :=
  h.mv (fun b o e n => f.st b o e (fun z => n (.inr (.inr ⟨rfl, z⟩))) fun z => n (.inl z)) f.tp fun b z n => by
    rcases z with z | z | ⟨_, z⟩
    · exact .inl z
    · exact .inr (.inl z)
    · exact (f.ls b z).elim (fun z => .inr (.inr ⟨rfl, z⟩)) fun z => absurd z n
theorem RpL.fw {E : Ac} {L L' : List Addr} {H H' : Hp} {a : Bool} {x : List PV} {v : List V} (h : RpL E.B (av E L a true) H x v) (f : Fw E.B L H L' H') : RpL E.B (av E L' a true) H' x v :=
  h.mv (fun b o e n => f.st b o e (fun z => n (.inr (.inr ⟨rfl, z⟩))) fun z => n (.inl z)) f.tp fun b z n => by
    rcases z with z | z | ⟨_, z⟩
    · exact .inl z
    · exact .inr (.inl z)
    · exact (f.ls b z).elim (fun z => .inr (.inr ⟨rfl, z⟩)) fun z => absurd z n
abbrev GE := G → (PV → Prop) → Prop
abbrev GT := G → (Bool → Prop) → Prop
abbrev GA := G → (List PV → Prop) → Prop
structure GD where
  nx : G → Prop
  rt : PV → G → Prop
  bk : G → Prop
  ct : G → Prop
abbrev GS := GD → G → Prop
def tE (K : Fg) (ks : List Kd) (a s : Bool) (p : GE) : TE := fun σ H Q => ∃ (E : Ac) (L : List Addr) (γ : G) (Qp : PV → Prop), E.B.K = K ∧ Rel E L ks γ σ H ∧ p γ Qp ∧
  ∀ x v H', Qp x → Ex E.B H H' → Rp E.B (av E L a s) H' x v → Q v H'
def tT (K : Fg) (ks : List Kd) (p : GT) : TT := fun σ H Q => ∃ (E : Ac) (L : List Addr) (γ : G) (Qp : Bool → Prop), E.B.K = K ∧ Rel E L ks γ σ H ∧ p γ Qp ∧
  ∀ b H', Qp b → Ex E.B H H' → Q b H'
def tA (K : Fg) (ks : List Kd) (a s : Bool) (n : Nat) (p : GA) : TA := fun σ H Q => ∃ (E : Ac) (L : List Addr) (γ : G) (Qp : List PV → Prop), E.B.K = K ∧ Rel E L ks γ σ H ∧ p γ Qp ∧
  ∀ x v H', Qp x → Ex E.B H H' → RpL E.B (av E L a s) H' x v → x.length = n → Q v H'
/-- a new list or dict, which nobody else holds -/
def tN (K : Fg) (ks : List Kd) (p : GE) : TE := fun σ H Q => ∃ (E : Ac) (L : List Addr) (γ : G) (Qp : PV → Prop), E.B.K = K ∧ Rel E L ks γ σ H ∧ p γ Qp ∧
  ∀ x a H', Qp x → Ex E.B H H' → H a = none → Ob E.B (fun b => av E L true true b ∨ b = a) H' a x → Q (.ref a) H'
/-- what is told back -/
def RtOk (E : Ac) (x : PV) (v : V) (H' : Hp) : Prop := Rp E.B E.A0 H' x v ∧ (∀ a o, E.H0 a = some o → a ≠ E.B.q → H' a = some o) ∧ (∀ a, E.H0 a ≠ none → H' a ≠ none) ∧ BagOk E.B H'
def tS (K : Fg) (ks ks' kl : List Kd) (p : GS) : TS := fun D σ H => ∃ (E : Ac) (L : List Addr) (γ : G) (Dp : GD), E.B.K = K ∧ Rel E L ks γ σ H ∧ p Dp γ ∧
  (∀ L' γ' σ' H', Fw E.B L H L' H' → Rel E L' ks' γ' σ' H' → Dp.nx γ' → D.nx σ' H') ∧ (∀ x γ' v H', RtOk E x v H' → Dp.rt x γ' → D.rt v H') ∧
  (∀ L' γ' σ' H', Fw E.B L H L' H' → Rel E L' kl γ' σ' H' → Dp.bk γ' → D.bk σ' H') ∧ (∀ L' γ' σ' H', Fw E.B L H L' H' → Rel E L' kl γ' σ' H' → Dp.ct γ' → D.ct σ' H')
section
variable {X : Cx} {e : Expr} {es : List Expr} {st : Stmt} {sts : List Stmt}
theorem PEi {t t' : TE} (h : PE X e t) (i : ∀ σ H Q, t' σ H Q → t σ H Q) : PE X e t' := ⟨fun pins s σ H Q I q => h.run pins s σ H Q I (i _ _ _ q)⟩
theorem PTi {t t' : TT} (h : PT X e t) (i : ∀ σ H Q, t' σ H Q → t σ H Q) : PT X e t' := ⟨fun pins s σ H Q I q => h.run pins s σ H Q I (i _ _ _ q)⟩
theorem PWi {t t' : TT} (h : PW X e t) (i : ∀ σ H Q, t' σ H Q → t σ H Q) : PW X e t' := ⟨fun w pins s σ H Q I q => h.run w pins s σ H Q I (i _ _ _ q)⟩
theorem PAi {t t' : TA} (h : PA X es t) (i : ∀ σ H Q, t' σ H Q → t σ H Q) : PA X es t' := ⟨fun pos pins s σ H Q I q => h.run pos pins s σ H Q I (i _ _ _ q)⟩
theorem PSi {t t' : TS} (h : PS X st t) (i : ∀ D σ H, t' D σ H → t D σ H) : PS X st t' := ⟨fun pins s σ H D I q => h.run pins s σ H D I (i _ _ _ q)⟩
theorem PSsi {t t' : TS} (h : PSs X sts t) (i : ∀ D σ H, t' D σ H → t D σ H) : PSs X sts t' := ⟨fun pins s σ H D I q => h.run pins s σ H D I (i _ _ _ q)⟩
end
abbrev QE (X : Cx) (ks : List Kd) (a s : Bool) (e : Expr) (p : GE) : Prop := PE X e (tE X.K ks a s p)
abbrev QN (X : Cx) (ks : List Kd) (e : Expr) (p : GE) : Prop := PE X e (tN X.K ks p)
abbrev QT (X : Cx) (ks : List Kd) (e : Expr) (p : GT) : Prop := PT X e (tT X.K ks p)
abbrev QW (X : Cx) (ks : List Kd) (e : Expr) (p : GT) : Prop := PW X e (tT X.K ks p)
abbrev QA (X : Cx) (ks : List Kd) (a s : Bool) (es : List Expr) (p : GA) : Prop := PA X es (tA X.K ks a s es.length p)
abbrev QS (X : Cx) (ks ks' kl : List Kd) (st : Stmt) (p : GS) : Prop := PS X st (tS X.K ks ks' kl p)
abbrev QB (X : Cx) (ks ks' kl : List Kd) (sts : List Stmt) (p : GS) : Prop := PSs X sts (tS X.K ks ks' kl p)
def getO : Option PV → (PV → Prop) → Prop
  | some x, Q => Q x
  | none, _ => False
def getS (γ : G) : Nat → (PV → Prop) → Prop :=
  List.rec (motive := fun _ => Nat → (PV → Prop) → Prop) (fun _ _ => False) (fun a _ ih i Q => Nat.rec (motive := fun _ => Prop) (getO a Q) (fun i _ => ih i Q) i) γ
theorem getS_of : ∀ {γ : G} {i : Nat} {Q : PV → Prop}, getS γ i Q → ∃ x, γ[i]? = some (some x) ∧ Q x
  | [], _, _, h => False.elim h
  | some x :: _, 0, _, h => ⟨x, rfl, h⟩
  | none :: _, 0, _, h => False.elim h
  | none :: l, i + 1, _, h => by simpa using getS_of (γ := l) (i := i) h
  | some _ :: l, i + 1, _, h => by simpa using getS_of (γ := l) (i := i) h
def pVar (i : Nat) : GE := fun γ Q => getS γ i Q
def pC (x : PV) : GE := fun _ Q => Q x
def pOp (o : PV → PV → (PV → Prop) → Prop) (a b : GE) : GE := fun γ Q => a γ fun x => b γ fun y => o x y Q
def pUn (o : PV → (PV → Prop) → Prop) (a : GE) : GE := fun γ Q => a γ fun x => o x Q
def pNil : GA := fun _ Q => Q []
def pCons (a : GE) (t : GA) : GA := fun γ Q => a γ fun x => t γ fun xs => Q (x :: xs)
def pImm (a : GE) : GE := fun γ Q => a γ fun x => imm x = true ∧ Q x
def pCB (o : List PV → (PV → Prop) → Prop) (t : GA) : GE := fun γ Q => t γ fun xs => o xs Q
def pTest (a : GE) : GT := fun γ Q => a γ fun x => match x with | .bl b => Q b | _ => False
def truP : PV → (Bool → Prop) → Prop
  | .non, Q => Q false
  | .bl b, Q => Q b
  | .int i, Q => Q (i != 0)
  | .str x, Q => x.length ≤ sizeLine ∧ Q ((x.length : Int) != 0)
  | .lst xs, Q => Q (!xs.isEmpty)
  | .tup xs, Q => Q (!xs.isEmpty)
  | _, _ => False
def pTru (a : GE) : GT := fun γ Q => a γ fun x => truP x Q
/-- one of two, by a truth -/
def bfi (c : Bool) (A B : Prop) : Prop := match c with
  | true => A
  | false => B
def pAnd (t u : GT) : GT := fun γ Q => t γ fun c => bfi c (u γ Q) (Q false)
def pOr (t u : GT) : GT := fun γ Q => t γ fun c => bfi c (Q true) (u γ Q)
def pNot (t : GT) : GT := fun γ Q => t γ fun c => Q (!c)
def pAndV (a b : GE) : GE := fun γ Q => a γ fun x => truP x fun k => bfi k (b γ Q) (Q x)
def pNotV (a : GE) : GE := fun γ Q => a γ fun x => truP x fun k => Q (.bl (!k))
section
variable {X : Cx} {ks : List Kd} {a s a' s' : Bool} {e e1 e2 : Expr} {es : List Expr} {p p1 p2 : GE} {pa : GA} {pt pt1 pt2 : GT} {pos : Pos}
theorem qe_imm (h : QE X ks a s e p) : QE X ks true true e (pImm p) :=
  PEi h fun σ H Q ⟨E, L, γ, Qp, hK, R, hp, k⟩ => ⟨E, L, γ, _, hK, R, hp, fun x v H' q x1 r => k x v H' q.2 x1 (r.im q.1)⟩
theorem qe_c {x : PV} {v : V} (h : PE X e (tC v)) (r : ∀ (q r : Addr) (A : Addr → Prop) (H : Hp), Rp ⟨X.K, q, r⟩ A H x v) : QE X ks true true e (pC x) :=
  PEi h fun σ H Q ⟨E, L, γ, Qp, hK, R, hp, k⟩ => k x v H hp (.refl _ _) (by
    have := r E.B.q E.B.r (av E L true true) H
    rw [← hK] at this; exact this)
end
end Vl
namespace Vl
open PySem PySem.Spec L2 Lb
/-- what a slot's value keeps off -/
def Kd.ka : Kd → Bool
  | .bor => false
  | _ => true
def Kd.kb : Kd → Bool
  | .sh => true
  | .bor => true
  | .tt => true
  | _ => false
/-- a slot that may be read as a value -/
def Kd.vis : Kd → Bool
  | .exc .. => false
  | .fz => false
  | _ => true
section
variable {X : Cx} {ks : List Kd} {a s a1 s1 a2 s2 : Bool} {e e1 e2 e3 : Expr} {es : List Expr} {p p1 p2 p3 : GE} {pa : GA} {pt pt1 pt2 : GT} {pos : Pos}
theorem qe_int {i : Int} {j} : QE X ks true true (.Constant (.int i) j pos) (pC (.int i)) := qe_c pe_int fun _ _ _ _ => .int i
theorem qe_str {x : Str} {j} : QE X ks true true (.Constant (.str x) j pos) (pC (.str x)) := qe_c pe_str fun _ _ _ _ => .str x
theorem qe_bl {b : Bool} {j} : QE X ks true true (.Constant (.bool b) j pos) (pC (.bl b)) := qe_c pe_bl fun _ _ _ _ => .bl b
theorem Ob.rp {E : Ac} {L : List Addr} {H : Hp} {A : Addr → Prop} {b : Addr} {x : PV} (h : Ob E.B A H b x) (n : ¬ av E L true false b) (g : ∀ c, av E L true false c → A c) : Rp E.B (av E L true false) H x (.ref b) := by
  cases x with
  | lst xs => obtain ⟨vs, h1, h2⟩ := h; exact .lst n h1 (h2.anti g)
  | dT kvs => obtain ⟨ws, h1, h2, h3⟩ := h; exact .dT n h1 h2 rfl rfl rfl (h3.anti g)
  | dK kvs => obtain ⟨ws, h1, h2, h3⟩ := h; exact .dK n h1 h2 rfl rfl rfl (h3.anti g)
  | ins c fs => obtain ⟨dx, ws, h1, h2, h3⟩ := h; exact .ins n h1 h2 rfl (h3.anti g)
  | _ => exact h.elim
theorem Obs.rp {E : Ac} {L : List Addr} {H : Hp} {A : Addr → Prop} (g : ∀ c, av E L true false c → A c) : ∀ {xs : List PV} {as : List Addr}, (∀ b ∈ as, ¬ av E L true false b) → Obs E.B A H xs as → RpL E.B (av E L true false) H xs (as.map V.ref)
  | _, _, _, .nil => .nil
  | _, _, n, .cons h t => .cons (h.rp (n _ (by simp)) g) (Obs.rp g (fun b m => n b (by simp [m])) t)
theorem RpL.unset {B : Bg} {A : Addr → Prop} {H : Hp} : ∀ {xs : List PV} {vs : List V} {j : Nat} {x : PV} {v : V}, xs[j]? = some x → vs[j]? = some v → RpL B A H (xs.set j .non) (vs.set j .non) → Rp B A H x v → RpL B A H xs vs
  | [], _, _, _, _, e, _, _, _ => by simp at e
  | _ :: _, [], _, _, _, _, e, _, _ => by simp at e
  | y :: ys, w :: ws, 0, x, v, e1, e2, h, r => by
    simp at e1 e2; subst e1; subst e2
    cases h with
    | cons _ t => exact .cons r t
  | y :: ys, w :: ws, j + 1, x, v, e1, e2, h, r => by
    cases h with
    | cons q t => exact .cons q (RpL.unset (by simpa using e1) (by simpa using e2) t r)
theorem Rel.noA {E : Ac} {L : List Addr} {γ : G} {σ : St} {H : Hp} (R : Rel E L ks γ σ H) {b : Addr} (h : b ∈ L) : ¬ av E L true false b := by
  rintro (z | ⟨_, z⟩ | ⟨z, _⟩)
  · exact R.lq h z
  · exact R.a0 b z (R.lf b h).1
  · cases z
theorem Fo.rp {E : Ac} {L : List Addr} {H : Hp} {A : Addr → Prop} {js : List Nat} (g : ∀ c, av E L true false c → A c) : ∀ {k : Nat} {xs : List PV} {vs : List V} {bs : List Addr}, (∀ b ∈ bs, ¬ av E L true false b) → Fo E.B A H js k xs vs bs → RpL E.B (av E L true false) H xs vs
  | _, _, _, _, _, .nil => .nil
  | _, _, _, _, n, .sh _ r t => .cons (r.anti g) (Fo.rp g n t)
  | _, _, _, _, n, .own _ o t => .cons (o.rp (n _ (by simp)) g) (Fo.rp g (fun b m => n b (by simp [m])) t)
mutual
theorem RpO.rp {B : Bg} {A A' : Addr → Prop} {H : Hp} (g : ∀ c, A' c → A c) : ∀ {x : PV} {v : V} {O : List Addr}, (∀ b ∈ O, ¬ A' b) → RpO B A H x v O → Rp B A' H x v
  | _, _, _, _, .imm e r => r.im e
  | _, _, _, n, .lst h r => .lst (n _ (by simp)) h (RpOL.rp g (fun b m => n b (by simp [m])) r)
  | _, _, _, n, .tup h r => .tup h (RpOL.rp g n r)
theorem RpOL.rp {B : Bg} {A A' : Addr → Prop} {H : Hp} (g : ∀ c, A' c → A c) : ∀ {x : List PV} {v : List V} {O : List Addr}, (∀ b ∈ O, ¬ A' b) → RpOL B A H x v O → RpL B A' H x v
  | _, _, _, _, .nil => .nil
  | _, _, _, n, .cons h r => .cons (RpO.rp g (fun b m => n b (by simp [m])) h) (RpOL.rp g (fun b m => n b (by simp [m])) r)
end
/-- a slot read -/
theorem Rel.read {E : Ac} {L : List Addr} {γ : G} {σ : St} {H : Hp} {i : Nat} {x : PV} (R : Rel E L ks γ σ H) (h : γ[i]? = some (some x)) (hs : (kd ks i).vis = true) : ∃ v, σ[i]? = some (some v) ∧ Rp E.B (av E L (kd ks i).ka (kd ks i).kb) H x v := by
  obtain ⟨O, h1, h2, h3, h4⟩ := R.sl
  obtain ⟨v, hv, k⟩ := h1 i x h
  refine ⟨v, hv, ?_⟩
  have g : ∀ c, av E L true false c → av E L true true c := fun c z => av_mono (a' := true) (s' := false) id (fun _ => rfl) z
  have m := h2 i
  generalize kd ks i = kk at k hs
  generalize O i = oo at k m
  cases kk with
  | sh => exact k.2
  | bor => exact k.2
  | own => obtain ⟨b, rfl, rfl, k⟩ := k; exact k.rp (R.noA (m b (by simp))) g
  | own2 =>
    obtain ⟨b, xs, as, rfl, rfl, rfl, k1, k2⟩ := k
    exact .lst (R.noA (m b (by simp))) k1 (k2.rp g fun c z => R.noA (m c (by simp [z])))
  | slf => obtain ⟨b, rfl, rfl, _, k⟩ := k; exact k.rp (R.noA (m b (by simp))) g
  | slfD j =>
    obtain ⟨b, c, cl, fs, ws, dx, y, rfl, rfl, ⟨rfl, _⟩, k1, k2, k3, k4, k5, k6⟩ := k
    exact .ins (R.noA (m b (by simp))) k1 k2 rfl (RpL.unset k3 k4 (k6.anti g) (k5.rp (R.noA (m c (by simp))) g))
  | tt =>
    obtain ⟨rfl, b, xs, vs, rfl, rfl, k1, k2⟩ := k
    exact .tup (.inl k1) k2
  | deep => exact RpO.rp g (fun b hb => R.noA (m b hb)) k
  | exc a d f => cases hs
  | fz => cases hs
  | obj w js =>
    obtain ⟨b, c, fs, ws, dx, bs, rfl, rfl, rfl, _, k1, k2, k3⟩ := k
    exact .ins (R.noA (m b (by simp))) k1 k2 rfl (k3.rp g fun d z => R.noA (m d (by simp [z])))
  | ownA b => obtain ⟨rfl, rfl, k⟩ := k; exact k.rp (R.noA (m b (by simp))) g
theorem qe_v (i : Nat) (h : PE X e (tVar i)) (ha : a = (kd ks i).ka := by rfl) (hb : s = (kd ks i).kb := by rfl) (hv : (kd ks i).vis = true := by rfl) : QE X ks a s e (pVar i) := by
  subst ha hb
  exact PEi h fun σ H Q ⟨E, L, γ, Qp, hK, R, hp, k⟩ => by
    obtain ⟨x, hx, q⟩ := getS_of hp
    obtain ⟨v, hv, r⟩ := R.read hx (by assumption)
    exact ⟨v, hv, k x v H q (.refl _ _) r⟩
abbrev PO2 := PV → PV → (PV → Prop) → Prop
/-- r answers as o says, whatever the operands keep off, and tells a value of the same care -/
def OpP (K : Fg) (r : R2) (o : PO2) : Prop := ∀ (B : Bg) (A : Addr → Prop) (H : Hp) (x y : PV) (v u : V) (Q : VK) (Qp : PV → Prop), B.K = K → A B.q → (∀ b, A b → H b ≠ none) → Rp B A H x v → Rp B A H y u → o x y Qp →
  (∀ z t H', Qp z → Ex B H H' → Rp B A H' z t → Q t H') → r v u H Q
theorem av_nn {E : Ac} {L : List Addr} {γ : G} {σ : St} {H : Hp} (R : Rel E L ks γ σ H) {a s : Bool} {b : Addr} (h : av E L a s b) : H b ≠ none := by
  rcases h with h | ⟨_, h⟩ | ⟨_, h⟩
  · rw [h]; exact R.bag.q
  · exact R.onn b (R.a0 b h)
  · exact (R.lf b h).2
theorem qe_op2 {r : R2} {o : PO2} (ho : OpP X.K r o) {e : Expr} (pe : ∀ {ta tb : TE}, PE X e1 ta → PE X e2 tb → PE X e (tOp r ta tb)) (h1 : QE X ks a1 s1 e1 p1) (h2 : QE X ks a2 s2 e2 p2) : QE X ks (a1 && a2) (s1 && s2) e (pOp o p1 p2) :=
  PEi (pe h1 h2) fun σ H Q ⟨E, L, γ, Qp, hK, R, hp, k⟩ => by
    refine ⟨E, L, γ, _, hK, R, hp, fun x v H1 q1 x1 r1 => ⟨E, L, γ, _, hK, R.ex x1, q1, fun y u H2 q2 x2 r2 => ?_⟩⟩
    refine ho E.B (av E L (a1 && a2) (s1 && s2)) H2 x y v u Q Qp hK av_q (fun b z => av_nn ((R.ex x1).ex x2) z) ((r1.ex x2 av_q).anti fun c z => av_mono (fun z => (Bool.and_eq_true _ _ ▸ z).1) (fun z => (Bool.and_eq_true _ _ ▸ z).1) z)
      (r2.anti fun c z => av_mono (fun z => (Bool.and_eq_true _ _ ▸ z).2) (fun z => (Bool.and_eq_true _ _ ▸ z).2) z) q2 fun z t H' qz x3 rz => k z t H' qz (x1.trans (x2.trans x3)) rz
/-- an answer without parts that change -/
def OpS (K : Fg) (r : R2) (o : PO2) : Prop := ∀ (B : Bg) (H : Hp) (x y : PV) (v u : V) (Q : VK) (Qp : PV → Prop), B.K = K → Rp B (fun b => b = B.q) H x v → Rp B (fun b => b = B.q) H y u → o x y Qp →
  (∀ z t H', Qp z → Ex B H H' → (∀ A, Rp B A H' z t) → Q t H') → r v u H Q
theorem Rp.q {E : Ac} {L : List Addr} {a s : Bool} {H : Hp} {x : PV} {v : V} (h : Rp E.B (av E L a s) H x v) : Rp E.B (fun b => b = E.B.q) H x v := h.anti fun c z => .inl z
theorem RpL.q {E : Ac} {L : List Addr} {a s : Bool} {H : Hp} {x : List PV} {v : List V} (h : RpL E.B (av E L a s) H x v) : RpL E.B (fun b => b = E.B.q) H x v := h.anti fun c z => .inl z
theorem qe_opS {r : R2} {o : PO2} (ho : OpS X.K r o) {e : Expr} (pe : ∀ {ta tb : TE}, PE X e1 ta → PE X e2 tb → PE X e (tOp r ta tb)) (h1 : QE X ks a1 s1 e1 p1) (h2 : QE X ks a2 s2 e2 p2) : QE X ks true true e (pOp o p1 p2) :=
  PEi (pe h1 h2) fun σ H Q ⟨E, L, γ, Qp, hK, R, hp, k⟩ => by
    refine ⟨E, L, γ, _, hK, R, hp, fun x v H1 q1 x1 r1 => ⟨E, L, γ, _, hK, R.ex x1, q1, fun y u H2 q2 x2 r2 => ?_⟩⟩
    exact ho E.B H2 x y v u Q Qp hK (r1.ex x2 av_q).q r2.q q2 fun z t H' qz x3 rz => k z t H' qz (x1.trans (x2.trans x3)) (rz _)
theorem qt_opS {r : R2} {o : PO2} (ho : OpS X.K r o) {e : Expr} (pe : ∀ {ta tb : TE}, PE X e1 ta → PE X e2 tb → PT X e (tTest (tOp r ta tb))) (h1 : QE X ks a1 s1 e1 p1) (h2 : QE X ks a2 s2 e2 p2) : QT X ks e (pTest (pOp o p1 p2)) :=
  PTi (pe h1 h2) fun σ H Q ⟨E, L, γ, Qp, hK, R, hp, k⟩ => by
    refine ⟨E, L, γ, _, hK, R, hp, fun x v H1 q1 x1 r1 => ⟨E, L, γ, _, hK, R.ex x1, q1, fun y u H2 q2 x2 r2 => ?_⟩⟩
    refine ho E.B H2 x y v u _ _ hK (r1.ex x2 av_q).q r2.q q2 fun z t H' qz x3 rz => ?_
    have := rz fun _ => False
    cases this <;> first | exact ⟨_, rfl, k _ H' qz (x1.trans (x2.trans x3))⟩ | exact qz.elim
def oAdd : PO2
  | .int i, .int j, Q => Q (.int (i + j))
  | .str x, .str y, Q => x.length + y.length ≤ sizeLine ∧ Q (.str (x ++ y))
  | .lst xs, .lst ys, Q => xs.length + ys.length ≤ sizeLine ∧ Q (.lst (xs ++ ys))
  | .tup xs, .tup ys, Q => xs ≠ [] ∧ xs.length + ys.length ≤ sizeLine ∧ Q (.tup (xs ++ ys))
  | _, _, _ => False
def rAddV (K : Fg) : R2 := fun x y H Q => rAddA x y H Q ∨ rCatT K x y H Q
theorem op_addV : OpR X (binaryOp .Add) (rAddV X.K) := OpR.or op_addA op_catT
theorem RpL.nil_iff {B : Bg} {A : Addr → Prop} {H : Hp} {x : List PV} {v : List V} (h : RpL B A H x v) : x = [] ↔ v = [] := by cases h <;> simp
theorem Rp.new {B : Bg} {A : Addr → Prop} {H : Hp} {x : List PV} {v : List V} {p : Addr} (h : RpL B A H x v) (aq : A B.q) (n : H p = none) (nn : ∀ b, A b → H b ≠ none) : Rp B A (upd H p (.lst v)) (.lst x) (.ref p) :=
  .lst (fun z => nn p z n) upd_same (h.ex (.new n) aq)
theorem Rp.newT {B : Bg} {A : Addr → Prop} {H : Hp} {x : List PV} {v : List V} {p : Addr} (h : RpL B A H x v) (aq : A B.q) (n : H p = none) : Rp B A (upd H p (.tup v)) (.tup x) (.ref p) :=
  .tup (.inl upd_same) (h.ex (.new n) aq)
theorem add_ok {K : Fg} : OpP K (rAddV K) oAdd := by
  intro B A H x y v u Q Qp hK aq nn rx ry h k
  cases rx <;> cases ry <;> first | exact (h : False).elim | skip
  · exact .inl (.inl ⟨_, _, rfl, rfl, k _ _ H h (.refl _ _) (.int _)⟩)
  · exact .inl (.inr (.inl ⟨_, _, rfl, rfl, h.1, k _ _ H h.2 (.refl _ _) (.str _)⟩))
  · rename_i b vs xs n1 h1 r1 c ws ys n2 h2 r2
    exact .inl (.inr (.inr ⟨_, _, _, _, rfl, rfl, h1, h2, by rw [← r1.length, ← r2.length]; exact h.1, fun p np => k _ _ _ h.2 (.new np) (Rp.new (r1.append r2) aq np nn)⟩))
  · rename_i b vs xs h1 r1 c ws ys h2 r2
    subst hK
    refine .inr ⟨_, _, _, _, rfl, rfl, h1.sq, h2.sq, fun z => h.1 (r1.nil_iff.mpr z), by rw [← r1.length, ← r2.length]; exact h.2.1, fun z => ?_, fun z p np => k _ _ _ h.2.2 (.new np) (Rp.newT (r1.append r2) aq np)⟩
    subst z
    cases r2
    have := h.2.2
    rw [List.append_nil] at this
    exact k _ _ H this (.refl _ _) (.tup h1 r1)
def oI (f : Int → Int → PV) : PO2
  | .int i, .int j, Q => Q (f i j)
  | _, _, _ => False
def oIc (C : Int → Int → Prop) (f : Int → Int → PV) : PO2
  | .int i, .int j, Q => C i j ∧ Q (f i j)
  | _, _, _ => False
def flat1 : PV → Bool
  | .non => true
  | .bl _ => true
  | .int _ => true
  | .str _ => true
  | _ => false
theorem oi_ok {K : Fg} {f : Int → Int → V} {g : Int → Int → PV} (h : ∀ i j (B : Bg) A H, Rp B A H (g i j) (f i j)) : OpS K (rI0 f) (oI g) := by
  intro B H x y v u Q Qp hK rx ry q k
  cases rx <;> cases ry <;> first | exact (q : False).elim | skip
  exact ⟨_, _, rfl, rfl, k _ _ H q (.refl _ _) fun A => h _ _ _ _ _⟩
theorem oic_ok {K : Fg} {C : Int → Int → Prop} {f : Int → Int → V} {g : Int → Int → PV} (h : ∀ i j (B : Bg) A H, Rp B A H (g i j) (f i j)) : OpS K (rI C f) (oIc C g) := by
  intro B H x y v u Q Qp hK rx ry q k
  cases rx <;> cases ry <;> first | exact (q : False).elim | skip
  exact ⟨_, _, rfl, rfl, q.1, k _ _ H q.2 (.refl _ _) fun A => h _ _ _ _ _⟩
def oSub : PO2
  | .int i, .int j, Q => Q (.int (i - j))
  | _, _, _ => False
def oPow : PO2
  | .int i, .int j, Q => CPow i j ∧ Q (.int (i ^ j.toNat))
  | _, _, _ => False
theorem OpS.cg {K : Fg} {r : R2} {o o' : PO2} (h : OpS K r o) (i : ∀ x y Q, o' x y Q → o x y Q) : OpS K r o' := fun B H x y v u Q Qp hK rx ry q k => h B H x y v u Q Qp hK rx ry (i _ _ _ q) k
theorem sub_ok {K : Fg} : OpS K rSubA oSub := OpS.cg (o := oI fun i j => .int (i - j)) (oi_ok fun _ _ _ _ _ => .int _) fun x y Q h => by cases x <;> cases y <;> exact h
theorem pow_ok {K : Fg} : OpS K rPowA oPow := OpS.cg (o := oIc CPow fun i j => .int (i ^ j.toNat)) (oic_ok fun _ _ _ _ _ => .int _) fun x y Q h => by cases x <;> cases y <;> exact h
def oMul : PO2
  | .int i, .int j, Q => CMul i j ∧ Q (.int (i * j))
  | .lst xs, .int k, Q => (-(2 ^ 63) ≤ k ∧ k < 2 ^ 63 ∧ xs.length * k.toNat ≤ sizeLine) ∧ Q (.lst (List.replicate k.toNat xs).flatten)
  | .str x, .int k, Q => MulOk x k ∧ Q (.str (Txt.mul x k))
  | _, _, _ => False
def rMulS : R2 := fun x y H Q => ∃ i n, x = .str i ∧ y = .int n ∧ MulOk i n ∧ Q (.str (Txt.mul i n)) H
theorem op_mulS : OpR X (binaryOp .Mult) rMulS := by
  intro pins s σ H x y v u Q I rx ry h
  obtain ⟨i, j, rfl, rfl, hz, q⟩ := h
  obtain ⟨t, rfl⟩ := rx
  obtain ⟨t', rfl⟩ := ry
  exact SB.mul hz fun t' tk => ⟨.str _, H, I.tok _, ⟨_, rfl⟩, q⟩
def rMulV : R2 := fun x y H Q => rMulA x y H Q ∨ rMulS x y H Q
theorem op_mulV : OpR X (binaryOp .Mult) rMulV := OpR.or op_mulA op_mulS
theorem RpL.flat {B : Bg} {A : Addr → Prop} {H : Hp} {x : List PV} {v : List V} (h : RpL B A H x v) : ∀ n, RpL B A H (List.replicate n x).flatten (List.replicate n v).flatten
  | 0 => .nil
  | n + 1 => by rw [List.replicate_succ, List.replicate_succ, List.flatten_cons, List.flatten_cons]; exact h.append (RpL.flat h n)
theorem mul_ok {K : Fg} : OpP K rMulV oMul := by
  intro B A H x y v u Q Qp hK aq nn rx ry h k
  cases rx <;> cases ry <;> first | exact (h : False).elim | skip
  · exact .inl (.inl ⟨_, _, rfl, rfl, h.1, k _ _ H h.2 (.refl _ _) (.int _)⟩)
  · exact .inr ⟨_, _, rfl, rfl, h.1, k _ _ H h.2 (.refl _ _) (.str _)⟩
  · rename_i b vs xs n1 h1 r1 i
    refine .inl (.inr ?_)
    exact ⟨_, _, _, rfl, rfl, h1, h.1.1, h.1.2.1, by rw [← r1.length]; exact h.1.2.2, fun p np => k _ _ _ h.2 (.new np) (Rp.new (r1.flat _) aq np nn)⟩
def oLt : PO2
  | .int i, .int j, Q => Q (.bl (decide (i < j)))
  | .str i, .str j, Q => Q (.bl (decide (i.cps.toList < j.cps.toList)))
  | _, _, _ => False
def oLe : PO2
  | .int i, .int j, Q => Q (.bl (decide (i ≤ j)))
  | _, _, _ => False
def oGt : PO2
  | .int i, .int j, Q => Q (.bl (decide (j < i)))
  | _, _, _ => False
def oGe : PO2
  | .int i, .int j, Q => Q (.bl (decide (j ≤ i)))
  | _, _, _ => False
theorem lt_ok {K : Fg} : OpS K rLtA oLt := by
  intro B H x y v u Q Qp hK rx ry q k
  cases rx <;> cases ry <;> first | exact (q : False).elim | skip
  · exact .inl ⟨_, _, rfl, rfl, k _ _ H q (.refl _ _) fun A => .bl _⟩
  · exact .inr ⟨_, _, rfl, rfl, k _ _ H q (.refl _ _) fun A => .bl _⟩
theorem le_ok {K : Fg} : OpS K rLeA oLe := OpS.cg (o := oI fun i j => .bl (decide (i ≤ j))) (oi_ok fun _ _ _ _ _ => .bl _) fun x y Q h => by cases x <;> cases y <;> exact h
theorem gt_ok {K : Fg} : OpS K rGtA oGt := OpS.cg (o := oI fun i j => .bl (decide (j < i))) (oi_ok fun _ _ _ _ _ => .bl _) fun x y Q h => by cases x <;> cases y <;> exact h
theorem ge_ok {K : Fg} : OpS K rGeA oGe := OpS.cg (o := oI fun i j => .bl (decide (j ≤ i))) (oi_ok fun _ _ _ _ _ => .bl _) fun x y Q h => by cases x <;> cases y <;> exact h
end
mutual
def toD : PV → PyData
  | .non => .none
  | .bl b => .bool b
  | .int i => .int i
  | .str x => .str x
  | .lst xs => .list (toDs xs)
  | .tup xs => .tuple (toDs xs)
  | _ => .none
def toDs : List PV → List PyData
  | [] => []
  | x :: xs => toD x :: toDs xs
/-- plain data of small depth, with texts that stand -/
def dat : Nat → PV → Bool
  | _, .non => true
  | _, .bl _ => true
  | _, .int _ => true
  | _, .str x => PyData.canLay0 (.str x)
  | n + 1, .lst xs => dats n xs
  | n + 1, .tup xs => dats n xs
  | _, _ => false
def dats : Nat → List PV → Bool
  | _, [] => true
  | n, x :: xs => dat n x && dats n xs
end
mutual
theorem dat_dp {B : Bg} {A : Addr → Prop} {H : Hp} : ∀ {x : PV} {v : V} (n : Nat), Rp B A H x v → dat n x = true → Dp B.K H v (toD x)
  | _, _, _, .non, _ => by rw [toD]; exact .non
  | _, _, _, .bl b, _ => by rw [toD]; exact .bl b
  | _, _, _, .int i, _ => by rw [toD]; exact .int i
  | _, _, _, .str x, _ => by rw [toD]; exact .str x
  | _, _, n + 1, .lst _ h r, e => by rw [toD]; exact .lst (.inl (.inl h)) (dats_dp n r (by rw [dat] at e; exact e))
  | _, _, n + 1, .tup h r, e => by rw [toD]; exact .tup h.sq (dats_dp n r (by rw [dat] at e; exact e))
  | _, _, 0, .lst _ h r, e => by simp [dat] at e
  | _, _, 0, .tup h r, e => by simp [dat] at e
  | _, _, n, .ty _, e => by cases n <;> simp [dat] at e
  | _, _, n, .dK _ _ _ _ _ _ _, e => by cases n <;> simp [dat] at e
  | _, _, n, .dT _ _ _ _ _ _ _, e => by cases n <;> simp [dat] at e
  | _, _, n, .ins _ _ _ _ _, e => by cases n <;> simp [dat] at e
  | _, _, n, .cls _, e => by cases n <;> simp [dat] at e
  | _, _, n, .bag, e => by cases n <;> simp [dat] at e
theorem dats_dp {B : Bg} {A : Addr → Prop} {H : Hp} : ∀ {x : List PV} {v : List V} (n : Nat), RpL B A H x v → dats n x = true → DpAll B.K H v (toDs x)
  | _, _, _, .nil, _ => by rw [toDs]; exact .nil
  | _, _, n, .cons a b, e => by
    rw [dats, Bool.and_eq_true] at e
    rw [toDs]; exact .cons (dat_dp n a e.1) (dats_dp n b e.2)
end
mutual
theorem dat_lay : ∀ (n : Nat) (x : PV), dat n x = true → PyData.canLay0 (toD x) = true ∧ PyData.depth (toD x) ≤ n
  | n, .non, _ => by cases n <;> simp [toD, PyData.canLay0, PyData.depth]
  | n, .bl b, _ => by cases n <;> simp [toD, PyData.canLay0, PyData.depth]
  | n, .int i, _ => by cases n <;> simp [toD, PyData.canLay0, PyData.depth]
  | n, .str x, e => by cases n <;> (simp only [dat] at e; simp [toD, PyData.depth, e])
  | n + 1, .lst xs, e => by
    have := dats_lay n xs (by rw [dat] at e; exact e)
    simp [toD, PyData.canLay0, PyData.depth]; exact ⟨this.1, by omega⟩
  | n + 1, .tup xs, e => by
    have := dats_lay n xs (by rw [dat] at e; exact e)
    simp [toD, PyData.canLay0, PyData.depth]; exact ⟨this.1, by omega⟩
  | 0, .lst _, e => by simp [dat] at e
  | 0, .tup _, e => by simp [dat] at e
  | n, .ty _, e => by cases n <;> simp [dat] at e
  | n, .dK _, e => by cases n <;> simp [dat] at e
  | n, .dT _, e => by cases n <;> simp [dat] at e
  | n, .ins _ _, e => by cases n <;> simp [dat] at e
  | n, .cls _, e => by cases n <;> simp [dat] at e
  | n, .bag, e => by cases n <;> simp [dat] at e
theorem dats_lay : ∀ (n : Nat) (x : List PV), dats n x = true → PyData.canLayAll0 (toDs x) = true ∧ PyData.depthAll (toDs x) ≤ n
  | n, [], _ => by simp [toDs, PyData.canLayAll0, PyData.depthAll]
  | n, x :: xs, e => by
    rw [dats, Bool.and_eq_true] at e
    have h1 := dat_lay n x e.1
    have h2 := dats_lay n xs e.2
    simp [toDs, PyData.canLayAll0, PyData.depthAll, h1.1, h2.1]; omega
end
theorem dat_sh {x : PV} (h : dat 8 x = true) : SeqAt.shaped (toD x) = true := by
  have := dat_lay 8 x h
  simp only [SeqAt.shaped, this.1, Bool.true_and, decide_eq_true_eq]; omega
/-- equal as Python says, of data -/
def peq (x y : PV) : Bool := PyData.eqv (toD x) (toD y)
def oEq : PO2 := fun x y Q => dat 8 x = true ∧ dat 8 y = true ∧ Q (.bl (peq x y))
def oNe : PO2 := fun x y Q => dat 8 x = true ∧ dat 8 y = true ∧ Q (.bl (!peq x y))
theorem eq_ok {K : Fg} : OpS K (rEqA K) oEq := by
  intro B H x y v u Q Qp hK rx ry h k
  subst hK
  exact .inr ⟨_, _, dat_dp 8 rx h.1, dat_dp 8 ry h.2.1, dat_sh h.1, dat_sh h.2.1, k _ _ H h.2.2 (.refl _ _) fun A => .bl _⟩
theorem ne_ok {K : Fg} : OpS K (rNeA K) oNe := by
  intro B H x y v u Q Qp hK rx ry h k
  subst hK
  exact .inr ⟨_, _, dat_dp 8 rx h.1, dat_dp 8 ry h.2.1, dat_sh h.1, dat_sh h.2.1, k _ _ H h.2.2 (.refl _ _) fun A => .bl _⟩
end Vl
namespace Vl
open PySem PySem.Spec L2 Lb
section
variable {X : Cx} {ks : List Kd} {a s a1 s1 a2 s2 : Bool} {e e1 e2 e3 : Expr} {es : List Expr} {p p1 p2 p3 : GE} {pa : GA} {pt pt1 pt2 : GT} {pos : Pos}
theorem and_l {a b : Bool} (h : (a && b) = true) : a = true := (Bool.and_eq_true _ _ ▸ h).1
theorem and_r {a b : Bool} (h : (a && b) = true) : b = true := (Bool.and_eq_true _ _ ▸ h).2
theorem truP_ok {B : Bg} {A : Addr → Prop} {H : Hp} {x : PV} {v : V} {Q : Bool → Prop} (r : Rp B A H x v) (h : truP x Q) : ∃ k, TruV B.K v H k ∧ Q k := by
  cases r <;> first | exact (h : False).elim | skip
  · exact ⟨_, rfl, h⟩
  · exact ⟨_, rfl, h⟩
  · exact ⟨_, rfl, h⟩
  · exact ⟨_, ⟨h.1, rfl⟩, h.2⟩
  · rename_i b vs xs n h1 r
    refine ⟨!xs.isEmpty, .inl ⟨vs, .inl (.inl h1), ?_⟩, h⟩
    cases r <;> rfl
  · rename_i b vs xs h1 r
    refine ⟨!xs.isEmpty, .inr (.inl ⟨vs, h1.sq, ?_⟩), h⟩
    cases r <;> rfl
theorem qt_tru (h : QE X ks a s e p) (he : ∀ whole, isTrue e X.env whole = (do let v ← whole; standAt e.pos; holding [v] (truthy v)) := by intro _; rfl) : QT X ks e (pTru p) :=
  PTi (pt_tru h he) fun σ H Q ⟨E, L, γ, Qp, hK, R, hp, k⟩ => by
    refine ⟨E, L, γ, _, hK, R, hp, fun x v H1 q1 x1 r1 => ?_⟩
    obtain ⟨b, hb, q⟩ := truP_ok r1 q1
    exact ⟨b, hK ▸ hb, k b H1 q x1⟩
theorem qt_w (h : QW X ks e pt) : QT X ks e pt := h.pt
theorem qw_and1 (h : QT X ks e pt) : QW X ks (.BoolOp .And [e] pos) pt := pw_and1 h
theorem qw_or1 (h : QT X ks e pt) : QW X ks (.BoolOp .Or [e] pos) pt := pw_or1 h
theorem qw_and {rest : List Expr} (h1 : QT X ks e1 pt1) (h2 : QW X ks (.BoolOp .And (e2 :: rest) pos) pt2) : QW X ks (.BoolOp .And (e1 :: e2 :: rest) pos) (pAnd pt1 pt2) :=
  PWi (pw_and h1 h2) fun σ H Q ⟨E, L, γ, Qp, hK, R, hp, k⟩ => by
    refine ⟨E, L, γ, _, hK, R, hp, fun b H1 q1 x1 => ?_⟩
    cases b with
    | true => rw [if_pos rfl]; exact ⟨E, L, γ, _, hK, R.ex x1, q1, fun b H2 q2 x2 => k b H2 q2 (x1.trans x2)⟩
    | false => exact k false H1 q1 x1
theorem qw_or {rest : List Expr} (h1 : QT X ks e1 pt1) (h2 : QW X ks (.BoolOp .Or (e2 :: rest) pos) pt2) : QW X ks (.BoolOp .Or (e1 :: e2 :: rest) pos) (pOr pt1 pt2) :=
  PWi (pw_or h1 h2) fun σ H Q ⟨E, L, γ, Qp, hK, R, hp, k⟩ => by
    refine ⟨E, L, γ, _, hK, R, hp, fun b H1 q1 x1 => ?_⟩
    cases b with
    | false => exact ⟨E, L, γ, _, hK, R.ex x1, q1, fun b H2 q2 x2 => k b H2 q2 (x1.trans x2)⟩
    | true => rw [if_pos rfl]; exact k true H1 q1 x1
theorem qt_not (h : QT X ks e pt) : QT X ks (.UnaryOp .Not e pos) (pNot pt) :=
  PTi (pt_not h) fun σ H Q ⟨E, L, γ, Qp, hK, R, hp, k⟩ => ⟨E, L, γ, _, hK, R, hp, fun b H1 q1 x1 => k _ H1 q1 x1⟩
theorem qe_andV {rest : List Expr} (h1 : QE X ks a1 s1 e1 p1) (h2 : QE X ks a2 s2 (.BoolOp .And (e2 :: rest) pos) p2) (ha : a = (a1 && a2) := by rfl) (hb : s = (s1 && s2) := by rfl) : QE X ks a s (.BoolOp .And (e1 :: e2 :: rest) pos) (pAndV p1 p2) := by
  subst ha hb
  exact PEi (pe_andT h1 h2) fun σ H Q ⟨E, L, γ, Qp, hK, R, hp, k⟩ => by
    refine ⟨E, L, γ, _, hK, R, hp, fun x v H1 q1 x1 r1 => ?_⟩
    obtain ⟨b, hb, q⟩ := truP_ok r1 q1
    refine ⟨b, hK ▸ hb, ?_⟩
    cases b with
    | true => rw [if_pos rfl]; exact ⟨E, L, γ, _, hK, R.ex x1, q, fun y u H2 q2 x2 r2 => k y u H2 q2 (x1.trans x2) (r2.anti fun c z => av_mono and_r and_r z)⟩
    | false => exact k x v H1 q x1 (r1.anti fun c z => av_mono and_l and_l z)
theorem qe_one {op} (h : QE X ks a s e p) : QE X ks a s (.BoolOp op [e] pos) p := pe_one h
theorem qe_notV (h : QE X ks a s e p) : QE X ks true true (.UnaryOp .Not e pos) (pNotV p) :=
  PEi (pe_notT h) fun σ H Q ⟨E, L, γ, Qp, hK, R, hp, k⟩ => by
    refine ⟨E, L, γ, _, hK, R, hp, fun x v H1 q1 x1 r1 => ?_⟩
    obtain ⟨b, hb, q⟩ := truP_ok r1 q1
    exact ⟨b, hK ▸ hb, k _ _ H1 q x1 (.bl _)⟩
def oNeg : PV → (PV → Prop) → Prop
  | .int i, Q => Q (.int (-i))
  | _, _ => False
theorem qe_neg (h : QE X ks a s e p) : QE X ks true true (.UnaryOp .USub e pos) (pUn oNeg p) :=
  PEi (pe_un un_negA h) fun σ H Q ⟨E, L, γ, Qp, hK, R, hp, k⟩ => by
    refine ⟨E, L, γ, _, hK, R, hp, fun x v H1 q1 x1 r1 => ?_⟩
    cases r1 <;> first | exact (q1 : False).elim | skip
    exact ⟨_, rfl, k _ _ H1 q1 x1 (.int _)⟩
def pChain (o o' : PO2) (a b c : GE) : GE := fun γ Q => a γ fun x => b γ fun y => o x y fun z => match z with | .bl k => bfi k (c γ fun w => o' y w Q) (Q (.bl false)) | _ => False
theorem chain_ok {r r' : R2} {o o' : PO2} (ho : OpS X.K r o) (ho' : OpS X.K r' o') {E : Ac} {L : List Addr} {γ : G} {σ : St} {H : Hp} {Q : VK} {Qp : PV → Prop} (hK : E.B.K = X.K) (R : Rel E L ks γ σ H) (hp : pChain o o' p1 p2 p3 γ Qp)
    (k : ∀ z t H', Qp z → Ex E.B H H' → (∀ A, Rp E.B A H' z t) → Q t H') : tChain r r' (tE X.K ks a1 s1 p1) (tE X.K ks a2 s2 p2) (tE X.K ks a s p3) σ H Q := by
  refine ⟨E, L, γ, _, hK, R, hp, fun x v H1 q1 x1 r1 => ⟨E, L, γ, _, hK, R.ex x1, q1, fun y u H2 q2 x2 r2 => ?_⟩⟩
  refine ho E.B H2 x y v u _ _ hK (r1.ex x2 av_q).q r2.q q2 fun z t H3 qz x3 rz => ?_
  have := rz fun _ => False
  cases this <;> first | exact qz.elim | skip
  rename_i b
  refine ⟨b, rfl, ?_⟩
  cases b with
  | true =>
    rw [if_pos rfl]
    refine ⟨E, L, γ, _, hK, ((R.ex x1).ex x2).ex x3, qz, fun w m H4 q4 x4 r4 => ?_⟩
    exact ho' E.B H4 y w u m Q Qp hK ((r2.ex x3 av_q).ex x4 av_q).q r4.q q4 fun z t H' qz x5 rz => k z t H' qz (x1.trans (x2.trans (x3.trans (x4.trans x5)))) rz
  | false => exact k _ _ H3 qz (x1.trans (x2.trans x3)) fun A => .bl _
theorem qe_chain {op op' : CmpOp} {r r' : R2} {o o' : PO2} (hr : OpR X (compareOp op) r) (hr' : OpR X (compareOp op') r') (ho : OpS X.K r o) (ho' : OpS X.K r' o') (h1 : QE X ks a1 s1 e1 p1) (h2 : QE X ks a2 s2 e2 p2) (h3 : QE X ks a s e3 p3)
    (hm : lastMarks [op, op'] [e2, e3] = false := by with_unfolding_all rfl) : QE X ks true true (.Compare e1 [op, op'] [e2, e3] pos) (pChain o o' p1 p2 p3) :=
  PEi (pe_chain hr hr' h1 h2 h3 hm) fun σ H Q ⟨E, L, γ, Qp, hK, R, hp, k⟩ => chain_ok ho ho' hK R hp fun z t H' qz x rz => k z t H' qz x (rz _)
theorem qt_chain {op op' : CmpOp} {r r' : R2} {o o' : PO2} (hr : OpR X (compareOp op) r) (hr' : OpR X (compareOp op') r') (ho : OpS X.K r o) (ho' : OpS X.K r' o') (h1 : QE X ks a1 s1 e1 p1) (h2 : QE X ks a2 s2 e2 p2) (h3 : QE X ks a s e3 p3)
    (hm : lastMarks [op, op'] [e2, e3] = false := by with_unfolding_all rfl) : QT X ks (.Compare e1 [op, op'] [e2, e3] pos) (pTest (pChain o o' p1 p2 p3)) :=
  PTi (pt_chain hr hr' h1 h2 h3 hm) fun σ H Q ⟨E, L, γ, Qp, hK, R, hp, k⟩ => by
    refine chain_ok ho ho' hK R hp fun z t H' qz x rz => ?_
    have := rz fun _ => False
    cases this <;> first | exact qz.elim | exact ⟨_, rfl, k _ H' qz x⟩
def feq : PV → PV → Bool
  | .non, .non => true
  | .bl a, .bl b => a == b
  | .bl a, .int b => (if a then 1 else 0) == b
  | .int a, .bl b => a == (if b then 1 else 0)
  | .int a, .int b => a == b
  | .str a, .str b => a == b
  | _, _ => false
theorem flat_ok {B : Bg} {A : Addr → Prop} {H : Hp} {x : PV} {v : V} (r : Rp B A H x v) (h : flat1 x = true) : flatV v = true := by
  cases r <;> first | rfl | exact (Bool.false_ne_true h).elim
theorem feq_ok {B : Bg} {A : Addr → Prop} {H : Hp} {x y : PV} {v u : V} (r : Rp B A H x v) (t : Rp B A H y u) (h : flat1 x = true) (h' : flat1 y = true) : eqV v u = feq x y := by
  cases r <;> first | exact (Bool.false_ne_true h).elim | (cases t <;> first | rfl | exact (Bool.false_ne_true h').elim)
theorem feqs_ok {B : Bg} {A : Addr → Prop} {H : Hp} {x : PV} {v : V} (r : Rp B A H x v) (h : flat1 x = true) : ∀ {ys : List PV} {us : List V}, RpL B A H ys us → ys.all flat1 = true → us.all flatV = true ∧ inV v us = ys.any fun y => feq y x
  | _, _, .nil, _ => ⟨rfl, rfl⟩
  | _, _, .cons a b, h' => by
    rw [List.all_cons, Bool.and_eq_true] at h'
    have := feqs_ok r h b h'.2
    refine ⟨by rw [List.all_cons, flat_ok a h'.1, this.1]; rfl, ?_⟩
    show List.any _ _ = _
    rw [List.any_cons, List.any_cons, feq_ok a r h'.1 h, ← this.2]; rfl
def oIn (neg : Bool) : PO2
  | .str c, .str z, Q => c.cps.size = 1 ∧ Q (.bl (if neg then !decide (c.cps.toList.headD 0 ∈ z.cps.toList) else decide (c.cps.toList.headD 0 ∈ z.cps.toList)))
  | x, .lst ys, Q => flat1 x = true ∧ ys.all flat1 = true ∧ Q (.bl (if neg then !ys.any (fun y => feq y x) else ys.any fun y => feq y x))
  | x, .tup ys, Q => flat1 x = true ∧ ys.all flat1 = true ∧ Q (.bl (if neg then !ys.any (fun y => feq y x) else ys.any fun y => feq y x))
  | _, _, _ => False
theorem one_sign {c : Str} (h : c.cps.size = 1) : c = ⟨#[c.cps.toList.headD 0]⟩ := by
  obtain ⟨⟨l⟩⟩ := c
  match l, h with
  | [x], _ => rfl
theorem in_seq {K : Fg} {neg : Bool} {B : Bg} {H : Hp} {x : PV} {v : V} {ys : List PV} {us : List V} {b : Addr} {A : Addr → Prop} {Q : VK} {Qp : PV → Prop} (hK : B.K = K) (rx : Rp B A H x v) (r : RpL B A H ys us) (hs : SqL K H b us ∨ SqT K H b us)
    (h : flat1 x = true ∧ ys.all flat1 = true ∧ Qp (.bl (if neg then !ys.any (fun y => feq y x) else ys.any fun y => feq y x))) (k : ∀ z t H', Qp z → Ex B H H' → (∀ A, Rp B A H' z t) → Q t H') : rIn K neg v (.ref b) H Q := by
  obtain ⟨h1, h2, h3⟩ := h
  have := feqs_ok rx h1 r h2
  refine ⟨b, us, rfl, hs, flat_ok rx h1, this.1, ?_⟩
  rw [this.2]; exact k _ _ H h3 (.refl _ _) fun A => .bl _
theorem in_ok {K : Fg} : OpS K (rInA K) (oIn false) := by
  intro B H x y v u Q Qp hK rx ry h k
  cases ry with
  | lst n h1 r => exact .inr (in_seq hK rx r (.inl (.inl (.inl h1))) (by cases rx <;> exact h) k)
  | tup h1 r => exact .inr (in_seq hK rx r (.inr (hK ▸ h1.sq)) (by cases rx <;> exact h) k)
  | str z =>
    cases rx <;> first | exact (h : False).elim | skip
    exact .inl ⟨_, _, congrArg _ (one_sign h.1), rfl, k _ _ H h.2 (.refl _ _) fun A => .bl _⟩
  | _ => cases rx <;> exact (h : False).elim
theorem notIn_ok {K : Fg} : OpS K (rNotInA K) (oIn true) := by
  intro B H x y v u Q Qp hK rx ry h k
  cases ry with
  | lst n h1 r => exact .inr (in_seq hK rx r (.inl (.inl (.inl h1))) (by cases rx <;> exact h) k)
  | tup h1 r => exact .inr (in_seq hK rx r (.inr (hK ▸ h1.sq)) (by cases rx <;> exact h) k)
  | str z =>
    cases rx <;> first | exact (h : False).elim | skip
    exact .inl ⟨_, _, congrArg _ (one_sign h.1), rfl, k _ _ H h.2 (.refl _ _) fun A => .bl _⟩
  | _ => cases rx <;> exact (h : False).elim
theorem qa_nil : QA X ks true true [] pNil := PAi pa_nil fun σ H Q ⟨E, L, γ, Qp, hK, R, hp, k⟩ => k [] [] H hp (.refl _ _) .nil rfl
theorem qa_cons (h : QE X ks a1 s1 e p) (t : QA X ks a2 s2 es pa) (hs : starEach (e :: es) X.env = (false, eval e X.env) :: starEach es X.env := by rfl) (ha : a = (a1 && a2) := by rfl) (hb : s = (s1 && s2) := by rfl) : QA X ks a s (e :: es) (pCons p pa) := by
  subst ha hb
  exact PAi (pa_cons h t hs) fun σ H Q ⟨E, L, γ, Qp, hK, R, hp, k⟩ => by
    refine ⟨E, L, γ, _, hK, R, hp, fun x v H1 q1 x1 r1 => ⟨E, L, γ, _, hK, R.ex x1, q1, fun xs vs H2 q2 x2 r2 l2 => ?_⟩⟩
    exact k _ _ H2 q2 (x1.trans x2) (.cons ((r1.ex x2 av_q).anti fun c z => av_mono and_l and_l z) (r2.anti fun c z => av_mono and_r and_r z)) (by simp [l2])
def pTup (t : GA) : GE := fun γ Q => t γ fun xs => Q (.tup xs)
def pLst (t : GA) : GE := fun γ Q => t γ fun xs => Q (.lst xs)
theorem few {n : Nat} (h : n ≤ 1000) : n ≤ sizeLine := by rw [sizeLine_eq]; omega
theorem qe_tup {x1} (h : QA X ks a s es pa) (hn : es.length ≤ 1000 := by decide) : QE X ks a s (.Tuple es x1 pos) (pTup pa) :=
  PEi (pe_tup h) fun σ H Q ⟨E, L, γ, Qp, hK, R, hp, k⟩ => by
    refine ⟨E, L, γ, _, hK, R, hp, fun xs vs H1 q1 x1 r1 l1 => ⟨by rw [← r1.length, l1]; exact few hn, fun b nb => ?_⟩⟩
    exact k _ _ _ q1 (x1.trans (.new nb)) (Rp.newT r1 av_q nb)
theorem qe_lst (h : QA X ks a s es pa) (hn : es.length ≤ 1000 := by decide) : QE X ks a s (.List es pos) (pLst pa) :=
  PEi (pe_lst h) fun σ H Q ⟨E, L, γ, Qp, hK, R, hp, k⟩ => by
    refine ⟨E, L, γ, _, hK, R, hp, fun xs vs H1 q1 x1 r1 l1 => ⟨by rw [← r1.length, l1]; exact few hn, fun b nb => ?_⟩⟩
    exact k _ _ _ q1 (x1.trans (.new nb)) (Rp.new r1 av_q nb fun c z => av_nn (R.ex x1) z)
theorem RpL.more {B : Bg} {A : Addr → Prop} {H : Hp} {x : List PV} {v : List V} {b : Addr} (h : RpL B A H x v) (n : H b = none) : RpL B (fun c => A c ∨ c = b) H x v :=
  h.mv (fun _ _ h _ => h) (fun _ _ h => h) fun c z m => z.elim id fun z => absurd (z ▸ n) m
theorem Rp.more {B : Bg} {A : Addr → Prop} {H : Hp} {x : PV} {v : V} {b : Addr} (h : Rp B A H x v) (n : H b = none) : Rp B (fun c => A c ∨ c = b) H x v :=
  h.mv (fun _ _ h _ => h) (fun _ _ h => h) fun c z m => z.elim id fun z => absurd (z ▸ n) m
theorem qn_lst (h : QA X ks true true es pa) (hn : es.length ≤ 1000 := by decide) : QN X ks (.List es pos) (pLst pa) :=
  PEi (pe_lst h) fun σ H Q ⟨E, L, γ, Qp, hK, R, hp, k⟩ => by
    refine ⟨E, L, γ, _, hK, R, hp, fun xs vs H1 q1 x1 r1 l1 => ⟨by rw [← r1.length, l1]; exact few hn, fun b nb => ?_⟩⟩
    exact k _ _ _ q1 (x1.trans (.new nb)) (x1.free nb) ⟨vs, upd_same, (r1.more nb).ex (.new nb) (.inl av_q)⟩
def pFld (c j : Nat) (p : GE) : GE := fun γ Q => p γ fun x => match x with | .ins c' fs => c' = c ∧ getS (fs.map some) j Q | _ => False
theorem lookup_at {ws : List (Str × V)} : ∀ {ns : List Str} {j : Nat} {f : Str} {v : V}, ws.map (·.1) = ns → ns[j]? = some f → (∀ i, i < j → ns[i]? ≠ some f) → (ws.map (·.2))[j]? = some v → ws.lookup f = some v := by
  induction ws with
  | nil => intro ns j f v e h1 h2 h3; simp at h3
  | cons w ws ih =>
    intro ns j f v e h1 h2 h3
    subst e
    obtain ⟨g, u⟩ := w
    cases j with
    | zero =>
      simp at h1 h3; subst h1; subst h3
      simp [List.lookup]
    | succ j =>
      have hne : f ≠ g := fun z => h2 0 (by omega) (by simp [z])
      have : (f == g) = false := by simpa using hne
      simp only [List.lookup, this]
      exact ih rfl (by simpa using h1) (fun i hi => by simpa using h2 (i + 1) (by omega)) (by simpa using h3)
theorem getS_map {xs : List PV} {j : Nat} {Q : PV → Prop} (h : getS (xs.map some) j Q) : ∃ x, xs[j]? = some x ∧ Q x := by
  obtain ⟨x, h1, h2⟩ := getS_of h
  rw [List.getElem?_map] at h1
  cases e : xs[j]? with
  | none => rw [e] at h1; cases h1
  | some y => rw [e] at h1; simp at h1; exact ⟨x, by rw [h1], h2⟩
theorem fldn {c j : Nat} {f : Str} (h : (clsT c).2[j]? = some f ∧ ((clsT c).2.take j).all (fun g => !decide (g = f)) = true) : ∀ i, i < j → (clsT c).2[i]? ≠ some f := by
  intro i hi e
  have h3 : f ∈ (clsT c).2.take j := List.mem_of_getElem? (i := i) (by rw [List.getElem?_take, if_pos hi]; exact e)
  have := List.all_eq_true.mp h.2 f h3
  simp at this
theorem qe_fld (c j : Nat) {f : Str} (cl : Cls X.K (He.ga X.K (clsT c).1)) (na : NoAttr X.K (He.ga X.K (clsT c).1) f) (h : QE X ks a s e p) (hb : attributeBase e f X.env (eval e X.env) = eval e X.env := by rfl)
    (hf : (clsT c).2[j]? = some f ∧ ((clsT c).2.take j).all (fun g => !decide (g = f)) = true := by decide +kernel) : QE X ks a s (.Attribute e f pos) (pFld c j p) :=
  PEi (pe_fld h hb) fun σ H Q ⟨E, L, γ, Qp, hK, R, hp, k⟩ => by
    refine ⟨E, L, γ, _, hK, R, hp, fun x v H1 q1 x1 r1 => ?_⟩
    cases r1 <;> first | exact q1.elim | skip
    rename_i b dx c' ws xs vs n h1 h2 h3 r
    obtain ⟨rfl, q1⟩ := q1
    obtain ⟨y, hy, q⟩ := getS_map q1
    obtain ⟨u, hu, ru⟩ := r.get hy
    have f1 := hf.1
    have f2 := fldn hf
    have hj : j < xs.length := (List.getElem?_eq_some_iff.mp hy).1
    refine ⟨b, _, dx, ws, u, rfl, by rw [← hK]; exact h1, cl, na, lookup_at (j := j) h2 (by rw [List.getElem?_take, if_pos hj]; exact f1) (fun i hi => by rw [List.getElem?_take, if_pos (by omega)]; exact f2 i hi) (by rw [h3]; exact hu), k y u H1 q x1 ru⟩
def oIx : PO2
  | .lst xs, .int i, Q => match atI xs i with | some x => Q x | none => False
  | .tup xs, .int i, Q => match atI xs i with | some x => Q x | none => False
  | .str z, .int i, Q => z.length ≤ sizeLine ∧ match atI z.cps.toList i with | some c => Q (.str ⟨#[c]⟩) | none => False
  | _, _, _ => False
theorem RpL.atI {B : Bg} {A : Addr → Prop} {H : Hp} {x : List PV} {v : List V} (r : RpL B A H x v) {i : Int} {p : PV} (h : atI x i = some p) : ∃ u, atI v i = some u ∧ Rp B A H p u := by
  unfold L2.atI at h ⊢
  rw [r.length] at h
  cases e : ixN v.length i with
  | none => rw [e] at h; cases h
  | some j => rw [e] at h; exact r.get h
theorem ix_ok {K : Fg} : OpP K (rIx K) oIx := by
  intro B A H x y v u Q Qp hK aq nn rx ry h k
  subst hK
  cases rx <;> cases ry <;> first | exact (h : False).elim | skip
  · rename_i z i
    obtain ⟨h1, h2⟩ := h
    cases e : atI z.cps.toList i with
    | none => rw [e] at h2; exact h2.elim
    | some c => rw [e] at h2; exact .inr (.inr ⟨_, _, c, rfl, rfl, h1, e, k _ _ H h2 (.refl _ _) (.str _)⟩)
  · rename_i b vs xs n h1 r i
    cases e : atI xs i with
    | none => simp only [oIx, e] at h
    | some c =>
      simp only [oIx, e] at h
      obtain ⟨u, hu, ru⟩ := r.atI e
      exact .inl ⟨_, _, _, u, rfl, rfl, .inl (.inl h1), hu, k _ _ H h (.refl _ _) ru⟩
  · rename_i b vs xs h1 r i
    cases e : atI xs i with
    | none => simp only [oIx, e] at h
    | some c =>
      simp only [oIx, e] at h
      obtain ⟨u, hu, ru⟩ := r.atI e
      exact .inr (.inl ⟨_, _, _, u, rfl, rfl, h1.sq, hu, k _ _ H h (.refl _ _) ru⟩)
abbrev GO := G → (Option Int → Prop) → Prop
def tO (K : Fg) (ks : List Kd) (p : GO) : TO := fun σ H Q => ∃ (E : Ac) (L : List Addr) (γ : G) (Qp : Option Int → Prop), E.B.K = K ∧ Rel E L ks γ σ H ∧ p γ Qp ∧ ∀ i H', Qp i → Ex E.B H H' → Q i H'
def pNoPart : GO := fun _ Q => Q none
def pPart (p : GE) : GO := fun γ Q => p γ fun x => match x with | .int i => Q (some i) | _ => False
theorem POi {o : Option Expr} {t t' : TO} (h : PO X o t) (i : ∀ σ H Q, t' σ H Q → t σ H Q) : PO X o t' := ⟨fun pins s σ H Q I q => h.run pins s σ H Q I (i _ _ _ q)⟩
abbrev QO (X : Cx) (ks : List Kd) (o : Option Expr) (p : GO) : Prop := PO X o (tO X.K ks p)
theorem qo_none : QO X ks none pNoPart := POi po_none fun σ H Q ⟨E, L, γ, Qp, hK, R, hp, k⟩ => k none H hp (.refl _ _)
theorem qo_some (h : QE X ks a s e p) : QO X ks (some e) (pPart p) := POi (po_some h) fun σ H Q ⟨E, L, γ, Qp, hK, R, hp, k⟩ => by
  refine ⟨E, L, γ, _, hK, R, hp, fun x v H1 q1 x1 r1 => ?_⟩
  cases r1 <;> first | exact q1.elim | exact ⟨_, rfl, k _ H1 q1 x1⟩
def cutP (xs : List PV) (lo hi : Option Int) : List PV := (xs.drop (HT.sIx xs.length 0 lo)).take (HT.sIx xs.length xs.length hi - HT.sIx xs.length 0 lo)
def pSl (p : GE) (l u : GO) : GE := fun γ Q => p γ fun x => l γ fun i => u γ fun j => match x with
  | .lst xs => Q (.lst (cutP xs i j))
  | .str z => z.length ≤ sizeLine ∧ Q (.str (cutS z i j))
  | _ => False
theorem RpL.cut {B : Bg} {A : Addr → Prop} {H : Hp} {x : List PV} {v : List V} (r : RpL B A H x v) (i j : Option Int) : RpL B A H (cutP x i j) (cutV v i j) := by
  unfold cutP cutV; rw [r.length]; exact (r.drop _).take _
def rSlA (K : Fg) : V → Option Int → Option Int → Hp → VK → Prop := fun x i j H Q => rSlL K x i j H Q ∨ rSlS x i j H Q
theorem sl_A : SlR X (rSlA X.K) := SlR.or sl_list sl_str
theorem qe_sl {lo hi : Option Expr} {pl pu : GO} {q2 : Pos} (h : QE X ks a s e p) (hl : QO X ks lo pl) (hu : QO X ks hi pu) : QE X ks a s (.Subscript e (.Slice lo hi none q2) pos) (pSl p pl pu) :=
  PEi (pe_slice sl_A h hl hu) fun σ H Q ⟨E, L, γ, Qp, hK, R, hp, k⟩ => by
    refine ⟨E, L, γ, _, hK, R, hp, fun x v H1 q1 x1 r1 => ⟨E, L, γ, _, hK, R.ex x1, q1, fun i H2 q2 x2 => ⟨E, L, γ, _, hK, (R.ex x1).ex x2, q2, fun j H3 q3 x3 => ?_⟩⟩⟩
    have r3 := (r1.ex x2 av_q).ex x3 av_q
    cases r3 <;> first | exact q3.elim | skip
    · exact .inr ⟨_, rfl, q3.1, k _ _ H3 q3.2 (x1.trans (x2.trans x3)) (.str _)⟩
    · rename_i b vs xs n h1 r
      exact .inl ⟨_, _, rfl, .inl (.inl h1), fun c nc => k _ _ _ q3 (x1.trans (x2.trans (x3.trans (.new nc)))) (Rp.new (r.cut i j) av_q nc fun d z => av_nn (((R.ex x1).ex x2).ex x3) z)⟩
end
end Vl
namespace Vl
open PySem PySem.Spec L2 Lb
abbrev PCl := List PV → (PV → Prop) → Prop
def CallP (K : Fg) (r : List V → Hp → VK → Prop) (o : PCl) : Prop := ∀ (B : Bg) (A : Addr → Prop) (H : Hp) (xs : List PV) (vs : List V) (Q : VK) (Qp : PV → Prop), B.K = K → A B.q → (∀ b, A b → H b ≠ none) → RpL B A H xs vs → o xs Qp →
  (∀ z t H', Qp z → Ex B H H' → Rp B A H' z t → Q t H') → r vs H Q
def CallS (K : Fg) (r : List V → Hp → VK → Prop) (o : PCl) : Prop := ∀ (B : Bg) (H : Hp) (xs : List PV) (vs : List V) (Q : VK) (Qp : PV → Prop), B.K = K → RpL B (fun b => b = B.q) H xs vs → o xs Qp →
  (∀ z t H', Qp z → Ex B H H' → (∀ A, A B.q → (∀ b, A b → H b ≠ none) → Rp B A H' z t) → Q t H') → r vs H Q
section
variable {X : Cx} {ks : List Kd} {a s a1 s1 a2 s2 : Bool} {e e1 e2 e3 : Expr} {es : List Expr} {p p1 p2 p3 : GE} {pa : GA} {pt pt1 pt2 : GT} {pos : Pos}
theorem cbP {r : List V → Hp → VK → Prop} {o : PCl} (ho : CallP X.K r o) {e : Expr} (pe : ∀ {t : TA}, PA X es t → PE X e (tCB r t)) (h : QA X ks a s es pa) : QE X ks a s e (pCB o pa) :=
  PEi (pe h) fun σ H Q ⟨E, L, γ, Qp, hK, R, hp, k⟩ => by
    refine ⟨E, L, γ, _, hK, R, hp, fun xs vs H1 q1 x1 r1 l1 => ?_⟩
    exact ho E.B _ H1 xs vs Q Qp hK av_q (fun b z => av_nn (R.ex x1) z) r1 q1 fun z t H' qz x2 rz => k z t H' qz (x1.trans x2) rz
theorem cbS {r : List V → Hp → VK → Prop} {o : PCl} (ho : CallS X.K r o) {e : Expr} (pe : ∀ {t : TA}, PA X es t → PE X e (tCB r t)) (h : QA X ks a s es pa) : QE X ks true true e (pCB o pa) :=
  PEi (pe h) fun σ H Q ⟨E, L, γ, Qp, hK, R, hp, k⟩ => by
    refine ⟨E, L, γ, _, hK, R, hp, fun xs vs H1 q1 x1 r1 l1 => ?_⟩
    exact ho E.B H1 xs vs Q Qp hK r1.q q1 fun z t H' qz x2 rz => k z t H' qz (x1.trans x2) (rz _ av_q fun b z => av_nn (R.ex x1) z)
def pBools : List PV → Option (List Bool)
  | [] => some []
  | .bl b :: t => (pBools t).map (b :: ·)
  | _ => none
def pInts : List PV → Option (List Int)
  | [] => some []
  | .int b :: t => (pInts t).map (b :: ·)
  | _ => none
def pStrs : List PV → Option (List Str)
  | [] => some []
  | .str b :: t => (pStrs t).map (b :: ·)
  | _ => none
theorem bools_ok {B : Bg} {A : Addr → Prop} {H : Hp} : ∀ {xs : List PV} {vs : List V}, RpL B A H xs vs → ∀ {bs : List Bool}, pBools xs = some bs → vs = bs.map V.bl
  | _, _, .nil, _, e => by cases e; rfl
  | _, _, .cons (x := x) (xs := xs) r t, bs, e => by
    cases r <;> first | (cases e; done) | skip
    rw [pBools] at e
    cases q : pBools xs with
    | none => rw [q] at e; cases e
    | some cs => rw [q] at e; cases e; rw [bools_ok t q]; rfl
theorem ints_ok {B : Bg} {A : Addr → Prop} {H : Hp} : ∀ {xs : List PV} {vs : List V}, RpL B A H xs vs → ∀ {bs : List Int}, pInts xs = some bs → vs = bs.map V.int
  | _, _, .nil, _, e => by cases e; rfl
  | _, _, .cons (x := x) (xs := xs) r t, bs, e => by
    cases r <;> first | (cases e; done) | skip
    rw [pInts] at e
    cases q : pInts xs with
    | none => rw [q] at e; cases e
    | some cs => rw [q] at e; cases e; rw [ints_ok t q]; rfl
theorem strs_ok {B : Bg} {A : Addr → Prop} {H : Hp} : ∀ {xs : List PV} {vs : List V}, RpL B A H xs vs → ∀ {bs : List Str}, pStrs xs = some bs → vs = bs.map V.str
  | _, _, .nil, _, e => by cases e; rfl
  | _, _, .cons (x := x) (xs := xs) r t, bs, e => by
    cases r <;> first | (cases e; done) | skip
    rw [pStrs] at e
    cases q : pStrs xs with
    | none => rw [q] at e; cases e
    | some cs => rw [q] at e; cases e; rw [strs_ok t q]; rfl
theorem bools_map {α : Type} {f : α → Bool} : ∀ l : List α, pBools (l.map fun x => .bl (f x)) = some (l.map f)
  | [] => rfl
  | x :: l => by simp [pBools, bools_map l]
theorem ints_map {α : Type} {f : α → Int} : ∀ l : List α, pInts (l.map fun x => .int (f x)) = some (l.map f)
  | [] => rfl
  | x :: l => by simp [pInts, ints_map l]
theorem strs_map {α : Type} {f : α → Str} : ∀ l : List α, pStrs (l.map fun x => .str (f x)) = some (l.map f)
  | [] => rfl
  | x :: l => by simp [pStrs, strs_map l]
def bLen : PCl
  | [.str z], Q => z.length ≤ sizeLine ∧ Q (.int z.length)
  | [.lst xs], Q => Q (.int xs.length)
  | [.tup xs], Q => Q (.int xs.length)
  | _, _ => False
theorem len_ok {K : Fg} : CallS K (rLen K) bLen := by
  intro B H xs vs Q Qp hK r h k
  subst hK
  match xs, r, h with
  | [_], .cons r .nil, h =>
    cases r <;> first | exact (h : False).elim | skip
    · exact ⟨_, _, rfl, ⟨h.1, rfl⟩, k _ _ H h.2 (.refl _ _) fun A _ _ => .int _⟩
    · rename_i b vs xs n h1 r
      exact ⟨_, vs.length, rfl, .inl ⟨vs, .inl (.inl h1), rfl⟩, k (.int xs.length) _ H h (.refl _ _) fun A _ _ => by rw [r.length]; exact .int _⟩
    · rename_i b vs xs h1 r
      exact ⟨_, vs.length, rfl, .inr ⟨vs, h1.sq, rfl⟩, k (.int xs.length) _ H h (.refl _ _) fun A _ _ => by rw [r.length]; exact .int _⟩
  | [], _, h => exact (h : False).elim
  | _ :: _ :: _, _, h => simp [bLen] at h
def isK : Kn → PV → Option Bool
  | .int, .int _ => some true
  | .int, .bl _ => some true
  | .bool, .bl _ => some true
  | .str, .str _ => some true
  | .list, .lst _ => some true
  | .tuple, .tup _ => some true
  | .dict, .dK _ => some true
  | .dict, .dT _ => some true
  | _, .non => some false
  | _, .bl _ => some false
  | _, .int _ => some false
  | _, .str _ => some false
  | _, .lst _ => some false
  | _, .tup _ => some false
  | _, .dK _ => some false
  | _, .dT _ => some false
  | _, _ => none
def bIs : PCl
  | [x, .ty t], Q => match isK t x with | some b => Q (.bl b) | none => False
  | _, _ => False
def tyn : PV → String
  | .non => "NoneType"
  | .bl _ => "bool"
  | .int _ => "int"
  | .str _ => "str"
  | .lst _ => "list"
  | .tup _ => "tuple"
  | _ => "dict"
theorem kit_ok (t : Kn) (x : PV) (b : Bool) (h : isK t x = some b) : kitB (tyn x) (knS t) = some b := by
  cases t <;> cases x <;> first | (cases h; done) | (cases h; simp only [tyn, knS]; decide +kernel)
theorem isB_ok {K : Fg} : CallS K (rIsB K) bIs := by
  intro B H xs vs Q Qp hK r h k
  subst hK
  match xs, r, h with
  | [], _, h => exact (h : False).elim
  | [_], .cons r .nil, h => cases r <;> exact (h : False).elim
  | _ :: _ :: _ :: _, .cons _ (.cons r _), h => cases r <;> exact (h : False).elim
  | [x, _], .cons rx (.cons ry .nil), h =>
    cases ry <;> first | exact (h : False).elim | skip
    rename_i t
    cases e : isK t x with
    | none => simp only [bIs, e] at h
    | some b =>
      simp only [bIs, e] at h
      have kb := kit_ok t x b e
      refine ⟨_, knS t, tyn x, b, rfl, ?_, kb, k _ _ H h (.refl _ _) fun A _ _ => .bl _⟩
      cases rx with
      | non => exact .base .non
      | bl b => exact .base (.bl b)
      | int i => exact .base (.int i)
      | str x => exact .base (.str x)
      | lst n h r => exact .base (.lst h)
      | tup h r =>
        rcases h with h | ⟨o, its, n, h, c, _⟩
        · exact .base (.tup h)
        · exact .kTuple h c
      | dK n h => exact .base (.dK h)
      | dT n h => exact .base (.dT h)
      | _ => cases t <;> cases e
def bIsC (c : Nat) : PCl
  | [.ins c' _, .cls d], Q => c' = c ∧ d = (clsT c).1 ∧ Q (.bl true)
  | _, _ => False
theorem isC_ok {K : Fg} (c : Nat) : CallS K (rIsC (He.ga K (clsT c).1)) (bIsC c) := by
  intro B H xs vs Q Qp hK r h k
  subst hK
  match xs, r, h with
  | [], _, h => exact (h : False).elim
  | [_], .cons r .nil, h => cases r <;> exact (h : False).elim
  | _ :: _ :: _ :: _, .cons r1 (.cons r _), h => cases r1 <;> cases r <;> exact (h : False).elim
  | [x, _], .cons rx (.cons ry .nil), h =>
    cases rx <;> cases ry <;> first | exact (h : False).elim | skip
    rename_i b dx c' ws xs vs n h1 h2 h3 r d
    obtain ⟨rfl, rfl, h⟩ := h
    exact ⟨b, dx, ws, rfl, h1, k _ _ H h (.refl _ _) fun A _ _ => .bl _⟩
def bInt : PCl
  | [.int i], Q => Q (.int i)
  | [.bl b], Q => Q (.int (if b = true then 1 else 0))
  | _, _ => False
theorem int_ok {K : Fg} : CallS K rInt1 bInt := by
  intro B H xs vs Q Qp hK r h k
  match xs, r, h with
  | [_], .cons r .nil, h =>
    cases r <;> first | exact (h : False).elim | skip
    · exact .inr ⟨_, rfl, k _ _ H h (.refl _ _) fun A _ _ => .int _⟩
    · exact .inl ⟨_, rfl, k _ _ H h (.refl _ _) fun A _ _ => .int _⟩
  | [], _, h => exact (h : False).elim
  | _ :: _ :: _, .cons r _, h => cases r <;> exact (h : False).elim
def bMin2 : PCl
  | [.int i, .int j], Q => Q (.int (if j < i then j else i))
  | _, _ => False
theorem min2_ok {K : Fg} : CallS K rMin2 bMin2 := by
  intro B H xs vs Q Qp hK r h k
  match xs, r, h with
  | [], _, h => exact (h : False).elim
  | [_], .cons r .nil, h => cases r <;> exact (h : False).elim
  | _ :: _ :: _ :: _, .cons r1 (.cons r _), h => cases r1 <;> cases r <;> exact (h : False).elim
  | [x, _], .cons rx (.cons ry .nil), h =>
    cases rx <;> cases ry <;> first | exact (h : False).elim | exact ⟨_, _, rfl, k _ _ H h (.refl _ _) fun A _ _ => .int _⟩
def bBs (f : List Bool → Bool) : PCl
  | [.lst xs], Q => match pBools xs with | some bs => Q (.bl (f bs)) | none => False
  | _, _ => False
theorem bs_ok {K : Fg} {f : List Bool → Bool} : CallS K (fun vs H Q => ∃ (a : Addr) (bs : List Bool), vs = [V.ref a] ∧ SqL K H a (bs.map V.bl) ∧ Q (.bl (f bs)) H) (bBs f) := by
  intro B H xs vs Q Qp hK r h k
  match xs, r, h with
  | [_], .cons r .nil, h =>
    cases r <;> first | exact (h : False).elim | skip
    rename_i b vs xs n h1 r
    cases e : pBools xs with
    | none => simp only [bBs, e] at h
    | some bs =>
      simp only [bBs, e] at h
      exact ⟨b, bs, rfl, .inl (.inl (by rw [h1, bools_ok r e])), k _ _ H h (.refl _ _) fun A _ _ => .bl _⟩
  | [], _, h => exact (h : False).elim
  | _ :: _ :: _, .cons r _, h => cases r <;> exact (h : False).elim
def allB (bs : List Bool) : Bool := bs.all id
theorem all_ok {K : Fg} : CallS K (rAll K) (bBs allB) := bs_ok
def bIn (C : List Int → Prop) (f : List Int → Int) : PCl
  | [.lst xs], Q => match pInts xs with | some bs => C bs ∧ Q (.int (f bs)) | none => False
  | _, _ => False
def maxL : List Int → Int
  | [] => 0
  | [x] => x
  | x :: y :: t => if maxL (y :: t) < x then x else maxL (y :: t)
theorem maxL_spec : ∀ l : List Int, l ≠ [] → maxL l ∈ l ∧ ∀ y ∈ l, y ≤ maxL l
  | [], h => absurd rfl h
  | [x], _ => by simp [maxL]
  | x :: y :: t, _ => by
    obtain ⟨h1, h2⟩ := maxL_spec (y :: t) (by simp)
    rw [maxL]
    split
    · rename_i h
      refine ⟨by simp, fun z hz => ?_⟩
      rcases List.mem_cons.mp hz with rfl | hz
      · exact Int.le_refl _
      · exact Int.le_of_lt (Int.lt_of_le_of_lt (h2 z hz) h)
    · rename_i h
      refine ⟨List.mem_cons_of_mem _ h1, fun z hz => ?_⟩
      rcases List.mem_cons.mp hz with rfl | hz
      · exact Int.not_lt.mp h
      · exact h2 z hz
theorem in_ints {K : Fg} {C : List Int → Prop} {f : List Int → Int} {r : List V → Hp → VK → Prop} (hr : ∀ (a : Addr) (ns : List Int) (H : Hp) (Q : VK), SqL K H a (ns.map V.int) → C ns → Q (.int (f ns)) H → r [.ref a] H Q) : CallS K r (bIn C f) := by
  intro B H xs vs Q Qp hK r h k
  match xs, r, h with
  | [_], .cons r .nil, h =>
    cases r <;> first | exact (h : False).elim | skip
    rename_i b vs xs n h1 r
    cases e : pInts xs with
    | none => simp only [bIn, e] at h
    | some bs =>
      simp only [bIn, e] at h
      exact hr b bs H Q (.inl (.inl (by rw [h1, ints_ok r e]))) h.1 (k _ _ H h.2 (.refl _ _) fun A _ _ => .int _)
  | [], _, h => exact (h : False).elim
  | _ :: _ :: _, .cons r _, h => cases r <;> exact (h : False).elim
theorem max_ok {K : Fg} : CallS K (rMax K) (bIn (fun l => l ≠ []) maxL) := in_ints fun a ns H Q hs c q => ⟨a, ns, rfl, hs, List.length_pos_iff.mpr c, fun m hm hy => by
  have h1 := maxL_spec ns c
  have : m = maxL ns := Int.le_antisymm (h1.2 m hm) (hy _ h1.1)
  rw [this]; exact q⟩
def bTupOf : PCl
  | [.lst xs], Q => Q (.tup xs)
  | [.tup xs], Q => Q (.tup xs)
  | _, _ => False
theorem tupOf_ok {K : Fg} : CallP K (rTupOf K) bTupOf := by
  intro B A H xs vs Q Qp hK aq nn r h k
  subst hK
  match xs, r, h with
  | [_], .cons r .nil, h =>
    cases r <;> first | exact (h : False).elim | skip
    · rename_i b vs xs n h1 r
      exact ⟨_, _, rfl, .inl ⟨.inl (.inl h1), fun p np => k _ _ _ h (.new np) (Rp.newT r aq np)⟩⟩
    · rename_i b vs xs h1 r
      exact ⟨_, _, rfl, .inr ⟨h1.sq, k _ _ _ h (.refl _ _) (.tup h1 r)⟩⟩
  | [], _, h => exact (h : False).elim
  | _ :: _ :: _, .cons r _, h => cases r <;> exact (h : False).elim
def pJoin (p1 p2 : GE) : GE := fun γ Q => p1 γ fun x => match x with
  | .str a => p2 γ fun y => match y with
    | .lst ys => match pStrs ys with | some l => (l.map (·.length)).sum + l.length * a.length ≤ 16777216 ∧ Q (.str (Txt.join a l)) | none => False
    | _ => False
  | _ => False
theorem qe_join {apos : Pos} (h1 : QE X ks a1 s1 e1 p1) (h2 : QE X ks a2 s2 e2 p2) (hs : starEach [e2] X.env = [(false, eval e2 X.env)] := by rfl) (hbase : attributeBase e1 "join" X.env (eval e1 X.env) = eval e1 X.env := by rfl) (hline : (apos.endLine == pos.line) = true := by rfl) :
    QE X ks true true (.Call (.Attribute e1 "join" apos) [e2] [] pos) (pJoin p1 p2) :=
  PEi (pe_join h1 h2 hs hbase hline) fun σ H Q ⟨E, L, γ, Qp, hK, R, hp, k⟩ => by
    refine ⟨E, L, γ, _, hK, R, hp, fun x v H1 q1 x1 r1 => ?_⟩
    cases r1 <;> first | exact q1.elim | skip
    refine ⟨⟨_, rfl⟩, E, L, γ, _, hK, R.ex x1, q1, fun y u H2 q2 x2 r2 => ?_⟩
    cases r2 <;> first | exact q2.elim | skip
    rename_i b vs xs n h1 r
    cases e : pStrs xs with
    | none => simp only [e] at q2
    | some l =>
      simp only [e] at q2
      exact ⟨_, _, l, rfl, rfl, .inl (.inl (.inl (by rw [h1, strs_ok r e]))), q2.1, k _ _ H2 q2.2 (x1.trans x2) (.str _)⟩
mutual
def ckV (K : Fg) : PV → Value → Bool
  | .non, u => decide (u = .none)
  | .bl b, u => decide (u = .bool b)
  | .int i, u => match u with | .int j _ => decide (i = j) | _ => false
  | .str x, u => match u with | .str y _ => decide (x = y) | _ => false
  | .tup xs, u => match u with
    | .ref a => (match K.lookup a with
      | some o => decide (o.cls = .type "tuple") && decide (o.dict = none) && (match o.data with | .seq its _ => decide (its.size ≤ 1000) && ckL K xs its.toList | _ => false)
      | none => false)
    | _ => false
  | _, _ => false
def ckL (K : Fg) : List PV → List Value → Bool
  | [], us => us.isEmpty
  | x :: xs, us => match us with | u :: us => ckV K x u && ckL K xs us | [] => false
end
theorem ck_tup {K : Fg} {xs : List PV} {a : Addr} (h : ckV K (.tup xs) (.ref a) = true) : ∃ (o : Obj) (its : Array Value) (n : Nat), K.lookup a = some o ∧ o.cls = .type "tuple" ∧ o.dict = none ∧ o.data = .seq its n ∧ its.size ≤ sizeLine ∧ ckL K xs its.toList = true := by
  rw [ckV] at h
  cases e : K.lookup a with
  | none => rw [e] at h; cases h
  | some o =>
    rw [e] at h
    simp only [Bool.and_eq_true, decide_eq_true_eq] at h
    obtain ⟨⟨h1, h2⟩, h3⟩ := h
    cases q : o.data with
    | seq its n =>
      rw [q] at h3
      simp only [Bool.and_eq_true, decide_eq_true_eq] at h3
      exact ⟨o, its, n, rfl, h1, h2, q, few h3.1, h3.2⟩
    | _ => rw [q] at h3; cases h3
mutual
theorem ckV_ok {K : Fg} {q r : Addr} {A : Addr → Prop} {H : Hp} : ∀ (x : PV) (u : Value), ckV K x u = true → ∃ v, RelV v u ∧ Rp ⟨K, q, r⟩ A H x v
  | .non, u, h => by
    rw [ckV] at h; have := of_decide_eq_true h; subst this
    exact ⟨.non, rfl, .non⟩
  | .bl b, u, h => by
    rw [ckV] at h; have := of_decide_eq_true h; subst this
    exact ⟨.bl b, rfl, .bl b⟩
  | .int i, u, h => by
    cases u <;> first | (simp [ckV] at h; done) | skip
    simp [ckV] at h; subst h
    exact ⟨.int _, ⟨_, rfl⟩, .int _⟩
  | .str x, u, h => by
    cases u <;> first | (simp [ckV] at h; done) | skip
    simp [ckV] at h; subst h
    exact ⟨.str _, ⟨_, rfl⟩, .str _⟩
  | .tup xs, u, h => by
    cases u <;> first | (simp [ckV] at h; done) | skip
    obtain ⟨o, its, n, h1, h2, _, h3, h4, h5⟩ := ck_tup h
    obtain ⟨vs, hv, hr⟩ := ckL_ok xs its.toList h5
    exact ⟨.ref _, rfl, .tup (.inr ⟨o, its, n, h1, h2, h3, h4, hv⟩) hr⟩
  | .lst _, u, h => by simp [ckV] at h
  | .dK _, u, h => by simp [ckV] at h
  | .dT _, u, h => by simp [ckV] at h
  | .ins _ _, u, h => by simp [ckV] at h
  | .cls _, u, h => by simp [ckV] at h
  | .bag, u, h => by simp [ckV] at h
  | .ty _, u, h => by simp [ckV] at h
theorem ckL_ok {K : Fg} {q r : Addr} {A : Addr → Prop} {H : Hp} : ∀ (x : List PV) (u : List Value), ckL K x u = true → ∃ v, Vals v u ∧ RpL ⟨K, q, r⟩ A H x v
  | [], [], _ => ⟨[], .nil, .nil⟩
  | [], _ :: _, h => by rw [ckL] at h; cases h
  | _ :: _, [], h => by rw [ckL] at h; cases h
  | x :: xs, u :: us, h => by
    rw [ckL, Bool.and_eq_true] at h
    obtain ⟨v, h1, h2⟩ := ckV_ok x u h.1
    obtain ⟨vs, h3, h4⟩ := ckL_ok xs us h.2
    exact ⟨v :: vs, .cons h1 h3, .cons h2 h4⟩
end
/-- a written name's value: x at K's globals -/
def GV (K : Fg) (mg : Str → Option Value) (n : Str) (x : PV) : Prop := ∃ u, mg n = some u ∧ ckV K x u = true
theorem qe_g {n : Str} {x : PV} (h : GV X.K X.mg n x) (hg : Gl X n) (hd : (n == ("__debug__" : Str)) = false := by decide) : QE X ks true true (.Name n pos) (pC x) := by
  obtain ⟨u, h1, h2⟩ := h
  obtain ⟨v, hv, _⟩ := ckV_ok (q := 0) (r := 0) (A := fun _ => False) (H := fun _ => none) x u h2
  refine qe_c (v := v) (pe_glob hg h1 hv hd) fun q r A H => ?_
  obtain ⟨v', hv', hr⟩ := ckV_ok (q := q) (r := r) (A := A) (H := H) x u h2
  have : v = v' := by
    cases hr <;> cases u <;> first | (simp [ckV] at h2; done) | skip
    all_goals (cases v <;> first | (cases hv; done) | skip)
    all_goals (simp [RelV] at hv hv' <;> simp_all)
  rw [this]; exact hr
/-- t.index(x), t a written tuple of texts -/
def pIdxT (ys : List Str) (p : GE) : GE := fun γ Q => p γ fun x => match x with | .str y => y ∈ ys ∧ Q (.int (ys.idxOf y : Nat)) | _ => False
theorem qe_idxT {apos : Pos} {n : Str} {np : Pos} {ys : List Str} (h : GV X.K X.mg n (.tup (ys.map .str))) (hg : Gl X n) (h2 : QE X ks a s e p)
    (pe : ∀ {to : TE} {t : TA}, PE X (.Name n np) to → PA X [e] t → PE X (.Call (.Attribute (.Name n np) "index" apos) [e] [] pos) (tBM X.K "tuple" (rIdxT X.K) to t)) (hs : starEach [e] X.env = [(false, eval e X.env)] := by rfl) (hd : (n == ("__debug__" : Str)) = false := by decide) :
    QE X ks true true (.Call (.Attribute (.Name n np) "index" apos) [e] [] pos) (pIdxT ys p) := by
  obtain ⟨u, h1, hc⟩ := h
  cases u <;> first | (simp [ckV] at hc; done) | skip
  rename_i b
  obtain ⟨o, its, m, e1, e2, e3, e4, e5, e6⟩ := ck_tup hc
  refine PEi (pe (pe_glob (v := .ref b) hg h1 rfl hd) (pa_cons h2 pa_nil hs)) fun σ H Q ⟨E, L, γ, Qp, hK, R, hp, k⟩ => ?_
  refine ⟨.inr (.inl ⟨rfl, o, e1, e2, e3⟩), E, L, γ, _, hK, R, hp, fun x v H1 q1 x1 r1 => ?_⟩
  cases r1 <;> first | exact q1.elim | skip
  refine ⟨b, ys, _, rfl, rfl, .inr ⟨o, its, m, e1, e2, e4, e5, ?_⟩, q1.1, k _ _ H1 q1.2 x1 (.int _)⟩
  obtain ⟨vs, hv, hr⟩ := ckL_ok (q := 0) (r := 0) (A := fun _ => False) (H := fun _ => none) _ _ e6
  have : vs = ys.map V.str := strs_ok hr (by simpa using strs_map (f := id) ys)
  rw [← this]; exact hv
end
end Vl
namespace Vl
open PySem PySem.Spec L2 Lb
section
variable {E : Ac} {L L' : List Addr} {H H' : Hp} {ks : List Kd} {γ : G} {σ : St}
/-- a store to slot i, all else as it stands; the heap may have gone on -/
theorem Rel.put {i : Nat} {k : Kd} {x : PV} {v : V} {O' : List Addr} (R : Rel E L ks γ σ H) (f : Fw E.B L H L' H') (fl : ∀ a ∈ L, a ∉ O' → ∀ o, H a = some o → H' a = some o) (old : ∀ a o, E.H0 a = some o → a ≠ E.B.q → H' a = some o) (bag : BagOk E.B H')
    (ll : ∀ a ∈ L', a ∈ L ∨ E.H0 a = none) (ln : ∀ a ∈ L', H' a ≠ none) (lL : ∀ a ∈ L, a ∈ L')
    (hk : Kr E L' H' k x v O') (hO : ∀ a ∈ O', a ∈ L') (hn : O'.Nodup) (hd : ∀ (O : Nat → List Addr), (∀ j a, a ∈ O j → a ∈ L) → (∀ j j' a, a ∈ O j → a ∈ O j' → j = j') → (∀ j y, γ[j]? = some (some y) → ∃ w, σ[j]? = some (some w) ∧ Kr E L H (kd ks j) y w (O j)) → ∀ j a, j ≠ i → a ∈ O' → a ∉ O j)
    (hi : i < ks.length) : Rel E L' (ks.set i k) (γ.set i (some x)) (σ.set i (some v)) H' where
  old := old
  onn := fun a h => f.nn a (R.onn a h)
  bag := bag
  a0 := R.a0
  aq := R.aq
  ar := R.ar
  lf := fun a h => ⟨(ll a h).elim (fun z => (R.lf a z).1) id, ln a h⟩
  len := by simp [R.len]
  sl := by
    obtain ⟨O, h1, h2, h3, h4⟩ := R.sl
    have hd' := hd O h2 h3 h1
    refine ⟨fun j => if j = i then O' else O j, fun j y hy => ?_, fun j a m => ?_, fun j j' a m m' => ?_, fun j => ?_⟩
    · by_cases hj : j = i
      · subst hj
        have hl : j < γ.length := by
          have := (List.getElem?_eq_some_iff.mp hy).1; simpa using this
        rw [List.getElem?_set_self hl] at hy
        cases hy
        refine ⟨v, by rw [List.getElem?_set_self (by rw [← R.len]; exact hl)], ?_⟩
        show Kr E L' H' _ _ _ (if j = j then O' else O j)
        rw [if_pos rfl]
        have : kd (ks.set j k) j = k := by unfold kd; simp [List.getD, hi]
        rw [this]; exact hk
      · rw [List.getElem?_set_ne (fun z => hj z.symm)] at hy
        obtain ⟨w, hw, kw⟩ := h1 j y hy
        refine ⟨w, by rw [List.getElem?_set_ne (fun z => hj z.symm)]; exact hw, ?_⟩
        show Kr E L' H' _ _ _ (if j = i then O' else O j)
        rw [if_neg hj]
        have : kd (ks.set i k) j = kd ks j := by unfold kd; simp [List.getD, List.getElem?_set_ne (fun z => hj z.symm)]
        rw [this]
        exact kw.mv (fun a o e n nl => f.st a o e nl n) f.tp f.ls fun a m o e => fl a (h2 j a m) (fun z => hd' j a hj z m) o e
    · by_cases hj : j = i
      · simp only [if_pos hj] at m; exact hO a m
      · simp only [if_neg hj] at m; exact lL a (h2 j a m)
    · by_cases hj : j = i <;> by_cases hj' : j' = i
      · rw [hj, hj']
      · simp only [if_pos hj, if_neg hj'] at m m'; exact absurd m' (hd' j' a hj' m)
      · simp only [if_neg hj, if_pos hj'] at m m'; exact absurd m (hd' j a hj m')
      · simp only [if_neg hj, if_neg hj'] at m m'; exact h3 j j' a m m'
    · by_cases hj : j = i
      · simp only [if_pos hj]; exact hn
      · simp only [if_neg hj]; exact h4 j
/-- a plain value to a slot -/
theorem Rel.set {i : Nat} {k : Kd} {x : PV} {v : V} (R : Rel E L ks γ σ H) (hk : Kr E L H k x v []) (hi : i < ks.length) : Rel E L (ks.set i k) (γ.set i (some x)) (σ.set i (some v)) H :=
  R.put (.refl _ _ _) (fun _ _ _ _ h => h) R.old R.bag (fun _ h => .inl h) (fun a h => (R.lf a h).2) (fun _ h => h) hk (fun _ h => nomatch h) List.nodup_nil (fun _ _ _ _ _ _ _ h => nomatch h) hi
theorem set_same {ks : List Kd} {i : Nat} {k : Kd} (h : ks[i]? = some k) : ks.set i k = ks := by
  apply List.ext_getElem?
  intro j
  by_cases hj : i = j
  · subst hj; rw [List.getElem?_set_self (List.getElem?_eq_some_iff.mp h).1, h]
  · rw [List.getElem?_set_ne hj]
/-- slots forgotten -/
def wipeG (γ : G) : List Nat → G
  | [] => γ
  | v :: vs => (wipeG γ vs).set v none
theorem wipeG_some {γ : G} {i : Nat} {x : PV} : ∀ {vs : List Nat}, (wipeG γ vs)[i]? = some (some x) → γ[i]? = some (some x) ∧ i ∉ vs
  | [], h => ⟨h, by simp⟩
  | v :: vs, h => by
    unfold wipeG at h
    by_cases hi : v = i
    · subst hi
      by_cases hv : v < (wipeG γ vs).length
      · rw [List.getElem?_set_self hv] at h; cases h
      · rw [List.getElem?_eq_none (by simpa using hv)] at h; cases h
    · rw [List.getElem?_set_ne hi] at h
      obtain ⟨h1, h2⟩ := wipeG_some h
      exact ⟨h1, by simp only [List.mem_cons, not_or]; exact ⟨fun e => hi e.symm, h2⟩⟩
theorem wipeG_length (γ : G) : ∀ vs : List Nat, (wipeG γ vs).length = γ.length
  | [] => rfl
  | v :: vs => by unfold wipeG; rw [List.length_set, wipeG_length γ vs]
theorem wipe_at {σ : St} {i : Nat} : ∀ {vs : List Nat}, i ∉ vs → (wipe σ vs)[i]? = σ[i]?
  | [], _ => rfl
  | v :: vs, h => by
    simp only [List.mem_cons, not_or] at h
    unfold wipe
    rw [List.getElem?_set_ne (fun z => h.1 z.symm)]
    exact wipe_at h.2
theorem wipe_in {σ : St} {i : Nat} : ∀ {vs : List Nat}, i ∈ vs → i < σ.length → (wipe σ vs)[i]? = some none
  | [], h, _ => nomatch h
  | v :: vs, h, hl => by
    unfold wipe
    by_cases hi : v = i
    · subst hi; rw [List.getElem?_set_self (by rw [wipe_length]; exact hl)]
    · rw [List.getElem?_set_ne hi]
      exact wipe_in ((List.mem_cons.mp h).elim (fun z => absurd z.symm hi) id) hl
theorem Rel.wipe (R : Rel E L ks γ σ H) (vs : List Nat) : Rel E L ks (wipeG γ vs) (wipe σ vs) H where
  old := R.old
  onn := R.onn
  bag := R.bag
  a0 := R.a0
  aq := R.aq
  ar := R.ar
  lf := R.lf
  len := by rw [wipeG_length, wipe_length]; exact R.len
  sl := by
    obtain ⟨O, h1, h2, h3, h4⟩ := R.sl
    refine ⟨O, fun j y hy => ?_, h2, h3, h4⟩
    obtain ⟨e, n⟩ := wipeG_some hy
    obtain ⟨v, hv, k⟩ := h1 j y e
    exact ⟨v, by rw [wipe_at n]; exact hv, k⟩
def SameS (js : List Nat) (σ σ' : St) : Prop := σ'.length = σ.length ∧ ∀ i, i ∉ js → σ'[i]? = σ[i]?
theorem SameS.refl (js : List Nat) (σ : St) : SameS js σ σ := ⟨rfl, fun _ _ => rfl⟩
theorem SameS.trans {js : List Nat} {σ σ1 σ2 : St} (a : SameS js σ σ1) (b : SameS js σ1 σ2) : SameS js σ σ2 := ⟨b.1.trans a.1, fun i h => (b.2 i h).trans (a.2 i h)⟩
theorem SameS.set {js : List Nat} {σ : St} {i : Nat} {v : Option V} (h : i ∈ js) : SameS js σ (σ.set i v) := ⟨by simp, fun j n => List.getElem?_set_ne (fun z => n (by rw [← z]; exact h))⟩
theorem SameS.wipe {js vs : List Nat} {σ σ' : St} (h : SameS js (L2.wipe σ vs) σ') (s : ∀ j ∈ js, j ∈ vs) : L2.wipe σ' vs = L2.wipe σ vs := by
  have hl : σ'.length = σ.length := by rw [h.1, wipe_length]
  apply List.ext_getElem?
  intro i
  by_cases hi : i ∈ vs
  · by_cases hn : i < σ.length
    · rw [wipe_in hi hn, wipe_in hi (by omega)]
    · rw [List.getElem?_eq_none (by rw [wipe_length]; omega), List.getElem?_eq_none (by rw [wipe_length]; omega)]
  · rw [wipe_at hi, h.2 i (fun z => hi (s i z)), wipe_at hi]
end
abbrev GG := PV → G → (G → Prop) → Prop
abbrev GGs := List PV → G → (G → Prop) → Prop
def tG (K : Fg) (ks : List Kd) (a s : Bool) (js : List Nat) (g : GG) : TG := fun v σ H Q => ∃ (E : Ac) (L : List Addr) (γ : G) (x : PV) (Qp : G → Prop), E.B.K = K ∧ Rel E L ks γ σ H ∧ Rp E.B (av E L a s) H x v ∧ g x γ Qp ∧
  ∀ γ' σ', Qp γ' → Rel E L ks γ' σ' H → SameS js σ σ' → Q σ' H
def tGs (K : Fg) (ks : List Kd) (a s : Bool) (js : List Nat) (g : GGs) : TGs := fun v σ H Q => ∃ (E : Ac) (L : List Addr) (γ : G) (x : List PV) (Qp : G → Prop), E.B.K = K ∧ Rel E L ks γ σ H ∧ RpL E.B (av E L a s) H x v ∧ g x γ Qp ∧
  ∀ γ' σ', Qp γ' → Rel E L ks γ' σ' H → SameS js σ σ' → Q σ' H
def pgName (i : Nat) : GG := fun x γ Q => Q (γ.set i (some x))
def pgsNil : GGs := fun xs γ Q => match xs with | [] => Q γ | _ => False
def pgsCons (g : GG) (t : GGs) : GGs := fun xs γ Q => match xs with | x :: xs => g x γ fun γ1 => t xs γ1 Q | [] => False
def pgTup (t : GGs) : GG := fun x γ Q => match x with | .tup xs => t xs γ Q | _ => False
section
variable {X : Cx} {ks : List Kd} {a s : Bool} {js : List Nat} {tg e : Expr} {es : List Expr} {g : GG} {gs : GGs} {pos : Pos}
theorem PGi {t t' : TG} (h : PG X tg t) (i : ∀ v σ H Q, t' v σ H Q → t v σ H Q) : PG X tg t' := ⟨fun pins s σ H v u Q I r q => h.run pins s σ H v u Q I r (i _ _ _ _ q)⟩
theorem PGsi {t t' : TGs} (h : PGs X es t) (i : ∀ v σ H Q, t' v σ H Q → t v σ H Q) : PGs X es t' := ⟨fun pins s σ H v u Q I r q => h.run pins s σ H v u Q I r (i _ _ _ _ q)⟩
abbrev QG (X : Cx) (ks : List Kd) (a s : Bool) (js : List Nat) (tg : Expr) (g : GG) : Prop := PG X tg (tG X.K ks a s js g)
abbrev QGs (X : Cx) (ks : List Kd) (a s : Bool) (js : List Nat) (es : List Expr) (g : GGs) : Prop := PGs X es (tGs X.K ks a s js g)
/-- what a slot of a kind takes -/
def takes (k : Kd) (a s : Bool) : Bool := match k with
  | .sh => a && s
  | .bor => s
  | _ => false
theorem takes_ok {E : Ac} {L : List Addr} {H : Hp} {k : Kd} {x : PV} {v : V} (h : takes k a s = true) (r : Rp E.B (av E L a s) H x v) : Kr E L H k x v [] := by
  cases k with
  | sh => rw [takes, Bool.and_eq_true] at h; exact ⟨rfl, by rw [h.1, h.2] at r; exact r⟩
  | bor => have h : s = true := h; subst h; exact ⟨rfl, r.anti fun c z => av_mono (a' := false) (s' := true) (fun z => nomatch z) (fun _ => rfl) z⟩
  | _ => cases h
theorem getElem?_kd {ks : List Kd} {i : Nat} {k : Kd} (h : ks[i]? = some k) : kd ks i = k := by unfold kd; simp [List.getD, h]
theorem qg_name {i : Nat} {k : Kd} (hg : PG X tg (gName i)) (hk : ks[i]? = some k := by rfl) (ht : takes k a s = true := by rfl) (hj : i ∈ js := by decide) : QG X ks a s js tg (pgName i) :=
  PGi hg fun v σ H Q ⟨E, L, γ, x, Qp, hK, R, r, hp, q⟩ => q _ _ hp (by
    have := R.set (i := i) (takes_ok ht r) (List.getElem?_eq_some_iff.mp hk).1
    rw [set_same hk] at this; exact this) (.set hj)
theorem qgs_nil : QGs X ks a s js [] pgsNil :=
  PGsi pgs_nil fun v σ H Q ⟨E, L, γ, x, Qp, hK, R, r, hp, q⟩ => by
    cases r with
    | nil => exact ⟨rfl, q _ _ hp R (.refl _ _)⟩
    | cons _ _ => exact (hp : False).elim
theorem qgs_cons (h : QG X ks a s js e g) (t : QGs X ks a s js es gs) (hs : (assignEach (e :: es) X.env).map (·.2) = assign e X.env :: (assignEach es X.env).map (·.2) := by rfl) : QGs X ks a s js (e :: es) (pgsCons g gs) :=
  PGsi (pgs_cons h t hs) fun v σ H Q ⟨E, L, γ, x, Qp, hK, R, r, hp, q⟩ => by
    cases r with
    | nil => exact (hp : False).elim
    | cons r1 r2 => exact ⟨_, _, rfl, E, L, γ, _, _, hK, R, r1, hp, fun γ1 σ1 q1 R1 s1 => ⟨E, L, γ1, _, _, hK, R1, r2, q1, fun γ2 σ2 q2 R2 s2 => q _ _ q2 R2 (s1.trans s2)⟩⟩
theorem qg_tup {k : Nat} {n : Nat} (hc : X.calm = true) (h : QGs X ks a s js es gs) (hl : ∀ xs γ Q, gs xs γ Q → xs.length = n) (hn : (assignEach es X.env).length = n := by rfl) (hst : (assignEach es X.env).findIdx? (·.1) = none := by rfl) : QG X ks a s js (.Tuple es k pos) (pgTup gs) :=
  PGi (pg_tup hc h hn hst) fun v σ H Q ⟨E, L, γ, x, Qp, hK, R, r, hp, q⟩ => by
    cases r with
    | tup h1 r => exact ⟨_, _, rfl, hK ▸ h1.sq, by rw [← r.length]; exact hl _ _ _ hp, E, L, γ, _, Qp, hK, R, r, hp, q⟩
    | _ => exact (hp : False).elim
theorem gl0 : ∀ xs γ Q, pgsNil xs γ Q → xs.length = 0
  | [], _, _, _ => rfl
  | _ :: _, _, _, h => (h : False).elim
/-- a pure target asks for its continuation -/
def Mono (gs : GGs) (n : Nat) : Prop := ∀ xs γ Q, gs xs γ Q → xs.length = n
def MonoG (g : GG) : Prop := ∀ x γ (Q : G → Prop), g x γ Q → ∃ γ', Q γ'
theorem mg_name {i : Nat} : MonoG (pgName i) := fun _ _ _ h => ⟨_, h⟩
theorem ml_nil : Mono pgsNil 0 := gl0
theorem ml_cons {n : Nat} (h : MonoG g) (t : Mono gs n) : Mono (pgsCons g gs) (n + 1) := fun xs γ Q k => by
  cases xs with
  | nil => exact (k : False).elim
  | cons x xs =>
    obtain ⟨γ', q⟩ := h _ _ _ (show g x γ _ from k)
    simp [t _ _ _ q]
end
structure ItOk (E : Ac) (L : List Addr) (H : Hp) (a : Bool) (xs : List PV) (J : It) : Prop where
  ex : ∃ P : List Addr → Hp → Prop, P L H ∧ (∀ L H L' H', P L H → Fw E.B L H L' H' → P L' H') ∧
    (∀ i L H, P L H → i < xs.length → J.go i H ∧ ∀ v H', J.yld i H v H' → Ex E.B H H' ∧ ∃ x, xs[i]? = some x ∧ Rp E.B (av E L a true) H' x v) ∧ ∀ i L H, P L H → xs.length ≤ i → J.stop i H
def tI (K : Fg) (ks : List Kd) (a : Bool) (p : GA) : TI := fun σ H R => ∃ (E : Ac) (L : List Addr) (γ : G) (Qp : List PV → Prop), E.B.K = K ∧ Rel E L ks γ σ H ∧ p γ Qp ∧ ∀ xs J H', Qp xs → Ex E.B H H' → ItOk E L H' a xs J → R J H'
abbrev QI (X : Cx) (ks : List Kd) (a : Bool) (tg e : Expr) (p : GA) : Prop := PI X tg e (tI X.K ks a p)
section
variable {X : Cx} {ks : List Kd} {a s a1 a2 : Bool} {tg e e1 e2 : Expr} {es : List Expr} {p p1 p2 : GE} {pa : GA} {pos : Pos}
theorem PIi {t t' : TI} (h : PI X tg e t) (i : ∀ σ H R, t' σ H R → t σ H R) : PI X tg e t' := ⟨fun pins s σ H R I q => h.run pins s σ H R I (i _ _ _ q)⟩
def pItL (p : GE) : GA := fun γ Q => p γ fun x => match x with | .lst xs => Q xs | _ => False
def pItT (p : GE) : GA := fun γ Q => p γ fun x => match x with | .tup xs => Q xs | _ => False
def chars (z : Str) : List PV := z.cps.toList.map fun c => .str ⟨#[c]⟩
def pItS (p : GE) : GA := fun γ Q => p γ fun x => match x with | .str z => Q (chars z) | _ => False
def upTo (i : Int) (n : Nat) : List PV := (List.range n).map fun k => .int (i + (k : Nat))
def pRng (p : GE) : GA := fun γ Q => p γ fun x => match x with | .int j => (-(2 ^ 62) ≤ j ∧ j < 2 ^ 62) ∧ Q (upTo 0 j.toNat) | _ => False
/-- a list that is not changed meanwhile -/
def LstP (E : Ac) (a : Bool) (b : Addr) (xs : List PV) (vs : List V) : List Addr → Hp → Prop := fun L H => H b = some (.lst vs) ∧ b ∉ L ∧ b ≠ E.B.q ∧ RpL E.B (av E L a true) H xs vs
theorem LstP.fw {E : Ac} {a : Bool} {b : Addr} {xs : List PV} {vs : List V} {L L' : List Addr} {H H' : Hp} (h : LstP E a b xs vs L H) (f : Fw E.B L H L' H') : LstP E a b xs vs L' H' :=
  ⟨f.st _ _ h.1 h.2.1 h.2.2.1, fun z => (f.ls b z).elim h.2.1 (fun e => by rw [h.1] at e; cases e), h.2.2.1, h.2.2.2.fw f⟩
def TupP (E : Ac) (a : Bool) (b : Addr) (xs : List PV) (vs : List V) : List Addr → Hp → Prop := fun L H => STp E.B.K H b vs ∧ RpL E.B (av E L a true) H xs vs
theorem TupP.fw {E : Ac} {a : Bool} {b : Addr} {xs : List PV} {vs : List V} {L L' : List Addr} {H H' : Hp} (h : TupP E a b xs vs L H) (f : Fw E.B L H L' H') : TupP E a b xs vs L' H' :=
  ⟨h.1.elim (fun h => .inl (f.tp _ _ h)) .inr, h.2.fw f⟩
theorem nav {E : Ac} {L : List Addr} {a : Bool} {b : Addr} (n : ¬ av E L a true b) : b ∉ L ∧ b ≠ E.B.q := ⟨fun z => n (.inr (.inr ⟨rfl, z⟩)), fun z => n (.inl z)⟩
theorem qi_lst (h : QE X ks a true e p) : QI X ks a tg e (pItL p) :=
  PIi (pi_list h) fun σ H R ⟨E, L, γ, Qp, hK, Rl, hp, k⟩ => by
    refine ⟨E, L, γ, _, hK, Rl, hp, fun x v H1 q1 x1 r1 => ?_⟩
    cases r1 <;> first | exact q1.elim | skip
    rename_i b vs xs n h1 r
    refine ⟨b, rfl, ⟨vs, .inl (.inl h1)⟩, k xs _ H1 q1 x1 ⟨LstP E a b xs vs, ⟨h1, (nav n).1, (nav n).2, r⟩, fun _ _ _ _ h f => h.fw f, fun i L H h hi => ?_, fun i L H h hi => ?_⟩⟩
    · obtain ⟨u, hu, ru⟩ := h.2.2.2.get (List.getElem?_eq_getElem hi)
      refine ⟨⟨vs, u, .inl (.inl h.1), hu⟩, fun v H' ⟨e1, e2⟩ => ?_⟩
      subst e1
      have := e2 vs (.inl (.inl h.1))
      rw [hu] at this; cases this
      exact ⟨.refl _ _, _, List.getElem?_eq_getElem hi, ru⟩
    · exact ⟨vs, .inl (.inl h.1), by rw [← h.2.2.2.length]; exact hi⟩
theorem qi_tup (h : QE X ks a true e p) : QI X ks a tg e (pItT p) :=
  PIi (pi_tup h) fun σ H R ⟨E, L, γ, Qp, hK, Rl, hp, k⟩ => by
    refine ⟨E, L, γ, _, hK, Rl, hp, fun x v H1 q1 x1 r1 => ?_⟩
    cases r1 <;> first | exact q1.elim | skip
    rename_i b vs xs h1 r
    refine ⟨b, rfl, ⟨vs, hK ▸ h1.sq⟩, k xs _ H1 q1 x1 ⟨TupP E a b xs vs, ⟨h1, r⟩, fun _ _ _ _ h f => h.fw f, fun i L H h hi => ?_, fun i L H h hi => ?_⟩⟩
    · obtain ⟨u, hu, ru⟩ := h.2.get (List.getElem?_eq_getElem hi)
      refine ⟨⟨vs, u, hK ▸ h.1.sq, hu⟩, fun v H' ⟨e1, e2⟩ => ?_⟩
      subst e1
      have := e2 vs (hK ▸ h.1.sq)
      rw [hu] at this; cases this
      exact ⟨.refl _ _, _, List.getElem?_eq_getElem hi, ru⟩
    · exact ⟨vs, hK ▸ h.1.sq, by rw [← h.2.length]; exact hi⟩
theorem qi_str (h : QE X ks a s e p) : QI X ks true tg e (pItS p) :=
  PIi (pi_str h) fun σ H R ⟨E, L, γ, Qp, hK, Rl, hp, k⟩ => by
    refine ⟨E, L, γ, _, hK, Rl, hp, fun x v H1 q1 x1 r1 => ?_⟩
    cases r1 <;> first | exact q1.elim | skip
    rename_i z
    have hl : (chars z).length = z.cps.size := by simp [chars]
    refine ⟨z, rfl, k _ _ H1 q1 x1 ⟨fun _ _ => True, trivial, fun _ _ _ _ _ _ => trivial, fun i L H _ hi => ⟨by show i < z.cps.size; omega, fun v H' ⟨e1, c, e2, e3⟩ => ?_⟩, fun i L H _ hi => by show z.cps.size ≤ i; omega⟩⟩
    subst e1; subst e3
    exact ⟨.refl _ _, .str ⟨#[c]⟩, by simp [chars, e2], .str _⟩
theorem qi_rng {q1 : Pos} (hg : Gl X "range") (hm : X.mg "range" = none) (h : QE X ks a s e p) (hs : starEach [e] X.env = [(false, eval e X.env)] := by rfl) : QI X ks true tg (.Call (.Name "range" q1) [e] [] pos) (pRng p) :=
  PIi (pi_range1 hg hm (pa_cons h pa_nil hs) hs) fun σ H R ⟨E, L, γ, Qp, hK, Rl, hp, k⟩ => by
    refine ⟨E, L, γ, _, hK, Rl, hp, fun x v H1 q1 x1 r1 => ?_⟩
    cases r1 <;> first | exact q1.elim | skip
    rename_i j
    have hl : (upTo 0 j.toNat).length = j.toNat := by simp [upTo]
    refine ⟨j, rfl, q1.1.1, q1.1.2, k _ _ H1 q1.2 x1 ⟨fun _ _ => True, trivial, fun _ _ _ _ _ _ => trivial, fun i L H _ hi => ⟨by show i < j.toNat; omega, fun v H' ⟨e1, e2⟩ => ?_⟩, fun i L H _ hi => by show j.toNat ≤ i; omega⟩⟩
    subst e1; subst e2
    exact ⟨.refl _ _, .int (0 + (i : Nat)), by simp [upTo, List.getElem?_map, List.getElem?_range (show i < j.toNat by omega)], .int _⟩
end
end Vl
namespace Vl
open PySem PySem.Spec L2 Lb
def pYes : GT := fun _ Q => Q true
def lcP (g : GG) (t : GT) (e : GE) (γ : G) : List PV → (List PV → Prop) → Prop
  | [], Q => Q []
  | x :: xs, Q => g x γ fun γ2 => t γ2 fun b => bfi b (e γ2 fun y => lcP g t e γ xs fun ys => Q (y :: ys)) (lcP g t e γ xs Q)
def pLc (vs : List Nat) (it : GA) (g : GG) (t : GT) (e : GE) : GE := fun γ Q => it γ fun xs => xs.length ≤ sizeLine ∧ lcP g t e (wipeG γ vs) xs fun ys => Q (.lst ys)
section
variable {X : Cx} {ks : List Kd} {a s a1 a2 : Bool} {tg e : Expr} {ifs : List Expr} {p : GE} {pa : GA} {g : GG} {pt : GT} {pos : Pos} {js vs : List Nat}
abbrev QTs (X : Cx) (ks : List Kd) (ifs : List Expr) (p : GT) : Prop := PTs X ifs (tT X.K ks p)
theorem qts_nil : QTs X ks [] pYes := ⟨fun pins s σ H Q I ⟨E, L, γ, Qp, hK, R, hp, k⟩ => pts_nil.run pins s σ H Q I (k true H hp (.refl _ _))⟩
theorem qts_one (h : QT X ks e pt) : QTs X ks [e] pt := pts_one h
/-- a new object's address joins the own ones -/
theorem Rel.more {E : Ac} {L : List Addr} {γ : G} {σ : St} {H H' : Hp} {D : Addr} (R : Rel E L ks γ σ H) (x : Ex E.B H H') (n : H D = none) (m : H' D ≠ none) : Rel E (D :: L) ks γ σ H' where
  old := (R.ex x).old
  onn := (R.ex x).onn
  bag := (R.ex x).bag
  a0 := R.a0
  aq := R.aq
  ar := R.ar
  lf := fun a h => by
    rcases List.mem_cons.mp h with rfl | h
    · refine ⟨?_, m⟩
      cases q : E.H0 a with
      | none => rfl
      | some o => exact absurd n (R.onn a (by rw [q]; exact nofun))
    · exact ⟨(R.lf a h).1, x.nn a (R.lf a h).2⟩
  len := R.len
  sl := by
    obtain ⟨O, h1, h2, h3, h4⟩ := R.sl
    refine ⟨O, fun i y hx => ?_, fun i a m => List.mem_cons_of_mem _ (h2 i a m), h3, h4⟩
    obtain ⟨v, hv, k⟩ := h1 i y hx
    exact ⟨v, hv, k.mv (fun a u e n _ => x.st a u e n) x.tp (fun a m => (List.mem_cons.mp m).elim (fun z => .inr (by rw [z]; exact n)) .inl) fun a m u e => x.st a u e (R.lq (h2 i a m))⟩
theorem Fw.more {B : Bg} {L : List Addr} {H H' : Hp} {D : Addr} (x : Ex B H H') (n : H D = none) : Fw B L H (D :: L) H' where
  st := fun a u e _ m => x.st a u e m
  tp := x.tp
  nn := x.nn
  ls := fun a m => (List.mem_cons.mp m).elim (fun z => .inr (by rw [z]; exact n)) .inl
theorem Ex.inner {B : Bg} {H H' : Hp} {D : Addr} {o : HO} (x : Ex B H H') (n : H D = none) (b : BagOk B H) : Ex B H (upd H' D o) := by
  have k : ∀ a u, H a = some u → a ≠ D := fun a u e => ne_of_none e n
  refine ⟨fun a u e m => by rw [upd_ne (k a u e)]; exact x.st a u e m, fun a u e => by rw [upd_ne (k a _ e)]; exact x.tp a u e, fun a h => ?_, fun _ => ?_⟩
  · by_cases z : a = D
    · rw [z, upd_same]; exact nofun
    · rw [upd_ne z]; exact x.nn a h
  · have hb := x.bg b
    obtain ⟨_, _, _, _, h1, h2, _⟩ := b
    exact hb.stay (fun u e => by rw [upd_ne (k _ _ h1)]; exact e) fun u e => by rw [upd_ne (k _ _ h2)]; exact e
theorem RpL.inner {E : Ac} {L : List Addr} {a : Bool} {H : Hp} {D : Addr} {o : HO} {x : List PV} {v : List V} (h : RpL E.B (av E (D :: L) a true) H x v) (nt : ∀ vs, H D ≠ some (.tup vs)) : RpL E.B (av E (D :: L) a true) (upd H D o) x v :=
  h.mv (fun b u e n => by rw [upd_ne (fun z => n (.inr (.inr ⟨rfl, by rw [z]; simp⟩)))]; exact e) (fun b u e => by rw [upd_ne (fun z => nt u (by rw [← z]; exact e))]; exact e) fun _ z _ => z
theorem Rp.inner {E : Ac} {L : List Addr} {a : Bool} {H : Hp} {D : Addr} {o : HO} {x : PV} {v : V} (h : Rp E.B (av E (D :: L) a true) H x v) (nt : ∀ vs, H D ≠ some (.tup vs)) : Rp E.B (av E (D :: L) a true) (upd H D o) x v :=
  h.mv (fun b u e n => by rw [upd_ne (fun z => n (.inr (.inr ⟨rfl, by rw [z]; simp⟩)))]; exact e) (fun b u e => by rw [upd_ne (fun z => nt u (by rw [← z]; exact e))]; exact e) fun _ z _ => z
/-- the loop of a list comprehension by plain values -/
theorem lc_ok {E : Ac} {L : List Addr} {γ : G} {σ : St} {H : Hp} {Q : VK} {Qp : PV → Prop} (hK : E.B.K = X.K) (R : Rel E L ks γ σ H) (hp : pLc vs pa g pt p γ Qp) (hj : ∀ j ∈ js, j ∈ vs)
    (k : ∀ ys acc D H', Qp (.lst ys) → Ex E.B H H' → H D = none → H' D = some (.lst acc) → RpL E.B (av E (D :: L) a true) H' ys acc → Q (.ref D) H') :
    tLc (tI X.K ks a1 pa) (tG X.K ks a1 true js g) (tT X.K ks pt) (tE X.K ks a true p) vs σ H Q := by
  refine ⟨E, L, γ, _, hK, R, hp, fun xs J H1 ⟨hz, hq⟩ x1 ⟨P, p0, pf, pg, ps⟩ D nD => ?_⟩
  have R1 := R.ex x1
  have nH : H D = none := x1.free nD
  refine ⟨fun i m H => m = xs.length - i ∧ ∃ acc ys Qk, Ex E.B H1 H ∧ H D = some (.lst acc) ∧ RpL E.B (av E (D :: L) a true) H ys acc ∧ ys.length ≤ i ∧ lcP g pt p (wipeG γ vs) (xs.drop i) Qk ∧ ∀ zs, Qk zs → Qp (.lst (ys ++ zs)), ⟨_, rfl, [], [], _, .new nD, upd_same, .nil, by simp, hq, fun zs q => q⟩, ?_⟩
  rintro i m H2 ⟨rfl, acc, ys, Qk, x2, hD, ra, hl, hk, hQ⟩
  have Rm : Rel E (D :: L) ks γ σ H2 := R1.more x2 nD (by rw [hD]; exact nofun)
  have f2 : Fw E.B L H1 (D :: L) H2 := .more x2 nD
  by_cases hi : i < xs.length
  · right
    obtain ⟨go, yl⟩ := pg i (D :: L) H2 (pf _ _ _ _ p0 f2) hi
    refine ⟨go, fun H' => ∃ m', m' < xs.length - i ∧ (m' = xs.length - (i + 1) ∧ ∃ acc ys Qk, Ex E.B H1 H' ∧ H' D = some (.lst acc) ∧ RpL E.B (av E (D :: L) a true) H' ys acc ∧ ys.length ≤ i + 1 ∧ lcP g pt p (wipeG γ vs) (xs.drop (i + 1)) Qk ∧ ∀ zs, Qk zs → Qp (.lst (ys ++ zs))), fun H' h => h, fun v H3 hy => ?_⟩
    obtain ⟨x3, y, hy, ry⟩ := yl v H3 hy
    have hd : xs.drop i = y :: xs.drop (i + 1) := by
      rw [List.drop_eq_getElem_cons hi]
      rw [List.getElem?_eq_getElem hi] at hy; cases hy; rfl
    rw [hd] at hk
    have R3 := (Rm.ex x3).wipe vs
    refine ⟨E, D :: L, wipeG γ vs, y, _, hK, R3, ry, hk, fun γ2 σ2 q2 R4 ss => ⟨ss.wipe hj, E, D :: L, γ2, _, hK, R4, q2, fun b H4 q4 x4 => ?_⟩⟩
    have hDl : D ∈ D :: L := by simp
    cases b with
    | false =>
      refine ⟨_, by omega, rfl, acc, ys, Qk, x2.trans (x3.trans x4), x4.st _ _ (x3.st _ _ hD (Rm.lq hDl)) (Rm.lq hDl), (ra.ex x3 av_q).ex x4 av_q, by omega, q4, hQ⟩
    | true =>
      show if true = true then _ else _
      rw [if_pos rfl]
      refine ⟨E, D :: L, γ2, _, hK, R4.ex x4, q4, fun z t H5 q5 x5 r5 => ?_⟩
      have x6 := x3.trans (x4.trans x5)
      have hD5 := x6.st _ _ hD (Rm.lq hDl)
      have nt : ∀ vs, H5 D ≠ some (.tup vs) := fun vs => by rw [hD5]; exact nofun
      have ra5 := ra.ex x6 av_q
      refine ⟨acc, hD5, by rw [← ra.length]; omega, _, by omega, rfl, acc ++ [t], ys ++ [z], _, (x2.trans x6).inner nD R1.bag, upd_same, (ra5.inner nt).append (.cons (r5.inner nt) .nil), by simp; omega, q5, fun zs q => by simpa using hQ _ q⟩
  · left
    have hi := Nat.not_lt.mp hi
    refine ⟨ps i (D :: L) H2 (pf _ _ _ _ p0 f2) hi, ?_⟩
    rw [List.drop_eq_nil_of_le hi] at hk
    exact k ys acc D H2 (by simpa using hQ [] hk) (x1.trans x2) nH hD ra
theorem av_cons {E : Ac} {L : List Addr} {a s : Bool} {D c : Addr} (h : av E L a s c) : av E (D :: L) a s c := by
  rcases h with h | h | ⟨h, m⟩
  · exact .inl h
  · exact .inr (.inl h)
  · exact .inr (.inr ⟨h, List.mem_cons_of_mem _ m⟩)
theorem qe_lc {elt iter : Expr} {scope : Scope} {own : List (Str × Nat)} (pe : ∀ {wi : TI} {g : TG} {tt : TT} {te : TE}, PI X tg iter wi → (∀ (s : Shared) (H : Hp) (C : Addr) (cl : List (Str × Addr)) (fp : List Addr), PG (X.blk s H scope (compEnvC scope cl C X.env) fp) tg g) →
      (∀ (s : Shared) (H : Hp) (C : Addr) (cl : List (Str × Addr)) (fp : List Addr), PTs (X.blk s H scope (compEnvC scope cl C X.env) fp) ifs tt) → (∀ (s : Shared) (H : Hp) (C : Addr) (cl : List (Str × Addr)) (fp : List Addr), PE (X.blk s H scope (compEnvC scope cl C X.env) fp) elt te) → PE X e (tLc wi g tt te (own.map (·.2))))
    (hi : QI X ks a1 tg iter pa) (hg : ∀ (s : Shared) (H : Hp) (C : Addr) (cl : List (Str × Addr)) (fp : List Addr), QG (X.blk s H scope (compEnvC scope cl C X.env) fp) ks a1 true (own.map (·.2)) tg g)
    (ht : ∀ (s : Shared) (H : Hp) (C : Addr) (cl : List (Str × Addr)) (fp : List Addr), QTs (X.blk s H scope (compEnvC scope cl C X.env) fp) ks ifs pt) (he : ∀ (s : Shared) (H : Hp) (C : Addr) (cl : List (Str × Addr)) (fp : List Addr), QE (X.blk s H scope (compEnvC scope cl C X.env) fp) ks a true elt p) :
    QE X ks a true e (pLc (own.map (·.2)) pa g pt p) :=
  PEi (pe hi hg ht he) fun σ H Q ⟨E, L, γ, Qp, hK, R, hp, k⟩ => lc_ok hK R hp (fun _ h => h) fun ys acc D H' q x n h r => k _ _ H' q x (.lst (fun z => av_nn R z n) h (r.anti fun c z => av_cons z))
end
end Vl
namespace Vl
open PySem PySem.Spec L2 Lb
def pNext : GS := fun D γ => D.nx γ
def pSeq (p q : GS) : GS := fun D γ => p { D with nx := q D } γ
def pRet (e : GE) : GS := fun D γ => e γ fun x => D.rt x γ
def pRetN : GS := fun D γ => D.rt .non γ
def pIf (t : GT) (p q : GS) : GS := fun D γ => t γ fun b => bfi b (p D γ) (q D γ)
def pNever : GS := fun _ _ => False
def pDrop (e : GE) : GS := fun D γ => e γ fun _ => D.nx γ
def pSet (i : Nat) (e : GE) : GS := fun D γ => e γ fun x => D.nx (γ.set i (some x))
def pAsg (e : GE) (g : GG) : GS := fun D γ => e γ fun x => g x γ D.nx
def forP (g : GG) (b : GS) (D : GD) : List PV → G → Prop
  | [], γ => D.nx γ
  | x :: xs, γ => g x γ fun γ1 => b { D with nx := forP g b D xs, ct := forP g b D xs, bk := D.nx } γ1
def pFor (it : GA) (g : GG) (b : GS) : GS := fun D γ => it γ fun xs => forP g b D xs γ
def pApp (i : Nat) (e : GE) : GS := fun D γ => getS γ i fun x => match x with | .lst xs => e γ fun y => xs.length < sizeLine ∧ D.nx (γ.set i (some (.lst (xs ++ [y])))) | _ => False
def pFldS (c j : Nat) (e : GE) : GS := fun D γ => e γ fun y => getS γ 0 fun x => match x with
  | .ins c' fs => c' = c ∧ j ≤ fs.length ∧ D.nx (γ.set 0 (some (.ins c' (if j = fs.length then fs ++ [y] else fs.set j y))))
  | _ => False
section
variable {X : Cx} {ks ks' ks1 kl : List Kd} {a s a1 s1 a2 s2 : Bool} {e e1 e2 tg : Expr} {es : List Expr} {st : Stmt} {sts sts' : List Stmt} {p p1 p2 : GE} {pa : GA} {pt : GT} {ps q : GS} {g g' : GG} {pos : Pos} {js js' : List Nat}
theorem qb_nil : QB X ks ks kl [] pNext := PSsi pss_nil fun D σ H ⟨E, L, γ, Dp, hK, R, hp, nx, rt, bk, ct⟩ => nx L γ σ H (.refl _ _ _) R hp
theorem qb_one (h : QS X ks ks' kl st ps) : QB X ks ks' kl [st] ps := pss_one h
theorem qb_cons (h1 : QS X ks ks1 kl st ps) (h2 : QB X ks1 ks' kl sts q) : QB X ks ks' kl (st :: sts) (pSeq ps q) :=
  PSsi (pss_cons h1 h2) fun D σ H ⟨E, L, γ, Dp, hK, R, hp, nx, rt, bk, ct⟩ =>
    ⟨E, L, γ, { Dp with nx := q Dp }, hK, R, hp, fun L1 γ1 σ1 H1 f1 R1 q1 => ⟨E, L1, γ1, Dp, hK, R1, q1, fun L2 γ2 σ2 H2 f2 R2 q2 => nx L2 γ2 σ2 H2 (f1.trans f2) R2 q2, rt, fun L2 γ2 σ2 H2 f2 R2 q2 => bk L2 γ2 σ2 H2 (f1.trans f2) R2 q2, fun L2 γ2 σ2 H2 f2 R2 q2 => ct L2 γ2 σ2 H2 (f1.trans f2) R2 q2⟩, rt, bk, ct⟩
/-- a block that never ends behind its last statement may stand for any kinds -/
theorem qs_ret (h : QE X ks true s e p) : QS X ks ks' kl (.Return (some e) pos) (pRet p) :=
  PSi (ps_ret h) fun D σ H ⟨E, L, γ, Dp, hK, R, hp, nx, rt, bk, ct⟩ => ⟨E, L, γ, _, hK, R, hp, fun x v H1 q1 x1 r1 =>
    rt x γ v H1 ⟨r1.anti fun c z => .inr (.inl ⟨rfl, z⟩), (R.ex x1).old, (R.ex x1).onn, (R.ex x1).bag⟩ q1⟩
theorem qs_never : QS X ks ks' kl st pNever := PSi ps_never fun D σ H ⟨E, L, γ, Dp, hK, R, hp, _⟩ => hp
theorem qs_expr (h : QE X ks a s e p) (hs : swapsWith e none pos.line X.env = pure false := by rfl) : QS X ks ks kl (.Expr e pos) (pDrop p) :=
  PSi (ps_expr h hs) fun D σ H ⟨E, L, γ, Dp, hK, R, hp, nx, rt, bk, ct⟩ => ⟨E, L, γ, _, hK, R, hp, fun x v H1 q1 x1 r1 => nx L γ σ H1 x1.fw (R.ex x1) q1⟩
theorem qs_if (ht : QT X ks e pt) (h1 : QB X ks ks' kl sts ps) (h2 : QB X ks ks' kl sts' q) : QS X ks ks' kl (.If e sts sts' pos) (pIf pt ps q) :=
  PSi (ps_if ht h1 h2) fun D σ H ⟨E, L, γ, Dp, hK, R, hp, nx, rt, bk, ct⟩ => by
    refine ⟨E, L, γ, _, hK, R, hp, fun b H1 q1 x1 => ?_⟩
    have f : ∀ {L' H'}, Fw E.B L H1 L' H' → Fw E.B L H L' H' := fun f => Fw.trans x1.fw f
    cases b with
    | true => show if true = true then _ else _; rw [if_pos rfl]; exact ⟨E, L, γ, Dp, hK, R.ex x1, q1, fun L2 γ2 σ2 H2 f2 R2 q2 => nx L2 γ2 σ2 H2 (f f2) R2 q2, rt, fun L2 γ2 σ2 H2 f2 R2 q2 => bk L2 γ2 σ2 H2 (f f2) R2 q2, fun L2 γ2 σ2 H2 f2 R2 q2 => ct L2 γ2 σ2 H2 (f f2) R2 q2⟩
    | false => exact ⟨E, L, γ, Dp, hK, R.ex x1, q1, fun L2 γ2 σ2 H2 f2 R2 q2 => nx L2 γ2 σ2 H2 (f f2) R2 q2, rt, fun L2 γ2 σ2 H2 f2 R2 q2 => bk L2 γ2 σ2 H2 (f f2) R2 q2, fun L2 γ2 σ2 H2 f2 R2 q2 => ct L2 γ2 σ2 H2 (f f2) R2 q2⟩
/-- x = e -/
theorem qs_setG {i : Nat} {k : Kd} (pe : ∀ {t : TE}, PE X e t → PS X st (tAsg t (gName i))) (h : QE X ks a s e p) (hk : ks[i]? = some k := by rfl) (ht : takes k a s = true := by rfl) : QS X ks ks kl st (pSet i p) :=
  PSi (pe h) fun D σ H ⟨E, L, γ, Dp, hK, R, hp, nx, rt, bk, ct⟩ => ⟨E, L, γ, _, hK, R, hp, fun x v H1 q1 x1 r1 => nx L _ _ H1 x1.fw (by
    have := (R.ex x1).set (i := i) (takes_ok ht r1) (List.getElem?_eq_some_iff.mp hk).1
    rw [set_same hk] at this; exact this) q1⟩
/-- x = a new list or dict of one's own -/
theorem qs_setN {i : Nat} (pe : ∀ {t : TE}, PE X e t → PS X st (tAsg t (gName i))) (h : QN X ks e p) (hi : i < ks.length := by decide) : QS X ks (ks.set i .own) kl st (pSet i p) :=
  PSi (pe h) fun D σ H ⟨E, L, γ, Dp, hK, R, hp, nx, rt, bk, ct⟩ => ⟨E, L, γ, _, hK, R, hp, fun x b H1 q1 x1 nb ob => by
    have hb : H1 b ≠ none := by cases x <;> first | exact (ob : False).elim | (obtain ⟨_, h, _⟩ := ob; rw [h]; exact nofun) | (obtain ⟨_, _, h, _⟩ := ob; rw [h]; exact nofun)
    have R1 := R.more x1 nb hb
    have nL : b ∉ L := fun z => (R.lf b z).2 nb
    refine nx (b :: L) _ _ H1 (.more x1 nb) (R.put (i := i) (k := .own) (x := x) (v := .ref b) (O' := [b]) (.more x1 nb) (fun c m _ o e => x1.st c o e (R.lq m)) R1.old R1.bag (fun c h => (List.mem_cons.mp h).elim (fun z => .inr (by rw [z]; exact (R1.lf b (by simp)).1)) .inl) (fun a h => (R1.lf a h).2) (fun _ h => List.mem_cons_of_mem _ h) ⟨b, rfl, rfl, ?_⟩ (fun c m => by simp at m; simp [m]) (by simp) ?_ hi) q1
    · exact ob.mv (fun _ _ h _ => h) (fun _ _ h => h) (fun c z _ => by
        rcases z with z | z | ⟨_, z⟩
        · exact .inl (.inl z)
        · exact .inl (.inr (.inl z))
        · exact (List.mem_cons.mp z).elim .inr fun z => .inl (.inr (.inr ⟨rfl, z⟩))) fun _ h => h
    · intro O h2 h3 h1 j c hj hc m
      simp at hc; subst hc
      exact nL (h2 j c m)⟩
/-- targets -/
theorem qs_asg (pe : ∀ {t : TE} {g : TG}, PE X e t → PG X tg g → PS X st (tAsg t g)) (h : QE X ks a s e p) (hg : QG X ks a s js tg g) : QS X ks ks kl st (pAsg p g) :=
  PSi (pe h hg) fun D σ H ⟨E, L, γ, Dp, hK, R, hp, nx, rt, bk, ct⟩ => ⟨E, L, γ, _, hK, R, hp, fun x v H1 q1 x1 r1 => ⟨E, L, γ, x, _, hK, R.ex x1, r1, q1, fun γ' σ' q' R' _ => nx L γ' σ' H1 x1.fw R' q'⟩⟩
theorem qs_for {iter : Expr} (pe : ∀ {wi : TI} {g : TG} {tb : TS}, PI X tg iter wi → PG X tg g → PSs X sts tb → PS X st (tFor wi g tb)) (hi : QI X ks a tg iter pa) (hg : QG X ks a true js tg g) (hb : QB X ks ks ks sts ps) : QS X ks ks kl st (pFor pa g ps) :=
  PSi (pe hi hg hb) fun D σ H ⟨E, L, γ, Dp, hK, R, hp, nx, rt, bk, ct⟩ => by
    refine ⟨E, L, γ, _, hK, R, hp, fun xs J H1 hq x1 ⟨P, p0, pf, pg, pst⟩ => ?_⟩
    refine ⟨fun i m σ H2 => m = xs.length - i ∧ ∃ L' γ', Fw E.B L H1 L' H2 ∧ Rel E L' ks γ' σ H2 ∧ forP g ps Dp (xs.drop i) γ', ⟨_, rfl, L, γ, .refl _ _ _, R.ex x1, hq⟩, ?_⟩
    rintro i m σ2 H2 ⟨rfl, L2, γ2, f2, R2, h2⟩
    by_cases hi : i < xs.length
    · right
      obtain ⟨go, yl⟩ := pg i L2 H2 (pf _ _ _ _ p0 f2) hi
      refine ⟨go, fun σ' H' => ∃ m', m' < xs.length - i ∧ (m' = xs.length - (i + 1) ∧ ∃ L' γ', Fw E.B L H1 L' H' ∧ Rel E L' ks γ' σ' H' ∧ forP g ps Dp (xs.drop (i + 1)) γ'), fun _ _ h => h, fun v H3 hy => ?_⟩
      obtain ⟨x3, y, hy, ry⟩ := yl v H3 hy
      have hd : xs.drop i = y :: xs.drop (i + 1) := by
        rw [List.drop_eq_getElem_cons hi]
        rw [List.getElem?_eq_getElem hi] at hy; cases hy; rfl
      rw [hd] at h2
      refine ⟨E, L2, γ2, y, _, hK, R2.ex x3, ry, h2, fun γ3 σ3 q3 R3 _ => ⟨E, L2, γ3, _, hK, R3, q3, ?_, rt, ?_, ?_⟩⟩
      · intro L4 γ4 σ4 H4 f4 R4 q4
        exact ⟨_, by omega, rfl, L4, γ4, f2.trans (Fw.trans x3.fw f4), R4, q4⟩
      · intro L4 γ4 σ4 H4 f4 R4 q4
        exact nx L4 γ4 σ4 H4 (Fw.trans x1.fw (f2.trans (Fw.trans x3.fw f4))) R4 q4
      · intro L4 γ4 σ4 H4 f4 R4 q4
        exact ⟨_, by omega, rfl, L4, γ4, f2.trans (Fw.trans x3.fw f4), R4, q4⟩
    · left
      have hi := Nat.not_lt.mp hi
      refine ⟨pst i L2 H2 (pf _ _ _ _ p0 f2) hi, ?_⟩
      rw [List.drop_eq_nil_of_le hi] at h2
      exact nx L2 γ2 σ2 H2 (Fw.trans x1.fw f2) R2 h2
theorem Ob.nt {B : Bg} {A : Addr → Prop} {H : Hp} {b : Addr} {x : PV} (h : Ob B A H b x) : ∀ vs, H b ≠ some (.tup vs) := fun vs z => by
  cases x <;> first | exact (h : False).elim | (obtain ⟨_, h, _⟩ := h; rw [h] at z; cases z) | (obtain ⟨_, _, h, _⟩ := h; rw [h] at z; cases z)
theorem Rp.upL {E : Ac} {L : List Addr} {c : Bool} {H : Hp} {D : Addr} {o : HO} {x : PV} {v : V} (h : Rp E.B (av E L c true) H x v) (m : D ∈ L) (nt : ∀ vs, H D ≠ some (.tup vs)) : Rp E.B (av E L c true) (upd H D o) x v :=
  h.mv (fun b u e n => by rw [upd_ne (fun z => n (.inr (.inr ⟨rfl, by rw [z]; exact m⟩)))]; exact e) (fun b u e => by rw [upd_ne (fun z => nt u (by rw [← z]; exact e))]; exact e) fun _ z _ => z
theorem RpL.upL {E : Ac} {L : List Addr} {c : Bool} {H : Hp} {D : Addr} {o : HO} {x : List PV} {v : List V} (h : RpL E.B (av E L c true) H x v) (m : D ∈ L) (nt : ∀ vs, H D ≠ some (.tup vs)) : RpL E.B (av E L c true) (upd H D o) x v :=
  h.mv (fun b u e n => by rw [upd_ne (fun z => n (.inr (.inr ⟨rfl, by rw [z]; exact m⟩)))]; exact e) (fun b u e => by rw [upd_ne (fun z => nt u (by rw [← z]; exact e))]; exact e) fun _ z _ => z
theorem set_self {α : Type} {l : List α} {i : Nat} {x : α} (h : l[i]? = some x) : l.set i x = l := by
  apply List.ext_getElem?
  intro j
  by_cases hj : i = j
  · subst hj; rw [List.getElem?_set_self (List.getElem?_eq_some_iff.mp h).1, h]
  · rw [List.getElem?_set_ne hj]
theorem Fw.upd {B : Bg} {L : List Addr} {H : Hp} {b : Addr} {o : HO} (m : b ∈ L) (nt : ∀ vs, H b ≠ some (.tup vs)) : Fw B L H L (L2.upd H b o) where
  st := fun c u e n _ => by rw [upd_ne (fun z => n (by rw [z]; exact m))]; exact e
  tp := fun c u e => by rw [upd_ne (fun z => nt u (by rw [← z]; exact e))]; exact e
  nn := fun c h => by
    by_cases z : c = b
    · rw [z, upd_same]; exact nofun
    · rw [upd_ne z]; exact h
  ls := fun c h => .inl h
/-- an own slot's object is changed -/
theorem Rel.upd1 {E : Ac} {L : List Addr} {γ : G} {σ : St} {H : Hp} {i : Nat} {x : PV} (R : Rel E L ks γ σ H) (hk : ks[i]? = some .own) (hx : γ[i]? = some (some x)) : ∃ b, σ[i]? = some (some (.ref b)) ∧ b ∈ L ∧ Ob E.B (av E L true true) H b x ∧
    ∀ o x', Ob E.B (av E L true true) (upd H b o) b x' → Rel E L ks (γ.set i (some x')) σ (upd H b o) := by
  obtain ⟨O, h1, h2, h3, h4⟩ := R.sl
  obtain ⟨v, hv, k⟩ := h1 i x hx
  rw [getElem?_kd hk] at k
  obtain ⟨b, rfl, ho, ob⟩ := k
  have hb : b ∈ L := h2 i b (by rw [ho]; simp)
  refine ⟨b, hv, hb, ob, fun o x' ob' => ?_⟩
  have hr : b ≠ E.B.r := fun z => R.ar (by rw [← z]; exact (R.lf b hb).1)
  have := R.put (i := i) (k := .own) (x := x') (v := .ref b) (O' := [b]) (.upd (o := o) hb ob.nt) (fun c m n u e => by rw [upd_ne (fun z => n (by simp [z]))]; exact e)
    (fun c u e n => by rw [upd_ne (fun z => by rw [z, (R.lf b hb).1] at e; cases e)]; exact R.old c u e n) (R.bag.stay (fun u e => by rw [upd_ne (R.lq hb).symm]; exact e) fun u e => by rw [upd_ne hr.symm]; exact e)
    (fun c m => .inl m) (fun c m => (Fw.upd (B := E.B) hb ob.nt).nn c (R.lf c m).2) (fun _ h => h) ⟨b, rfl, rfl, ob'⟩ (fun c m => by simp at m; rw [m]; exact hb) (by simp) (fun O' g2 g3 g1 j c hj hc m => by
      simp at hc; subst hc
      obtain ⟨w, hw, kw⟩ := g1 i x hx
      rw [hv] at hw; cases hw
      rw [getElem?_kd hk] at kw
      obtain ⟨d, e1, e2, _⟩ := kw
      cases e1
      exact hj (g3 j i c m (by rw [e2]; simp))) (List.getElem?_eq_some_iff.mp hk).1
  rw [set_same hk, set_self hv] at this
  exact this
theorem qs_app {i : Nat} (pe : ∀ {t : TE}, PE X e t → PS X st (tDrop (tBM X.K "list" rAppend (tVar i) (tCons t tNil)))) (h : QE X ks true true e p) (hk : ks[i]? = some .own := by rfl) : QS X ks ks kl st (pApp i p) :=
  PSi (pe h) fun D σ H ⟨E, L, γ, Dp, hK, R, hp, nx, rt, bk, ct⟩ => by
    obtain ⟨x, hx, q⟩ := getS_of hp
    obtain ⟨b, hv, hb, ob, _⟩ := R.upd1 hk hx
    cases x <;> first | exact (q : False).elim | skip
    rename_i xs
    obtain ⟨vs, h1, r1⟩ := ob
    refine ⟨.ref b, hv, .inl ⟨rfl, vs, .inl (.inl h1)⟩, E, L, γ, _, hK, R, q, fun y u H1 q1 x1 ry => ?_⟩
    have R1 := R.ex x1
    obtain ⟨b', hv', hb', ob', up⟩ := R1.upd1 hk hx
    rw [hv] at hv'; cases hv'
    obtain ⟨vs', h1', r1'⟩ := ob'
    have nt : ∀ vs, H1 b ≠ some (.tup vs) := fun z => by rw [h1']; exact nofun
    refine ⟨b, vs', u, rfl, rfl, h1', by rw [← r1'.length]; exact q1.1, nx L _ _ _ (Fw.trans x1.fw (.upd hb nt)) (up _ (.lst (xs ++ [y])) ⟨vs' ++ [u], upd_same, (r1'.upL hb nt).append (.cons (ry.upL hb nt) .nil)⟩) q1.2⟩
/-- an own list or dict is no more changed: it may be shared -/
theorem Rel.freeze {E : Ac} {L : List Addr} {γ : G} {σ : St} {H : Hp} {i : Nat} (R : Rel E L ks γ σ H) (hk : ks[i]? = some .own) : ∃ L', Fw E.B L H L' H ∧ Rel E L' (ks.set i .sh) γ σ H := by
  obtain ⟨O, h1, h2, h3, h4⟩ := R.sl
  refine ⟨L.filter (fun c => !decide (c ∈ O i)), ⟨fun c u e n m => e, fun _ _ h => h, fun _ h => h, fun c m => .inl (List.mem_filter.mp m).1⟩, ⟨R.old, R.onn, R.bag, R.a0, R.aq, R.ar, fun c m => R.lf c (List.mem_filter.mp m).1, R.len, ?_⟩⟩
  refine ⟨fun j => if j = i then [] else O j, fun j y hy => ?_, fun j c m => ?_, fun j j' c m m' => ?_, fun j => ?_⟩
  · obtain ⟨v, hv, k⟩ := h1 j y hy
    refine ⟨v, hv, ?_⟩
    have g : ∀ {bb : Bool} c, av E (L.filter (fun c => !decide (c ∈ O i))) bb true c → H c ≠ none → av E L bb true c := fun c z _ => by
      rcases z with z | z | ⟨_, z⟩
      · exact .inl z
      · exact .inr (.inl z)
      · exact .inr (.inr ⟨rfl, (List.mem_filter.mp z).1⟩)
    by_cases hj : j = i
    · subst hj
      show Kr E _ H _ _ _ (if j = j then [] else O j)
      rw [if_pos rfl]
      have e1 : kd (ks.set j .sh) j = .sh := by unfold kd; simp [List.getD, (List.getElem?_eq_some_iff.mp hk).1]
      rw [e1]
      rw [getElem?_kd hk] at k
      obtain ⟨b, rfl, ho, ob⟩ := k
      refine ⟨rfl, ?_⟩
      have n : ¬ av E (L.filter (fun c => !decide (c ∈ O j))) true true b := by
        rintro (z | ⟨_, z⟩ | ⟨_, z⟩)
        · exact R.lq (h2 j b (by rw [ho]; simp)) z
        · exact R.a0 b z (R.lf b (h2 j b (by rw [ho]; simp))).1
        · have := (List.mem_filter.mp z).2; rw [ho] at this; simp at this
      cases y with
      | lst xs => obtain ⟨vs, g1, g2⟩ := ob; exact .lst n g1 (g2.mv (fun _ _ h _ => h) (fun _ _ h => h) g)
      | dT kvs => obtain ⟨ws, g1, g2, g3⟩ := ob; exact .dT n g1 g2 rfl rfl rfl (g3.mv (fun _ _ h _ => h) (fun _ _ h => h) g)
      | dK kvs => obtain ⟨ws, g1, g2, g3⟩ := ob; exact .dK n g1 g2 rfl rfl rfl (g3.mv (fun _ _ h _ => h) (fun _ _ h => h) g)
      | ins c fs => obtain ⟨dx, ws, g1, g2, g3⟩ := ob; exact .ins n g1 g2 rfl (g3.mv (fun _ _ h _ => h) (fun _ _ h => h) g)
      | _ => exact ob.elim
    · show Kr E _ H _ _ _ (if j = i then [] else O j)
      rw [if_neg hj]
      have e1 : kd (ks.set i .sh) j = kd ks j := by unfold kd; simp [List.getD, List.getElem?_set_ne (fun z => hj z.symm)]
      rw [e1]
      exact k.mv (fun _ _ h _ _ => h) (fun _ _ h => h) (fun c m => .inl (List.mem_filter.mp m).1) fun _ _ _ h => h
  · by_cases hj : j = i
    · simp [hj] at m
    · simp only [if_neg hj] at m
      exact List.mem_filter.mpr ⟨h2 j c m, by simp; intro z; exact hj (h3 j i c m z)⟩
  · by_cases hj : j = i <;> by_cases hj' : j' = i
    · rw [hj, hj']
    · simp [hj] at m
    · simp [hj'] at m'
    · simp only [if_neg hj, if_neg hj'] at m m'; exact h3 j j' c m m'
  · by_cases hj : j = i
    · simp [hj]
    · simp only [if_neg hj]; exact h4 j
/-- self.f = e while the instance is one's own -/
theorem putF_at {f : Str} {v : V} : ∀ {ws : List (Str × V)} {ns : List Str} {j : Nat}, ws.map (·.1) = ns.take ws.length → ns.Nodup → ns[j]? = some f → j ≤ ws.length → putF f v ws = if j = ws.length then ws ++ [(f, v)] else ws.set j (f, v)
  | [], ns, j, _, _, _, hj => by
    have : j = 0 := by simpa using hj
    subst this; rfl
  | (g, x) :: r, [], j, h, _, e, _ => by simp at e
  | (g, x) :: r, n :: ns, j, h, nd, e, hj => by
    simp only [List.map_cons, List.length_cons, List.take_succ_cons, List.cons.injEq] at h
    obtain ⟨rfl, h⟩ := h
    rw [List.nodup_cons] at nd
    cases j with
    | zero =>
      simp at e; subst e
      simp [putF]
    | succ j =>
      have e' : ns[j]? = some f := by simpa using e
      have hg : ¬ g = f := fun z => nd.1 (by rw [z]; exact List.mem_of_getElem? e')
      rw [putF, if_neg hg, putF_at h nd.2 e' (by simpa using hj)]
      by_cases hjl : j = r.length
      · simp [hjl]
      · simp [hjl]
end
end Vl
namespace Vl
open PySem PySem.Spec L2 Lb
abbrev PW := List PV → (PV → Prop) → Prop
/-- .. : all that it tells is new, whatever was handed in -/
def spF (n : Nat) (w : Vl.PW) (K : Fg) : Sp := fun vs H Q _ => ∃ (q r : Addr) (xs : List PV) (Qp : PV → Prop), vs.length = n ∧ BagOk ⟨K, q, r⟩ H ∧ RpL ⟨K, q, r⟩ (fun a => a = q) H xs vs ∧ w xs Qp ∧
  ∀ x v H', Qp x → Ex ⟨K, q, r⟩ H H' → Rp ⟨K, q, r⟩ (fun a => H a ≠ none) H' x v → Q v H'
/-- .. whose instance holds nothing of what was handed in -/
def spIF (c n : Nat) (w : Vl.PW) (K : Fg) : Sp := fun vs H Q _ => ∃ (q r : Addr) (xs : List PV) (Qp : PV → Prop) (x0 dx : Addr) (H1 : Hp) (us : List V), vs = .ref x0 :: us ∧ us.length = n ∧ H1 x0 = none ∧ H1 dx = none ∧ dx ≠ x0 ∧
  H = upd (upd H1 dx (.own x0)) x0 (.ins (He.ga K (clsT c).1) dx []) ∧ BagOk ⟨K, q, r⟩ H1 ∧ RpL ⟨K, q, r⟩ (fun a => a = q) H1 xs us ∧ w xs Qp ∧ ∀ y H', Qp y → Ex ⟨K, q, r⟩ H1 H' → Rp ⟨K, q, r⟩ (fun a => H1 a ≠ none) H' y (.ref x0) → Q .non H'
def startG (N : Nat) (xs : List PV) : G := xs.map some ++ List.replicate (N - xs.length) none
def wF (N : Nat) (p : GS) : Vl.PW := fun xs Q => p ⟨fun _ => Q .non, fun x _ => Q x, fun _ => False, fun _ => False⟩ (startG N xs)
def wI (N c : Nat) (p : GS) : Vl.PW := fun xs Q => p ⟨fun γ => getS γ 0 Q, fun _ _ => False, fun _ => False, fun _ => False⟩ (startG N (.ins c [] :: xs))
theorem start_get {N : List Str} {xs : List PV} {i : Nat} {x : PV} (h : (startG N.length xs)[i]? = some (some x)) : xs[i]? = some x := by
  unfold startG at h
  by_cases hi : i < xs.length
  · rw [List.getElem?_append_left (by simpa using hi), List.getElem?_map] at h
    cases e : xs[i]? with
    | none => rw [e] at h; cases h
    | some y => rw [e] at h; simp at h; rw [h]
  · rw [List.getElem?_append_right (by simpa using hi)] at h
    have := List.mem_of_getElem? h
    simp at this
theorem start_at {N : List Str} {vs : List V} {i : Nat} {v : V} (h : vs[i]? = some v) : (start N vs)[i]? = some (some v) := by
  unfold L2.start
  rw [List.getElem?_append_left (by simpa using (List.getElem?_eq_some_iff.mp h).1), List.getElem?_map, h]; rfl
theorem start_len {N : List Str} {xs : List PV} {vs : List V} (h : xs.length = vs.length) : (startG N.length xs).length = (start N vs).length := by
  simp [startG, L2.start, h]
theorem rel_startF {B : Bg} {H : Hp} {N : List Str} {xs : List PV} {vs : List V} {ks : List Kd} (bg : BagOk B H) (r : RpL B (fun a => a = B.q) H xs vs) (hk : ∀ i, i < xs.length → kd ks i = .bor) (me : Addr) : Rel ⟨B, fun a => H a ≠ none, H, me⟩ [] ks (startG N.length xs) (start N vs) H where
  old := fun _ _ h _ => h
  onn := fun _ h => h
  bag := bg
  a0 := fun _ h => h
  aq := bg.q
  ar := by obtain ⟨_, _, _, _, _, h, _⟩ := bg; show H B.r ≠ none; rw [h]; exact nofun
  lf := fun _ h => nomatch h
  len := start_len r.length
  sl := by
    refine ⟨fun _ => [], fun i x h => ?_, by simp, by simp, by simp⟩
    have h1 := start_get h
    obtain ⟨v, hv, rv⟩ := r.get h1
    refine ⟨v, start_at hv, ?_⟩
    rw [hk i (List.getElem?_eq_some_iff.mp h1).1]
    exact ⟨rfl, rv.anti fun c z => by
      rcases z with z | ⟨z, _⟩ | ⟨_, z⟩
      · exact z
      · cases z
      · cases z⟩
theorem ex_of {B : Bg} {H H' : Hp} (bg : BagOk B H) (old : ∀ a o, H a = some o → a ≠ B.q → H' a = some o) (onn : ∀ a, H a ≠ none → H' a ≠ none) (bg' : BagOk B H') : Ex B H H' :=
  ⟨old, fun a vs h => old a _ h (fun z => by obtain ⟨_, _, _, _, hq, _⟩ := bg; rw [z, hq] at h; cases h), onn, fun _ => bg'⟩
theorem ksh {ks : List Kd} {n : Nat} {k : Kd} (h : (ks.take n).all (fun x => decide (x = k)) = true) (hn : n ≤ ks.length) : ∀ i, i < n → kd ks i = k := fun i hi => by
  have h1 : (ks.take n)[i]? = ks[i]? := by rw [List.getElem?_take, if_pos hi]
  have h2 : i < ks.length := by omega
  have := List.all_eq_true.mp h (ks[i]) (List.mem_of_getElem? (i := i) (by rw [h1, List.getElem?_eq_getElem h2]))
  unfold kd; simp [List.getD, List.getElem?_eq_getElem h2]; simpa using this
section
variable {X : Cx} {N : List Str} {ks ks' kl : List Kd} {sts : List Stmt} {p : GS} {n c : Nat} {vs : List V} {H : Hp} {Q : VK} {E : XK}
theorem body_F (h : QB X ks ks' kl sts p) (hk : (ks.take n).all (fun x => decide (x = Kd.bor)) = true) (hn : n ≤ ks.length) (hs : spF n (wF N.length p) X.K vs H Q E) : ∃ t, PSs X sts t ∧ t { nx := fun _ H' => Q .non H', rt := Q } (start N vs) H := by
  obtain ⟨q, r, xs, Qp, hl, bg, rx, w, k⟩ := hs
  refine ⟨_, h, ⟨⟨X.K, q, r⟩, fun a => H a ≠ none, H, 0⟩, [], startG N.length xs, _, rfl, rel_startF bg rx (fun i hi => ksh hk hn i (by rw [rx.length, hl] at hi; exact hi)) 0, w, ?_, ?_, fun _ _ _ _ _ _ z => z.elim, fun _ _ _ _ _ _ z => z.elim⟩
  · intro L' γ' σ' H' _ R q1
    exact k .non .non H' q1 (ex_of bg R.old R.onn R.bag) .non
  · intro x γ' v H' ⟨r1, r2, r3, r4⟩ q1
    exact k x v H' q1 (ex_of bg r2 r3 r4) r1
theorem rel_init {B : Bg} {A0 A1 : Addr → Prop} {k0 : Kd} {H1 : Hp} {N : List Str} {xs : List PV} {vs : List V} {ks : List Kd} {x0 dx : Addr} (aq : A0 B.q) (an : ∀ a, A0 a → H1 a ≠ none) (bg : BagOk B H1) (n1 : H1 x0 = none) (n2 : H1 dx = none) (n3 : dx ≠ x0)
    (r : RpL B A1 H1 xs vs) (hk0 : kd ks 0 = .slf) (hk : ∀ i, i < xs.length → kd ks (i + 1) = k0) (hA : (k0 = .sh ∧ A1 = A0) ∨ (k0 = .bor ∧ A1 = fun a => a = B.q)) :
    Rel ⟨B, A0, H1, x0⟩ [x0] ks (startG N.length (.ins c [] :: xs)) (start N (.ref x0 :: vs)) (upd (upd H1 dx (.own x0)) x0 (.ins (He.ga B.K (clsT c).1) dx [])) := by
  have x1 : Ex B H1 (upd H1 dx (.own x0)) := .new n2
  have nx0 : upd H1 dx (.own x0) x0 = none := by rw [upd_ne (fun z => n3 z.symm)]; exact n1
  have x2 : Ex B H1 (upd (upd H1 dx (.own x0)) x0 (.ins (He.ga B.K (clsT c).1) dx [])) := x1.trans (.new nx0)
  have st : ∀ a o, H1 a = some o → upd (upd H1 dx (.own x0)) x0 (.ins (He.ga B.K (clsT c).1) dx []) a = some o := fun a o e => by
    rw [upd_ne (ne_of_none e n1), upd_ne (ne_of_none e n2)]; exact e
  refine ⟨fun a o h _ => st a o h, x2.nn, x2.bg bg, an, aq, ?_, fun a h => ?_, start_len (by simp [r.length]), ?_⟩
  · obtain ⟨_, _, _, _, _, h, _⟩ := bg; show H1 B.r ≠ none; rw [h]; exact nofun
  · simp at h; subst h; exact ⟨n1, by rw [upd_same]; exact nofun⟩
  · refine ⟨fun i => if i = 0 then [x0] else [], fun i y h => ?_, fun i a h => ?_, fun i j a h h' => ?_, fun i => ?_⟩
    · have h1 := start_get h
      cases i with
      | zero =>
        simp at h1; subst h1
        refine ⟨.ref x0, start_at rfl, ?_⟩
        rw [hk0]
        exact ⟨x0, rfl, rfl, ⟨⟨c, [], rfl⟩, rfl⟩, dx, [], upd_same, by simp, .nil⟩
      | succ i =>
        simp at h1
        obtain ⟨v, hv, rv⟩ := r.get h1
        refine ⟨v, start_at (by simpa using hv), ?_⟩
        rw [hk i (List.getElem?_eq_some_iff.mp h1).1]
        have rv' : ∀ A' : Addr → Prop, (∀ b, A' b → H1 b ≠ none → A1 b) → Rp B A' (upd (upd H1 dx (.own x0)) x0 (.ins (He.ga B.K (clsT c).1) dx [])) y v := fun A' g => rv.mv (fun a o e _ => st a o e) (fun a o e => st a _ e) g
        rcases hA with ⟨rfl, rfl⟩ | ⟨rfl, rfl⟩
        · refine ⟨by simp, rv' _ fun b z n => ?_⟩
          rcases z with z | ⟨_, z⟩ | ⟨_, z⟩
          · rw [z]; exact aq
          · exact z
          · simp at z; rw [z] at n; exact absurd n1 n
        · refine ⟨by simp, rv' _ fun b z n => ?_⟩
          rcases z with z | ⟨z, _⟩ | ⟨_, z⟩
          · exact z
          · cases z
          · simp at z; rw [z] at n; exact absurd n1 n
    · by_cases hi : i = 0
      · simp [hi] at h; simp [h]
      · simp [hi] at h
    · by_cases hi : i = 0 <;> by_cases hj : j = 0
      · rw [hi, hj]
      · simp [hj] at h'
      · simp [hi] at h
      · simp [hi] at h
    · by_cases hi : i = 0 <;> simp [hi]
theorem init_end {B : Bg} {A0 : Addr → Prop} {H1 H' : Hp} {x0 : Addr} {L : List Addr} {γ : G} {σ : St} {Qp : PV → Prop} (R : Rel ⟨B, A0, H1, x0⟩ L ks γ σ H') (hk : kd ks 0 = .slf) (h : getS γ 0 Qp) : ∃ y, Qp y ∧ Rp B A0 H' y (.ref x0) := by
  obtain ⟨y, hy, q⟩ := getS_of h
  obtain ⟨O, h1, h2, h3, h4⟩ := R.sl
  obtain ⟨v, hv, k⟩ := h1 0 y hy
  rw [hk] at k
  obtain ⟨b, rfl, ho, ⟨_, hme⟩, ob⟩ := k
  have hme : b = x0 := hme
  subst hme
  refine ⟨y, q, ?_⟩
  have := ob.rp (R.noA (h2 0 b (by rw [ho]; simp))) fun c z => av_mono (a' := true) (s' := false) id (fun _ => rfl) z
  exact this.anti fun c z => .inr (.inl ⟨rfl, z⟩)
theorem body_IF (h : QB X ks ks' kl sts p) (hk0 : kd ks 0 = .slf) (hk1 : kd ks' 0 = .slf) (hk : ((ks.drop 1).take n).all (fun x => decide (x = Kd.bor)) = true) (hn : n + 1 ≤ ks.length) (hs : spIF c n (wI N.length c p) X.K vs H Q E) : ∃ t, PSs X sts t ∧ t { nx := fun _ H' => Q .non H', rt := Q } (start N vs) H := by
  obtain ⟨q, r, xs, Qp, x0, dx, H1, us, rfl, hl, n1, n2, n3, rfl, bg, rx, w, k⟩ := hs
  refine ⟨_, h, ⟨⟨X.K, q, r⟩, fun a => H1 a ≠ none, H1, x0⟩, [x0], startG N.length (.ins c [] :: xs), ⟨fun γ => getS γ 0 Qp, fun _ _ => False, fun _ => False, fun _ => False⟩, rfl, rel_init (k0 := .bor) bg.q (fun _ h => h) bg n1 n2 n3 rx hk0 (fun i hi => ?_) (.inr ⟨rfl, rfl⟩), w, ?_, ?_, fun _ _ _ _ _ _ z => z.elim, fun _ _ _ _ _ _ z => z.elim⟩
  · have := ksh hk (by simp; omega) i (by rw [rx.length, hl] at hi; exact hi)
    unfold kd at this ⊢; simpa [List.getD, Nat.add_comm] using this
  · intro L' γ' σ' H' _ R q1
    obtain ⟨y, qy, ry⟩ := init_end R hk1 q1
    exact k y H' qy (ex_of bg R.old R.onn R.bag) ry
  · intro _ _ _ _ _ z; exact z.elim
theorem len_F {w : Vl.PW} {K : Fg} (h : spF n w K vs H Q E) : vs.length = n := by obtain ⟨_, _, _, _, h, _⟩ := h; exact h
theorem len_IF {w : Vl.PW} {K : Fg} (h : spIF c n w K vs H Q E) : vs.length = n + 1 := by obtain ⟨_, _, _, _, _, _, _, _, rfl, h, _⟩ := h; simp [h]
end
def pCall (w : Vl.PW) (ds : List PV) (t : GA) : GE := fun γ Q => t γ fun xs => w (xs ++ ds) Q
def pCallK (w : Vl.PW) (t t' : GA) : GE := fun γ Q => t γ fun xs => t' γ fun ys => w (xs ++ ys) Q
def pMeth (c : Nat) (w : Vl.PW) (ds : List PV) (o : GE) (t : GA) : GE := fun γ Q => o γ fun x => match x with | .ins c' fs => c' = c ∧ t γ fun xs => w (x :: (xs ++ ds)) Q | _ => False
section
variable {X : Cx} {ks : List Kd} {a s a1 s1 a2 s2 : Bool} {e o : Expr} {es : List Expr} {kws : List Keyword} {p : GE} {pa pk : GA} {pos : Pos} {n c m : Nat} {w : Vl.PW} {ds : List PV} {dvs : List V} {x : Str} {sp : Sp} {t : TE} {f : Str}
/-- values that stand whatever the heap: defaults -/
def Dfl (K : Fg) (ds : List PV) (dvs : List V) : Prop := ∀ q r A H, RpL ⟨K, q, r⟩ A H ds dvs
theorem dfl_nil {K : Fg} : Dfl K [] [] := fun _ _ _ _ => .nil
theorem Dfl.b {K : Fg} (h : Dfl K ds dvs) {B : Bg} (hK : B.K = K) (A : Addr → Prop) (H : Hp) : RpL B A H ds dvs := by subst hK; exact h _ _ _ _
abbrev QK (X : Cx) (ks : List Kd) (a s : Bool) (kws : List Keyword) (p : GA) : Prop := PK X kws (tA X.K ks a s kws.length p)
theorem PKi {t t' : TA} (h : PK X kws t) (i : ∀ σ H Q, t' σ H Q → t σ H Q) : PK X kws t' := ⟨fun pos pins s σ H Q I q => h.run pos pins s σ H Q I (i _ _ _ q)⟩
theorem qk_nil : QK X ks true true [] pNil := PKi pk_nil fun σ H Q ⟨E, L, γ, Qp, hK, R, hp, k⟩ => k [] [] H hp (.refl _ _) .nil rfl
theorem qk_cons {nm : Option Str} {kpos : Pos} (h : QE X ks a1 s1 e p) (t : QK X ks a2 s2 kws pa) (ha : a = (a1 && a2) := by rfl) (hb : s = (s1 && s2) := by rfl) : QK X ks a s (⟨nm, e, kpos⟩ :: kws) (pCons p pa) := by
  subst ha hb
  exact PKi (pk_cons h t) fun σ H Q ⟨E, L, γ, Qp, hK, R, hp, k⟩ => by
    refine ⟨E, L, γ, _, hK, R, hp, fun x v H1 q1 x1 r1 => ⟨E, L, γ, _, hK, R.ex x1, q1, fun xs vs H2 q2 x2 r2 l2 => ?_⟩⟩
    exact k _ _ H2 q2 (x1.trans x2) (.cons ((r1.ex x2 av_q).anti fun c z => av_mono and_l and_l z) (r2.anti fun c z => av_mono and_r and_r z)) (by simp [l2])
theorem call_F {E : Ac} {L : List Addr} {γ : G} {σ : St} {H : Hp} {Q : VK} {XE : XK} {Qp : PV → Prop} {xs : List PV} {vs : List V} (hK : E.B.K = X.K) (R : Rel E L ks γ σ H) (r : RpL E.B (av E L a s) H xs vs) (hl : vs.length = n) (hw : w xs Qp)
    (k : ∀ z t H', Qp z → Ex E.B H H' → Rp E.B (av E L true true) H' z t → Q t H') : spF n w X.K vs H Q XE := by
  obtain ⟨⟨K, q, r0⟩, A0, H0, me⟩ := E
  cases hK
  exact ⟨q, r0, xs, Qp, hl, R.bag, r.q, hw, fun z t H' qz x rz => k z t H' qz x (rz.anti fun b z => av_nn R z)⟩
theorem qe_callF {ps : List Str} (pe : ∀ {t : TA}, PA X es t → PE X e (tCall (spF n w X.K) dvs E0 t)) (hd : Dfl X.K ds dvs) (h : QA X ks a s es pa) (hn : es.length + dvs.length = n := by rfl) : QE X ks true true e (pCall w ds pa) :=
  PEi (pe h) fun σ H Q ⟨E, L, γ, Qp, hK, R, hp, k⟩ => by
    refine ⟨E, L, γ, _, hK, R, hp, fun xs vs H1 q1 x1 r1 l1 => ?_⟩
    exact call_F hK (R.ex x1) (r1.append (hd.b hK _ _)) (by rw [List.length_append, ← r1.length, l1]; exact hn) q1 fun z t H' qz x2 rz => k z t H' qz (x1.trans x2) rz
theorem no_lookup {ws : List (Str × V)} {ns : List Str} {f : Str} {k : Nat} (h : ws.map (·.1) = ns.take k) (n : ns.all (fun g => !decide (g = f)) = true) : ws.lookup f = none := by
  rw [List.lookup_eq_none_iff]
  intro p hp
  have : p.1 ∈ ns := List.mem_of_mem_take (by rw [← h]; exact List.mem_map_of_mem hp)
  have := List.all_eq_true.mp n _ this
  simp at this
  simpa using fun z => this z.symm
theorem qe_methF (pe : ∀ {ta : TE} {t : TA}, PE X o ta → PA X es t → PE X e (tMeth (He.ga X.K (clsT c).1) f (spF n w X.K) dvs E0 ta t)) (hd : Dfl X.K ds dvs) (ho : QE X ks a1 s1 o p) (h : QA X ks a2 s2 es pa)
    (hm : (clsT c).2.all (fun g => !decide (g = f)) = true := by decide +kernel) (hn : es.length + dvs.length + 1 = n := by rfl) : QE X ks true true e (pMeth c w ds p pa) :=
  PEi (pe ho h) fun σ H Q ⟨E, L, γ, Qp, hK, R, hp, k⟩ => by
    refine ⟨E, L, γ, _, hK, R, hp, fun x v H1 q1 x1 r1 => ?_⟩
    have r1' := r1
    cases r1 <;> first | exact q1.elim | skip
    rename_i b dx c' ws xs vs n1 h1 h2 h3 r
    obtain ⟨rfl, q1⟩ := q1
    refine ⟨b, dx, ws, rfl, by rw [← hK]; exact h1, no_lookup h2 hm, E, L, γ, _, hK, R.ex x1, q1, fun ys us H2 q2 x2 r2 l2 => ?_⟩
    exact call_F (a := false) (s := false) hK ((R.ex x1).ex x2) (.cons ((r1'.ex x2 av_q).anti fun c z => av_mono (a' := false) (s' := false) (fun z => nomatch z) (fun z => nomatch z) z) ((r2.anti fun c z => av_mono (a' := false) (s' := false) (fun z => nomatch z) (fun z => nomatch z) z).append (hd.b hK _ _))) (by rw [List.length_cons, List.length_append, ← r2.length, l2]; exact hn) q2 fun z t H' qz x3 rz => k z t H' qz (x1.trans (x2.trans x3)) rz
theorem make_IF {E : Ac} {L : List Addr} {γ : G} {σ : St} {H : Hp} {Q : VK} {XE : XK} {Qp : PV → Prop} {xs : List PV} {vs : List V} {x0 dx : Addr} (hK : E.B.K = X.K) (R : Rel E L ks γ σ H) (r : RpL E.B (av E L a s) H xs vs) (hl : vs.length = n) (hw : w xs Qp) (n1 : H x0 = none) (n2 : H dx = none) (n3 : dx ≠ x0)
    (k : ∀ z H', Qp z → Ex E.B H H' → Rp E.B (av E L true true) H' z (.ref x0) → Q (.ref x0) H') : spIF c n w X.K (.ref x0 :: vs) (upd (upd H dx (.own x0)) x0 (.ins (He.ga X.K (clsT c).1) dx [])) (fun v H2 => v = .non ∧ Q (.ref x0) H2) XE := by
  obtain ⟨⟨K, q, r0⟩, A0, H0, me⟩ := E
  cases hK
  exact ⟨q, r0, xs, Qp, x0, dx, H, vs, rfl, hl, n1, n2, n3, rfl, R.bag, r.q, hw, fun z H' qz x rz => ⟨rfl, k z H' qz x (rz.anti fun b z => av_nn R z)⟩⟩
theorem qe_makKIF (pe : ∀ {t tk : TA}, PA X es t → PK X kws tk → PE X e (tMakeK (He.ga X.K (clsT c).1) es.length kws.length (spIF c n w X.K) (fun vs zs => vs ++ zs) E0 t tk)) (h : QA X ks a1 s1 es pa) (h' : QK X ks a2 s2 kws pk) (hn : es.length + kws.length = n := by rfl) : QE X ks true true e (pCallK w pa pk) :=
  PEi (pe h h') fun σ H Q ⟨E, L, γ, Qp, hK, R, hp, k⟩ => by
    refine ⟨E, L, γ, _, hK, R, hp, fun xs vs H1 q1 x1 r1 l1 => ⟨E, L, γ, _, hK, R.ex x1, q1, fun ys us H2 q2 x2 r2 l2 => ⟨by rw [← r1.length, l1], by rw [← r2.length, l2], fun x0 dx n1 n2 n3 => ?_⟩⟩⟩
    exact make_IF (a := false) (s := false) hK ((R.ex x1).ex x2) (((r1.ex x2 av_q).anti fun c z => av_mono (a' := false) (s' := false) (fun z => nomatch z) (fun z => nomatch z) z).append (r2.anti fun c z => av_mono (a' := false) (s' := false) (fun z => nomatch z) (fun z => nomatch z) z)) (by show (vs ++ us).length = n; rw [List.length_append, ← r1.length, ← r2.length, l1, l2]; exact hn) q2 n1 n2 n3 fun z H' qz x3 rz => k z _ H' qz (x1.trans (x2.trans x3)) rz
end
end Vl
namespace Vl
open PySem PySem.Spec L2 Lb
section
variable {X : Cx} {ks ks' kl : List Kd} {a s a1 s1 a2 s2 a3 s3 : Bool} {e e1 e2 e3 tg : Expr} {es : List Expr} {st : Stmt} {sts sts' : List Stmt} {p p1 p2 p3 : GE} {pa pb : GA} {pt : GT} {ps q : GS} {g g' : GG} {pos : Pos} {js js' : List Nat}
theorem qe_add (h1 : QE X ks a1 s1 e1 p1) (h2 : QE X ks a2 s2 e2 p2) (ha : a = (a1 && a2) := by rfl) (hb : s = (s1 && s2) := by rfl) : QE X ks a s (.BinOp e1 .Add e2 pos) (pOp oAdd p1 p2) := by
  subst ha hb
  exact qe_op2 add_ok (pe_op op_addV) h1 h2
theorem qe_mul (h1 : QE X ks a1 s1 e1 p1) (h2 : QE X ks a2 s2 e2 p2) (ha : a = (a1 && a2) := by rfl) (hb : s = (s1 && s2) := by rfl) : QE X ks a s (.BinOp e1 .Mult e2 pos) (pOp oMul p1 p2) := by
  subst ha hb
  exact qe_op2 mul_ok (pe_op op_mulV) h1 h2
theorem qe_sub (h1 : QE X ks a1 s1 e1 p1) (h2 : QE X ks a2 s2 e2 p2) : QE X ks true true (.BinOp e1 .Sub e2 pos) (pOp oSub p1 p2) := qe_opS sub_ok (pe_op op_subA) h1 h2
theorem qe_pow (h1 : QE X ks a1 s1 e1 p1) (h2 : QE X ks a2 s2 e2 p2) : QE X ks true true (.BinOp e1 .Pow e2 pos) (pOp oPow p1 p2) := qe_opS pow_ok (pe_op op_powA) h1 h2
theorem qe_eq (hu : X.A.units + 64 < cLine) (h1 : QE X ks a1 s1 e1 p1) (h2 : QE X ks a2 s2 e2 p2) : QE X ks true true (.Compare e1 [.Eq] [e2] pos) (pOp oEq p1 p2) := qe_opS eq_ok (fun x y => pe_cmpR (op_eqA hu) x y (nomark _)) h1 h2
theorem qt_eq (hu : X.A.units + 64 < cLine) (h1 : QE X ks a1 s1 e1 p1) (h2 : QE X ks a2 s2 e2 p2) : QT X ks (.Compare e1 [.Eq] [e2] pos) (pTest (pOp oEq p1 p2)) := qt_opS eq_ok (fun x y => pt_cmpR (op_eqA hu) x y (nomark _)) h1 h2
theorem qe_ne (hu : X.A.units + 64 < cLine) (h1 : QE X ks a1 s1 e1 p1) (h2 : QE X ks a2 s2 e2 p2) : QE X ks true true (.Compare e1 [.NotEq] [e2] pos) (pOp oNe p1 p2) := qe_opS ne_ok (fun x y => pe_cmpR (op_neA hu) x y (nomark _)) h1 h2
theorem qt_ne (hu : X.A.units + 64 < cLine) (h1 : QE X ks a1 s1 e1 p1) (h2 : QE X ks a2 s2 e2 p2) : QT X ks (.Compare e1 [.NotEq] [e2] pos) (pTest (pOp oNe p1 p2)) := qt_opS ne_ok (fun x y => pt_cmpR (op_neA hu) x y (nomark _)) h1 h2
theorem qt_lt (h1 : QE X ks a1 s1 e1 p1) (h2 : QE X ks a2 s2 e2 p2) : QT X ks (.Compare e1 [.Lt] [e2] pos) (pTest (pOp oLt p1 p2)) := qt_opS lt_ok (fun x y => pt_cmpR op_ltA x y (nomark _)) h1 h2
theorem qt_le (h1 : QE X ks a1 s1 e1 p1) (h2 : QE X ks a2 s2 e2 p2) : QT X ks (.Compare e1 [.LtE] [e2] pos) (pTest (pOp oLe p1 p2)) := qt_opS le_ok (fun x y => pt_cmpR op_leA x y (nomark _)) h1 h2
theorem qt_gt (h1 : QE X ks a1 s1 e1 p1) (h2 : QE X ks a2 s2 e2 p2) : QT X ks (.Compare e1 [.Gt] [e2] pos) (pTest (pOp oGt p1 p2)) := qt_opS gt_ok (fun x y => pt_cmpR op_gtA x y (nomark _)) h1 h2
theorem qe_ge (h1 : QE X ks a1 s1 e1 p1) (h2 : QE X ks a2 s2 e2 p2) : QE X ks true true (.Compare e1 [.GtE] [e2] pos) (pOp oGe p1 p2) := qe_opS ge_ok (fun x y => pe_cmpR op_geA x y (nomark _)) h1 h2
theorem qt_ge (h1 : QE X ks a1 s1 e1 p1) (h2 : QE X ks a2 s2 e2 p2) : QT X ks (.Compare e1 [.GtE] [e2] pos) (pTest (pOp oGe p1 p2)) := qt_opS ge_ok (fun x y => pt_cmpR op_geA x y (nomark _)) h1 h2
theorem qe_in (h1 : QE X ks a1 s1 e1 p1) (h2 : QE X ks a2 s2 e2 p2) (hm : behindInMarks .In e2 = false := by rfl) : QE X ks true true (.Compare e1 [.In] [e2] pos) (pOp (oIn false) p1 p2) := qe_opS in_ok (fun x y => pe_cmpR op_inA x y hm) h1 h2
theorem qt_notIn (h1 : QE X ks a1 s1 e1 p1) (h2 : QE X ks a2 s2 e2 p2) (hm : behindInMarks .NotIn e2 = false := by rfl) : QT X ks (.Compare e1 [.NotIn] [e2] pos) (pTest (pOp (oIn true) p1 p2)) := qt_opS notIn_ok (fun x y => pt_cmpR op_notInA x y hm) h1 h2
theorem qe_ix (h1 : QE X ks a1 s1 e1 p1) (h2 : QE X ks a2 s2 e2 p2) (hs : PlainIx e2 := by intro _ _; rfl) (ha : a = (a1 && a2) := by rfl) (hb : s = (s1 && s2) := by rfl) : QE X ks a s (.Subscript e1 e2 pos) (pOp oIx p1 p2) := by
  subst ha hb
  exact qe_op2 ix_ok (fun x y => pe_ix ix_seq x y hs) h1 h2
variable {x : Str} {p0 : Pos}
theorem qe_cbS {id : String} {r : List V → Hp → VK → Prop} {o : PCl} (ho : CallS X.K r o) (hc : CallR X (.builtin id) r) (hm : X.mg x = none) (hg : Gl X x) (hv : bootBuiltins x = some (.builtin id)) (h : QA X ks a s (e :: es) pa) (hn : x ≠ "__name__" := by decide) (hdb : (x == ("__debug__" : Str)) = false := by decide)
    (he : starEach (e :: es) X.env = (false, eval e X.env) :: starEach es X.env := by rfl) (hpl : (backTo pos (starEach es X.env)).any (·.1) = false := by rfl) : QE X ks true true (.Call (.Name x p0) (e :: es) [] pos) (pCB o pa) := cbS ho (fun t => pe_callB hc hg hm hv t hn hdb he hpl) h
theorem qe_ctS {T : String} {r : List V → Hp → VK → Prop} {o : PCl} (ho : CallS X.K r o) (hc : CallR X (.type T) r) (hm : X.mg x = none) (hg : Gl X x) (hv : bootBuiltins x = some (.type T)) (h : QA X ks a s (e :: es) pa) (hn : x ≠ "__name__" := by decide) (hdb : (x == ("__debug__" : Str)) = false := by decide)
    (he : starEach (e :: es) X.env = (false, eval e X.env) :: starEach es X.env := by rfl) (hpl : (backTo pos (starEach es X.env)).any (·.1) = false := by rfl) : QE X ks true true (.Call (.Name x p0) (e :: es) [] pos) (pCB o pa) := cbS ho (fun t => pe_callTy hc hg hm hv t hn hdb he hpl) h
theorem qe_ctP {T : String} {r : List V → Hp → VK → Prop} {o : PCl} (ho : CallP X.K r o) (hc : CallR X (.type T) r) (hm : X.mg x = none) (hg : Gl X x) (hv : bootBuiltins x = some (.type T)) (h : QA X ks a s (e :: es) pa) (hn : x ≠ "__name__" := by decide) (hdb : (x == ("__debug__" : Str)) = false := by decide)
    (he : starEach (e :: es) X.env = (false, eval e X.env) :: starEach es X.env := by rfl) (hpl : (backTo pos (starEach es X.env)).any (·.1) = false := by rfl) : QE X ks a s (.Call (.Name x p0) (e :: es) [] pos) (pCB o pa) := cbP ho (fun t => pe_callTy hc hg hm hv t hn hdb he hpl) h
theorem qe_ty (T : Kn) (hm : X.mg x = none) (hg : Gl X x) (hv : bootBuiltins x = some (.type (knS T))) (hn : x ≠ "__name__" := by decide) (hdb : (x == ("__debug__" : Str)) = false := by decide) : QE X ks true true (.Name x p0) (pC (.ty T)) := qe_c (pe_bltn (v := .ty (knS T)) hg hm hv rfl hn hdb) fun _ _ _ _ => .ty T
theorem qe_cls {c : Str} (h : X.mg c = some (.ref (He.ga X.K c))) (hg : Gl X c) (hd : (c == ("__debug__" : Str)) = false := by decide) : QE X ks true true (.Name c p0) (pC (.cls c)) := qe_c (pe_gref h hg hd) fun _ _ _ _ => .cls c
variable {ps' : List Str} {k n c m : Nat} {w : Vl.PW} {ds : List PV} {dvs : List V} {kws : List Keyword} {kn : List Str} {o : Expr} {apos : Pos} {f : Str}
theorem qe_calF (cc : Cal X.prog X.w X.K X.mg X.base x k ps' (spF n w X.K) dvs) (hd : Dfl X.K ds dvs) (hr : Room k X.A) (hg : Gl X x) (h : QA X ks a s (e :: es) pa) (hn : (e :: es).length + dvs.length = n := by rfl) (hdb : (x == ("__debug__" : Str)) = false := by decide)
    (he : starEach (e :: es) X.env = (false, eval e X.env) :: starEach es X.env := by rfl) (hpl : (backTo pos (starEach es X.env)).any (·.1) = false := by rfl) : QE X ks true true (.Call (.Name x p0) (e :: es) [] pos) (pCall w ds pa) := qe_callF (ps := ps') (fun t => pe_cal cc hr hg t hdb he hpl) hd h hn
theorem qe_mthF {pl : Sem Bool} (cc : CalM X.prog X.w X.K X.mg X.base (clsT c).1 f k ps' (spF n w X.K) dvs) (hd : Dfl X.K ds dvs) (hr : Room k X.A) (ho : QE X ks a1 s1 o p) (h : QA X ks a2 s2 (e :: es) pa) (hm : (clsT c).2.all (fun g => !decide (g = f)) = true := by decide +kernel) (hn : (e :: es).length + dvs.length + 1 = n := by rfl)
    (hst : starEach (e :: es) X.env = (false, eval e X.env) :: starEach es X.env := by rfl) (hpl : (backTo pos (starEach es X.env)).any (·.1) = false := by rfl)
    (ht : eval (.Call (.Attribute o f apos) (e :: es) [] pos) X.env = (do
      let ov ← eval o X.env
      standAt apos.atName
      let (f, first) ← holding [ov] (getMethod ov f pl)
      callWith pos f first (backTo pos (starEach (e :: es) X.env)) (backToKw pos (keywordEach [] X.env))) := by rfl) :
    QE X ks true true (.Call (.Attribute o f apos) (e :: es) [] pos) (pMeth c w ds p pa) := qe_methF (fun x y => pe_mth cc hr x y hst hpl ht) hd ho h hm hn
/-- o.m() -/
theorem qe_mth0 {pl : Sem Bool} {sp : Sp} (cc : CalM X.prog X.w X.K X.mg X.base (clsT c).1 f k ps' sp dvs) (hr : Room k X.A) (ho : QE X ks a1 s1 o p)
    (hs : ∀ {E : Ac} {L : List Addr} {γ : G} {σ : St} {H : Hp} {Q : VK} {Qp : PV → Prop} {xs : List PV} {vs : List V}, E.B.K = X.K → Rel E L ks γ σ H → RpL E.B (av E L a1 s1) H xs vs → vs.length = n → w xs Qp → (∀ z t H', Qp z → Ex E.B H H' → Rp E.B (av E L a s) H' z t → Q t H') → sp vs H Q E0)
    (hd : Dfl X.K ds dvs) (hm : (clsT c).2.all (fun g => !decide (g = f)) = true := by decide +kernel) (hn : dvs.length + 1 = n := by rfl)
    (ht : eval (.Call (.Attribute o f apos) [] [] pos) X.env = (do
      let ov ← eval o X.env
      standAt apos.atName
      let (f, first) ← holding [ov] (getMethod ov f pl)
      callWith pos f first (backTo pos (starEach [] X.env)) (backToKw pos (keywordEach [] X.env))) := by rfl) :
    QE X ks a s (.Call (.Attribute o f apos) [] [] pos) (pMeth c w ds p pNil) :=
  PEi (pe_mth0 cc hr ho ht) fun σ H Q ⟨E, L, γ, Qp, hK, R, hp, k⟩ => by
    refine ⟨E, L, γ, _, hK, R, hp, fun x v H1 q1 x1 r1 => ?_⟩
    have r1' := r1
    cases r1 <;> first | exact q1.elim | skip
    rename_i b dx c' ws xs vs n1 h1 h2 h3 r
    obtain ⟨rfl, q1⟩ := q1
    exact ⟨b, dx, ws, rfl, by rw [← hK]; exact h1, no_lookup h2 hm, hs hK (R.ex x1) (.cons r1' (hd.b hK _ _)) (by rw [List.length_cons]; exact hn) q1 fun z t H' qz x3 rz => k z t H' qz (x1.trans x3) rz⟩
theorem qe_mth0F {pl : Sem Bool} (cc : CalM X.prog X.w X.K X.mg X.base (clsT c).1 f k ps' (spF n w X.K) dvs) (hd : Dfl X.K ds dvs) (hr : Room k X.A) (ho : QE X ks a1 s1 o p) (hm : (clsT c).2.all (fun g => !decide (g = f)) = true := by decide +kernel) (hn : dvs.length + 1 = n := by rfl)
    (ht : eval (.Call (.Attribute o f apos) [] [] pos) X.env = (do
      let ov ← eval o X.env
      standAt apos.atName
      let (f, first) ← holding [ov] (getMethod ov f pl)
      callWith pos f first (backTo pos (starEach [] X.env)) (backToKw pos (keywordEach [] X.env))) := by rfl) :
    QE X ks true true (.Call (.Attribute o f apos) [] [] pos) (pMeth c w ds p pNil) := qe_mth0 cc hr ho (fun hK R r hl hw k => call_F hK R r hl hw k) hd hm hn ht
theorem qe_mkKIF (cc : CalIK X.prog X.w X.K X.mg X.base (clsT c).1 k ps' (spIF c n w X.K) (e :: es).length kn (fun vs zs => vs ++ zs)) (hr : Room (k + 1) X.A) (hg : Gl X (clsT c).1) (h : QA X ks a1 s1 (e :: es) pa) (h' : QK X ks a2 s2 kws pb) (hn : (e :: es).length + kws.length = n := by rfl) (hall : (backToKw pos (keywordEach kws X.env)).all (·.1.isSome) = true := by rfl) (hks : (backToKw pos (keywordEach kws X.env)).filterMap (·.1) = kn := by rfl)
    (hdb : ((clsT c).1 == ("__debug__" : Str)) = false := by decide) (he : starEach (e :: es) X.env = (false, eval e X.env) :: starEach es X.env := by rfl)
    (hpl : ((backTo pos (starEach (e :: es) X.env)).any (·.1) || (backToKw pos (keywordEach kws X.env)).any (·.1.isNone)) = false := by rfl)
    (hm : kn.length = kws.length := by rfl) : QE X ks true true (.Call (.Name (clsT c).1 p0) (e :: es) kws pos) (pCallK w pa pb) := qe_makKIF (fun t tk => pe_makK cc hr hg t tk hall hks hdb he hpl hm) h h' hn
theorem qs_setLc {i : Nat} {kk : Kd} {elt iter : Expr} {ifs : List Expr} {scope : Scope} {own : List (Str × Nat)} (pe : ∀ {wi : TI} {g : TG} {tt : TT} {te : TE}, PI X tg iter wi → (∀ (s : Shared) (H : Hp) (C : Addr) (cl : List (Str × Addr)) (fp : List Addr), PG (X.blk s H scope (compEnvC scope cl C X.env) fp) tg g) →
      (∀ (s : Shared) (H : Hp) (C : Addr) (cl : List (Str × Addr)) (fp : List Addr), PTs (X.blk s H scope (compEnvC scope cl C X.env) fp) ifs tt) → (∀ (s : Shared) (H : Hp) (C : Addr) (cl : List (Str × Addr)) (fp : List Addr), PE (X.blk s H scope (compEnvC scope cl C X.env) fp) elt te) → PS X st (tAsg (tLc wi g tt te (own.map (·.2))) (gName i)))
    (hi : QI X ks a1 tg iter pa) (hg : ∀ (s : Shared) (H : Hp) (C : Addr) (cl : List (Str × Addr)) (fp : List Addr), QG (X.blk s H scope (compEnvC scope cl C X.env) fp) ks a1 true (own.map (·.2)) tg g)
    (ht : ∀ (s : Shared) (H : Hp) (C : Addr) (cl : List (Str × Addr)) (fp : List Addr), QTs (X.blk s H scope (compEnvC scope cl C X.env) fp) ks ifs pt) (he : ∀ (s : Shared) (H : Hp) (C : Addr) (cl : List (Str × Addr)) (fp : List Addr), QE (X.blk s H scope (compEnvC scope cl C X.env) fp) ks a true elt p)
    (hk : ks[i]? = some kk := by rfl) (htk : takes kk a true = true := by rfl) : QS X ks ks kl st (pSet i (pLc (own.map (·.2)) pa g pt p)) :=
  PSi (pe hi hg ht he) fun D σ H ⟨E, L, γ, Dp, hK, R, hp, nx, rt, bk, ct⟩ => lc_ok hK R hp (fun _ h => h) fun ys acc D H1 q1 x1 n h r => nx L _ _ H1 x1.fw (by
    have := (R.ex x1).set (i := i) (takes_ok htk (.lst (fun z => av_nn R z n) h (r.anti fun c z => av_cons z))) (List.getElem?_eq_some_iff.mp hk).1
    rw [set_same hk] at this; exact this) q1
end
end Vl
namespace Vl
open PySem PySem.Spec L2 Lb
section
variable {X : Cx} {ks ks' kl : List Kd} {a s a1 s1 a2 s2 a3 s3 : Bool} {e e1 e2 e3 tg : Expr} {es ifs : List Expr} {st : Stmt} {sts sts' : List Stmt} {p p1 p2 p3 : GE} {pa pb : GA} {pt : GT} {ps q : GS} {g g' : GG} {pos : Pos} {js vs : List Nat}
theorem Rel.moreL {E : Ac} {L : List Addr} {γ : G} {σ : St} {H H' : Hp} (R : Rel E L ks γ σ H) (x : Ex E.B H H') : ∀ (ds : List Addr), (∀ d ∈ ds, H d = none ∧ H' d ≠ none) → Rel E (ds ++ L) ks γ σ H'
  | [], _ => R.ex x
  | d :: ds, h => by
    have ih := R.moreL x ds fun c m => h c (by simp [m])
    refine ⟨ih.old, ih.onn, ih.bag, ih.a0, ih.aq, ih.ar, fun c m => ?_, ih.len, ?_⟩
    · rcases List.mem_cons.mp m with rfl | m
      · refine ⟨?_, (h c (by simp)).2⟩
        cases q : E.H0 c with
        | none => rfl
        | some o => exact absurd (h c (by simp)).1 (R.onn c (by rw [q]; exact nofun))
      · exact ih.lf c m
    · obtain ⟨O, h1, h2, h3, h4⟩ := R.sl
      refine ⟨O, fun i y hx => ?_, fun i c m => by simp; exact .inr (.inr (h2 i c m)), h3, h4⟩
      obtain ⟨v, hv, k⟩ := h1 i y hx
      refine ⟨v, hv, k.mv (fun a u e n _ => x.st a u e n) x.tp (fun c m => ?_) fun c m u e => x.st c u e (R.lq (h2 i c m))⟩
      have m' : c ∈ (d :: ds) ++ L := m
      rcases List.mem_append.mp m' with m | m
      · exact .inr (h c m).1
      · exact .inl m
theorem Fw.moreL {B : Bg} {L : List Addr} {H H' : Hp} {ds : List Addr} (x : Ex B H H') (h : ∀ d ∈ ds, H d = none) : Fw B L H (ds ++ L) H' where
  st := fun a u e _ m => x.st a u e m
  tp := x.tp
  nn := x.nn
  ls := fun a m => (List.mem_append.mp m).elim (fun z => .inr (h a z)) .inl
theorem Obs.nn {B : Bg} {A : Addr → Prop} {H : Hp} : ∀ {xs : List PV} {as : List Addr}, Obs B A H xs as → ∀ b ∈ as, H b ≠ none
  | _, _, .nil, _, m => nomatch m
  | _, _, .cons h t, b, m => by
    rcases List.mem_cons.mp m with rfl | m
    · rename_i x _ _
      cases x <;> first | exact (h : False).elim | (obtain ⟨_, h, _⟩ := h; rw [h]; exact nofun) | (obtain ⟨_, _, h, _⟩ := h; rw [h]; exact nofun)
    · exact t.nn b m
theorem Obs.append {B : Bg} {A : Addr → Prop} {H : Hp} : ∀ {xs ys : List PV} {as bs : List Addr}, Obs B A H xs as → Obs B A H ys bs → Obs B A H (xs ++ ys) (as ++ bs)
  | _, _, _, _, .nil, t => t
  | _, _, _, _, .cons h r, t => .cons h (r.append t)
theorem Obs.get {B : Bg} {A : Addr → Prop} {H : Hp} : ∀ {xs : List PV} {as : List Addr}, Obs B A H xs as → ∀ {i : Nat} {x : PV}, xs[i]? = some x → ∃ b, as[i]? = some b ∧ Ob B A H b x
  | _, _, .nil, _, _, e => by simp at e
  | _, _, .cons h _, 0, _, e => by simp at e; subst e; exact ⟨_, rfl, h⟩
  | _, _, .cons _ t, i + 1, _, e => by simpa using t.get (by simpa using e)
theorem Obs.len {B : Bg} {A : Addr → Prop} {H : Hp} : ∀ {xs : List PV} {as : List Addr}, Obs B A H xs as → xs.length = as.length
  | _, _, .nil => rfl
  | _, _, .cons _ t => by simp [t.len]
theorem Obs.set {B : Bg} {A : Addr → Prop} {H H' : Hp} (f : ∀ c x, Ob B A H c x → ∀ o, H c = some o → H' c = some o → Ob B A H' c x) : ∀ {xs : List PV} {as : List Addr} {i : Nat} {b : Addr} {y : PV}, Obs B A H xs as → as[i]? = some b → as.Nodup → (∀ c, c ≠ b → c ∈ as → ∀ o, H c = some o → H' c = some o) → (∀ c ∈ as, ∃ o, H c = some o) → Ob B A H' b y → Obs B A H' (xs.set i y) as
  | _, _, _, _, _, .nil, e, _, _, _, _ => by simp at e
  | _, _, 0, b, y, .cons (a := c) (as := as) h t, e, nd, g, hh, hb => by
    simp at e; subst e
    rw [List.nodup_cons] at nd
    refine .cons hb ?_
    have : ∀ {xs : List PV} {as' : List Addr}, Obs B A H xs as' → (∀ d ∈ as', d ∈ as) → Obs B A H' xs as' := by
      intro xs as' o
      induction o with
      | nil => intro _; exact .nil
      | cons h0 t0 ih =>
        rename_i x0 xs0 d ds
        intro hm
        have hd : d ∈ as := hm d (by simp)
        obtain ⟨o0, ho⟩ := hh d (by simp [hd])
        exact .cons (f _ _ h0 o0 ho (g d (fun z => nd.1 (z ▸ hd)) (by simp [hd]) o0 ho)) (ih fun d' m => hm d' (by simp [m]))
    exact this t fun d m => m
  | _, _, i + 1, b, y, .cons (a := c) (as := as) h t, e, nd, g, hh, hb => by
    rw [List.nodup_cons] at nd
    have e' : as[i]? = some b := by simpa using e
    have hc : c ≠ b := fun z => nd.1 (by rw [z]; exact List.mem_of_getElem? e')
    obtain ⟨o0, ho⟩ := hh c (by simp)
    exact .cons (f _ _ h o0 ho (g c hc (by simp) o0 ho)) (t.set f e' nd.2 (fun d n m => g d n (by simp [m])) (fun d m => hh d (by simp [m])) hb)
end
end Vl
namespace Vl
open PySem PySem.Spec L2 Lb
abbrev bx (K : Fg) (i : Int) : TE := tOp (rIx K) (tVar 0) (tC (.int i))
abbrev ci (i : Int) : TE := tC (.int i)
/-- its second half -/
def t_tkB (K : Fg) : TS := tSeq (tIfS (tTest (tOp rGtA (bx K 0) (ci 0)))
    (tSeq (tAsg (tOp rModA (bx K 0) (tVar 1)) (gName 3))
    (tSeq (tAsg (tOp rDivA (bx K 0) (tVar 1)) (gSub (tVar 0) (ci 0) rSetL))
      (tRet (tVar 3)))) tNext)
  (tSeq (tAsg (tOp rModA (tOp rMulA (tOp rAddA (bx K 1) (ci 1)) (ci 39373)) (ci 1000000007)) (gName 4))
  (tSeq (tAsg (tOp rModA (tOp rMulA (tOp rModA (tOp rMulA (tVar 4) (tVar 4)) (ci 998244353)) (ci 30011)) (ci 998244353)) (gName 5))
  (tSeq (tIfS (tTest (tOp rGtA (tVar 1) (ci 1000000))) (tRet (tOp rModA (tOp rAddA (tOp rMulA (tVar 5) (ci 1000000007)) (tVar 4)) (tVar 1))) tNext)
    (tRet (tOp rModA (tOp rDivA (tVar 5) (ci 7)) (tVar 1))))))
def t_tkL (K : Fg) : TS := tAsg (tOp rModA (tOp rAddA (tOp rAddA (tOp rMulA (bx K 1) (ci 48271)) (tOp rModA (tVar 2) (ci 2147483647))) (tOp rMulA (ci 7919) (bx K 2))) (ci 2147483647)) (gSub (tVar 0) (ci 1) rSetL)
def t_tkM (K : Fg) : TS := tSeq (tIfS (tTest (tOp rGeA (tVar 2) (ci 1000000000000000000))) (tAsg (tVar 2) (gSub (tVar 0) (ci 0) rSetL)) tNext) (t_tkL K)
def t_tkN (K : Fg) : TS := tSeq (tAugS (tVar 0) (ci 2) (ci 1) (rGetL K) ipAddA rSetL) (t_tkM K)
def t_tkC (K : Fg) : TS := tSeq (tIfS (tTest (tOp rLtA (bx K 2) (tCB (rLen K) (tCons (bx K 3) tNil)))) (tAsg (tOp (rIx K) (bx K 3) (bx K 2)) (gName 2)) tNext) (t_tkN K)
def t_take (K : Fg) : TS := tSeq (tIfS (tTest (tOp (rEqA K) (bx K 0) (ci 0))) (tSeq (tAsg (ci 0) (gName 2)) (t_tkC K)) tNext) (t_tkB K)
def w_law_take : Vl.PW := fun xs Q => match xs with | [.bag, .int n] => (0 < n ∧ n < 2 ^ 62) ∧ ∀ v : Int, 0 ≤ v → v < n → Q (.int v) | _ => False
section
variable {K : Fg} {H : Hp} {Q : VK} {q r : Addr} {l : St} {a0 a1 a2 a3 : V}
theorem bx0 (h : H q = some (.lst [a0, a1, a2, a3])) (k : Q a0 H) : bx K 0 (some (.ref q) :: l) H Q := ⟨.ref q, rfl, .inl ⟨q, _, 0, a0, rfl, rfl, .inl (.inl h), rfl, k⟩⟩
theorem bx1 (h : H q = some (.lst [a0, a1, a2, a3])) (k : Q a1 H) : bx K 1 (some (.ref q) :: l) H Q := ⟨.ref q, rfl, .inl ⟨q, _, 1, a1, rfl, rfl, .inl (.inl h), rfl, k⟩⟩
theorem bx2 (h : H q = some (.lst [a0, a1, a2, a3])) (k : Q a2 H) : bx K 2 (some (.ref q) :: l) H Q := ⟨.ref q, rfl, .inl ⟨q, _, 2, a2, rfl, rfl, .inl (.inl h), rfl, k⟩⟩
theorem bx3 (h : H q = some (.lst [a0, a1, a2, a3])) (k : Q a3 H) : bx K 3 (some (.ref q) :: l) H Q := ⟨.ref q, rfl, .inl ⟨q, _, 3, a3, rfl, rfl, .inl (.inl h), rfl, k⟩⟩
theorem ifT {c : Bool} {A B : Prop} (h : c = true) (k : A) : if c = true then A else B := by rw [if_pos h]; exact k
theorem ifF {c : Bool} {A B : Prop} (h : c = false) (k : B) : if c = true then A else B := by rw [if_neg (by rw [h]; decide)]; exact k
/-- the last part of a draw -/
theorem take_end {n x y : Int} {z : Int} {cs : List Int} {v2 v3 v4 v5 : Option V} {D : Ends} (hn : 0 < n ∧ n < 2 ^ 62) (hq : H q = some (.lst [.int x, .int y, .int z, .ref r])) (hx : 0 ≤ x) (hy : 0 ≤ y)
    (k : ∀ v : Int, 0 ≤ v → v < n → ∀ x' H', 0 ≤ x' → H' = H ∨ H' = upd H q (.lst [.int x', .int y, .int z, .ref r]) → D.rt (.int v) H') :
    t_tkB K D [some (.ref q), some (.int n), v2, v3, v4, v5] H := by
  unfold t_tkB
  refine bx0 hq ⟨x, 0, rfl, rfl, _, rfl, ?_⟩
  by_cases hx0 : 0 < x
  · refine ifT (decide_eq_true hx0) ?_
    refine bx0 hq ⟨.int n, rfl, x, n, rfl, rfl, hn.1, ?_⟩
    refine bx0 hq ⟨.int n, rfl, x, n, rfl, rfl, ⟨hn.1, ?_⟩, ⟨.ref q, rfl, q, _, 0, 0, rfl, rfl, hq, rfl, ?_⟩⟩
    · have : n.natAbs < 2 ^ 62 := by omega
      have := (Nat.log2_lt (by omega)).mpr this
      omega
    · exact ⟨.int (x % n), rfl, k _ (Int.emod_nonneg _ (by omega)) (Int.emod_lt_of_pos _ hn.1) (x / n) _ (Int.ediv_nonneg hx (by omega)) (.inr rfl)⟩
  · refine ifF (decide_eq_false hx0) ?_
    have hf := Int.emod_nonneg ((y + 1) * 39373) (b := 1000000007) (by decide)
    have hf' := Int.emod_lt_of_pos ((y + 1) * 39373) (b := 1000000007) (by decide)
    have p1 : (0 : Int) < 1000000007 := by decide
    have p2 : (0 : Int) < 998244353 := by decide
    refine bx1 hq (.inl ⟨y, 1, rfl, rfl, .inl ⟨y + 1, 39373, rfl, rfl, .inr ⟨by decide, by decide⟩, (y + 1) * 39373, 1000000007, rfl, rfl, p1, ?_⟩⟩)
    obtain ⟨f, hfe⟩ : ∃ f, f = (y + 1) * 39373 % 1000000007 := ⟨_, rfl⟩
    rw [← hfe] at hf hf'
    show tSeq _ _ D [some (.ref q), some (.int n), v2, v3, some (.int ((y + 1) * 39373 % 1000000007)), v5] H
    rw [← hfe]
    refine ⟨.int f, rfl, .int f, rfl, .inl ⟨f, f, rfl, rfl, .inl ⟨by omega, by omega⟩, f * f, 998244353, rfl, rfl, p2, .inl ⟨f * f % 998244353, 30011, rfl, rfl, .inr ⟨by decide, by decide⟩, _, 998244353, rfl, rfl, p2, ?_⟩⟩⟩
    obtain ⟨g, hge⟩ : ∃ g, g = f * f % 998244353 * 30011 % 998244353 := ⟨_, rfl⟩
    show tSeq _ _ D [some (.ref q), some (.int n), v2, v3, some (.int f), some (.int (f * f % 998244353 * 30011 % 998244353))] H
    rw [← hge]
    refine ⟨.int n, rfl, n, 1000000, rfl, rfl, _, rfl, ?_⟩
    by_cases hb : 1000000 < n
    · refine ifT (decide_eq_true hb) ?_
      exact ⟨.int g, rfl, .inl ⟨g, 1000000007, rfl, rfl, .inr ⟨by decide, by decide⟩, .int f, rfl, .inl ⟨g * 1000000007, f, rfl, rfl, .int n, rfl, _, n, rfl, rfl, hn.1, k _ (Int.emod_nonneg _ (by omega)) (Int.emod_lt_of_pos _ hn.1) x _ hx (.inl rfl)⟩⟩⟩
    · refine ifF (decide_eq_false hb) ?_
      exact ⟨.int g, rfl, g, 7, rfl, rfl, ⟨by decide, by decide⟩, .int n, rfl, _, n, rfl, rfl, hn.1, k _ (Int.emod_nonneg _ (by omega)) (Int.emod_lt_of_pos _ hn.1) x _ hx (.inl rfl)⟩
theorem tkL_ok {x y z c : Int} {l : St} {v1 : Option V} {D : Ends} (hq : H q = some (.lst [.int x, .int y, .int z, .ref r])) (k : ∀ y' : Int, 0 ≤ y' → y' < 2147483647 → D.nx (some (.ref q) :: v1 :: some (.int c) :: l) (upd H q (.lst [.int x, .int y', .int z, .ref r]))) :
    t_tkL K D (some (.ref q) :: v1 :: some (.int c) :: l) H := by
  have p3 : (0 : Int) < 2147483647 := by decide
  refine bx1 hq (.inl ⟨y, 48271, rfl, rfl, .inr ⟨by decide, by decide⟩, .int c, rfl, c, 2147483647, rfl, rfl, p3, .inl ⟨_, _, rfl, rfl, bx2 hq (.inl ⟨7919, z, rfl, rfl, .inl ⟨by decide, by decide⟩, .inl ⟨_, _, rfl, rfl, _, 2147483647, rfl, rfl, p3, ?_⟩⟩)⟩⟩)
  exact ⟨.ref q, rfl, q, _, 1, 1, rfl, rfl, hq, rfl, k _ (Int.emod_nonneg _ (by decide)) (Int.emod_lt_of_pos _ p3)⟩
theorem tkM_ok {x y z c : Int} {l : St} {v1 : Option V} {D : Ends} (hc : 0 ≤ c) (hx : 0 ≤ x) (hq : H q = some (.lst [.int x, .int y, .int z, .ref r])) (k : ∀ x' y' : Int, 0 ≤ x' → 0 ≤ y' → y' < 2147483647 → D.nx (some (.ref q) :: v1 :: some (.int c) :: l) (upd H q (.lst [.int x', .int y', .int z, .ref r]))) :
    t_tkM K D (some (.ref q) :: v1 :: some (.int c) :: l) H := by
  refine ⟨.int c, rfl, c, 1000000000000000000, rfl, rfl, _, rfl, ?_⟩
  by_cases hb : 1000000000000000000 ≤ c
  · refine ifT (decide_eq_true hb) ⟨.int c, rfl, .ref q, rfl, q, _, 0, 0, rfl, rfl, hq, rfl, ?_⟩
    refine tkL_ok (H := upd H q (.lst [.int c, .int y, .int z, .ref r])) upd_same fun y' h0 h1 => ?_
    rw [upd_upd]; exact k c y' hc h0 h1
  · exact ifF (decide_eq_false hb) (tkL_ok hq fun y' h0 h1 => k x y' hx h0 h1)
theorem tkN_ok {x y c : Int} {z : Nat} {l : St} {v1 : Option V} {D : Ends} (hc : 0 ≤ c) (hx : 0 ≤ x) (hq : H q = some (.lst [.int x, .int y, .int (z : Nat), .ref r])) (k : ∀ x' y' : Int, 0 ≤ x' → 0 ≤ y' → y' < 2147483647 → D.nx (some (.ref q) :: v1 :: some (.int c) :: l) (upd H q (.lst [.int x', .int y', .int ((z + 1 : Nat) : Int), .ref r]))) :
    t_tkN K D (some (.ref q) :: v1 :: some (.int c) :: l) H := by
  refine ⟨.ref q, rfl, q, _, 2, .int (z : Nat), rfl, rfl, .inl (.inl hq), rfl, .inl ⟨(z : Int), 1, rfl, rfl, q, _, 2, 2, rfl, rfl, hq, rfl, ?_⟩⟩
  have hz1 : ((z + 1 : Nat) : Int) = (z : Int) + 1 := by omega
  refine tkM_ok (H := upd H q (.lst [.int x, .int y, .int ((z : Int) + 1), .ref r])) hc hx upd_same fun x' y' h1 h2 h3 => ?_
  rw [upd_upd, ← hz1]; exact k x' y' h1 h2 h3
theorem tkC_ok {x y : Int} {z : Nat} {cs : List Int} {l : St} {v1 : Option V} {D : Ends} (hcs : ∀ c ∈ cs, 0 ≤ c) (hx : 0 ≤ x) (hq : H q = some (.lst [.int x, .int y, .int (z : Nat), .ref r])) (hr : H r = some (.lst (cs.map V.int)))
    (k : ∀ c x' y' : Int, 0 ≤ x' → 0 ≤ y' → y' < 2147483647 → D.nx (some (.ref q) :: v1 :: some (.int c) :: l) (upd H q (.lst [.int x', .int y', .int ((z + 1 : Nat) : Int), .ref r]))) :
    t_tkC K D (some (.ref q) :: v1 :: some (.int 0) :: l) H := by
  refine bx2 hq (bx3 hq ⟨.ref r, cs.length, rfl, .inl ⟨_, .inl (.inl hr), by simp⟩, .inl ⟨(z : Int), (cs.length : Int), rfl, rfl, _, rfl, ?_⟩⟩)
  by_cases hz : (z : Int) < (cs.length : Int)
  · have hz' : z < cs.length := by omega
    refine ifT (decide_eq_true hz) (bx3 hq (bx2 hq (.inl ⟨r, _, z, .int cs[z], rfl, rfl, .inl (.inl hr), ?_, ?_⟩)))
    · unfold atI ixN
      rw [List.length_map, if_pos (by omega), if_pos hz]; simp [hz']
    · exact tkN_ok (c := cs[z]) (hcs _ (List.getElem_mem hz')) hx hq fun x' y' h1 h2 h3 => k _ x' y' h1 h2 h3
  · exact ifF (decide_eq_false hz) (tkN_ok (c := 0) (Int.le_refl 0) hx hq fun x' y' h1 h2 h3 => k _ x' y' h1 h2 h3)
theorem pure_take {vs : List V} {E : XK} (h : spF 2 w_law_take K vs H Q E) : t_take K ⟨fun _ H' => Q .non H', Q, fun _ _ => False, fun _ _ => False⟩ (start ["_law_bag_here", "_law_many", "_law_cell", "_law_value", "_law_first", "_law_second"] vs) H := by
  obtain ⟨q, r, xs, Qp, hl, bg, rx, w, k⟩ := h
  match xs, rx, w with
  | [_, _], .cons r1 (.cons r2 .nil), w =>
    cases r1 <;> first | exact (w : False).elim | skip
    cases r2 <;> first | exact (w : False).elim | skip
    rename_i n
    obtain ⟨hn, w⟩ := w
    obtain ⟨x, y, z, cs, hq, hr, nrq, hx, hy, hy2, hcs⟩ := bg
    have fin : ∀ (x' y' : Int) (z' : Nat) (H' : Hp), (∀ a o, a ≠ q → H a = some o → H' a = some o) → (∀ a, H a ≠ none → H' a ≠ none) → H' q = some (.lst [.int x', .int y', .int z', .ref r]) → 0 ≤ x' → 0 ≤ y' → y' < 2147483647 → ∀ v : Int, 0 ≤ v → v < n → Q (.int v) H' := fun x' y' z' H' st nn hq' hx' hy' hy2' v h0 h1 =>
      k (.int v) _ H' (w v h0 h1) ⟨fun a o e m => st a o m e, fun a u e => st a _ (fun z => by rw [z] at e; rw [hq] at e; cases e) e, nn, fun _ => ⟨x', y', z', cs, hq', st _ _ nrq hr, nrq, hx', hy', hy2', hcs⟩⟩ (.int v)
    have nu : ∀ {H1 : Hp} {o : HO}, (∀ a, H a ≠ none → H1 a ≠ none) → ∀ a, H a ≠ none → upd H1 q o a ≠ none := fun {H1 o} nn a m => by
      by_cases z : a = q
      · rw [z, upd_same]; exact nofun
      · rw [upd_ne z]; exact nn a m
    have half : ∀ (x' y' : Int) (z' : Nat) (H' : Hp) (v2 : Option V), (∀ a o, a ≠ q → H a = some o → H' a = some o) → (∀ a, H a ≠ none → H' a ≠ none) → H' q = some (.lst [.int x', .int y', .int z', .ref r]) → 0 ≤ x' → 0 ≤ y' → y' < 2147483647 →
        t_tkB K ⟨fun _ H' => Q .non H', Q, fun _ _ => False, fun _ _ => False⟩ [some (.ref q), some (.int n), v2, none, none, none] H' := fun x' y' z' H' v2 st nn hq' hx' hy' hy2' =>
      take_end (cs := cs) hn hq' hx' hy' fun v h0 h1 x2 H2 hx2 e => by
        rcases e with rfl | rfl
        · exact fin x' y' z' _ st nn hq' hx' hy' hy2' v h0 h1
        · exact fin x2 y' z' _ (fun a o m e => by rw [upd_ne m]; exact st a o m e) (nu nn) upd_same hx2 hy' hy2' v h0 h1
    show t_take K _ [some (.ref q), some (.int n), none, none, none, none] H
    unfold t_take
    refine bx0 hq (.inl ⟨rfl, ⟨_, rfl, ?_⟩⟩)
    by_cases h0 : x = 0
    · refine ifT (decide_eq_true (by rw [h0])) ?_
      refine tkC_ok (D := ⟨t_tkB K ⟨fun _ H' => Q .non H', Q, fun _ _ => False, fun _ _ => False⟩, Q, fun _ _ => False, fun _ _ => False⟩) (l := [none, none, none]) (v1 := some (.int n)) hcs hx hq hr fun c x' y' h1 h2 h3 => ?_
      exact half x' y' (z + 1) _ (some (.int c)) (fun a o m e => by rw [upd_ne m]; exact e) (nu fun a m => m) upd_same h1 h2 h3
    · refine ifF (decide_eq_false (fun z => h0 (V.int.inj z))) ?_
      exact half x y z H none (fun a o _ e => e) (fun a m => m) hq hx hy hy2
  | [], _, w => exact (w : False).elim
  | [_], .cons r1 .nil, w => cases r1 <;> exact (w : False).elim
  | _ :: _ :: _ :: _, .cons r1 (.cons r2 _), w => cases r1 <;> cases r2 <;> exact (w : False).elim
end
end Vl
namespace Vl
open PySem PySem.Spec L2 Lb
def t_bag (K : Fg) : TS := tRet (tLst (tCons (ci 0) (tCons (ci 1234567891) (tCons (ci 0) (tCons (tLc (iList K (tSl (rSlL K) (tVar 0) tNoPart (tPart (ci 63)))) (gName 1) tYes (tCB rAbs (tCons (tVar 1) tNil)) [1]) tNil)))))
def spBag (K : Fg) : Sp := fun vs H Q _ => ∃ (a : Addr) (ns : List Int), vs = [.ref a] ∧ SqL K H a (ns.map V.int) ∧ ns.length ≤ sizeLine ∧ ∀ (q r : Addr) (cs : List Int) (H' : Hp), (∀ b o, H b = some o → H' b = some o) → BagOk ⟨K, q, r⟩ H' → H' q = some (.lst [.int 0, .int 1234567891, .int 0, .ref r]) → H' r = some (.lst (cs.map V.int)) → Q (.ref q) H'
section
variable {K : Fg} {H : Hp} {Q : VK}
def absI (i : Int) : Int := if i < 0 then -i else i
theorem absI_nn (i : Int) : 0 ≤ absI i := by unfold absI; split <;> omega
theorem yesT {σ : St} {A B : Hp → Prop} (k : A H) : tYes σ H fun b H' => if b = true then A H' else B H' := by
  show if true = true then A H else B H
  rw [if_pos rfl]; exact k
theorem pure_bag {vs : List V} {E : XK} (h : spBag K vs H Q E) : t_bag K ⟨fun _ H' => Q .non H', Q, fun _ _ => False, fun _ _ => False⟩ (start ["_law_script", "_law_cell"] vs) H := by
  obtain ⟨a, ns, rfl, hs, hn, k⟩ := h
  show t_bag K _ [some (.ref a), none] H
  refine ⟨.ref a, rfl, 63, rfl, a, _, rfl, hs, fun p np => ?_⟩
  obtain ⟨ms, hms, hml⟩ : ∃ ms : List Int, cutV (ns.map V.int) none (some 63) = ms.map V.int ∧ ms.length ≤ sizeLine := by
    refine ⟨(ns.drop (HT.sIx (ns.map V.int).length 0 none)).take (HT.sIx (ns.map V.int).length (ns.map V.int).length (some 63) - HT.sIx (ns.map V.int).length 0 none), ?_, ?_⟩
    · unfold cutV; rw [List.map_take, List.map_drop]
    · exact Nat.le_trans (by rw [List.length_take, List.length_drop]; omega) hn
  rw [hms]
  refine ⟨p, rfl, ⟨_, .inl (.inl upd_same)⟩, fun D nD => ?_⟩
  have pD : p ≠ D := fun z => by rw [← z, upd_same] at nD; cases nD
  have st0 : ∀ b o, H b = some o → upd (upd H p (.lst (ms.map V.int))) D (.lst []) b = some o := fun b o e => by
    have bp : b ≠ p := ne_of_none e np
    rw [upd_ne (fun z => by rw [← z, upd_ne bp, e] at nD; cases nD), upd_ne bp]; exact e
  refine ⟨fun i m H2 => m = ms.length - i ∧ i ≤ ms.length ∧ (∀ b o, H b = some o → H2 b = some o) ∧ H2 p = some (.lst (ms.map V.int)) ∧ H2 D = some (.lst (((ms.take i).map absI).map V.int)), ⟨_, rfl, by simp, st0, by rw [upd_ne pD, upd_same], by rw [upd_same]; simp⟩, ?_⟩
  rintro i m H2 ⟨rfl, hi0, st, hp, hD⟩
  by_cases hi : i < ms.length
  · right
    refine ⟨⟨ms.map V.int, .int ms[i], .inl (.inl hp), by simp [hi]⟩, fun H' => H' p = some (.lst (ms.map V.int)) ∧ H' D = some (.lst (((ms.take (i + 1)).map absI).map V.int)) ∧ ∀ b o, H b = some o → H' b = some o, fun H' ⟨h1, h2, h3⟩ => ⟨_, by omega, rfl, by omega, h3, h1, h2⟩, ?_⟩
    rintro v H3 ⟨rfl, hv⟩
    have := hv _ (.inl (.inl hp))
    have e : v = .int ms[i] := by
      rw [List.getElem?_map, List.getElem?_eq_getElem hi] at this; simpa using this.symm
    subst e
    refine ⟨rfl, ?_⟩
    refine yesT ⟨.int ms[i], rfl, ms[i], rfl, _, hD, ?_, ?_⟩
    · simp; omega
    · refine ⟨by rw [upd_ne pD]; exact hp, ?_, fun b o e => ?_⟩
      · rw [upd_same, List.take_add_one, List.getElem?_eq_getElem hi]
        simp only [Option.toList_some, List.map_append, List.map_cons, List.map_nil]; rfl
      · by_cases z : b = D
        · rw [z] at e
          rw [upd_ne (fun z => pD z.symm), e] at nD; cases nD
        · rw [upd_ne z]; exact st b o e
  · left
    have hi : ms.length ≤ i := Nat.not_lt.mp hi
    refine ⟨⟨_, .inl (.inl hp), by simpa using hi⟩, few (n := 4) (by decide), fun q nq => ?_⟩
    have qD : D ≠ q := fun z => by rw [← z, hD] at nq; cases nq
    refine k q D ((ms.take i).map absI) _ (fun b o e => by rw [upd_ne (fun z => by rw [z] at e; have := st q o e; rw [nq] at this; cases this)]; exact st b o e) ⟨0, 1234567891, 0, (ms.take i).map absI, upd_same, by rw [upd_ne qD]; exact hD, qD, by decide, by decide, by decide, fun c m => ?_⟩ upd_same (by rw [upd_ne qD]; exact hD)
    obtain ⟨x, _, rfl⟩ := List.mem_map.mp m
    exact absI_nn x
/-- the rest of the law, when the bag is there -/
def spLaw (K : Fg) : Sp := fun vs H Q _ => ∃ (a : Addr) (ns : List Int), vs = [.ref a] ∧ SqL K H a (ns.map V.int) ∧ ns.length ≤ sizeLine ∧ ∀ H', Q (.bl true) H'
def lawG (N : Nat) : G := none :: some .bag :: List.replicate (N - 2) none
def lawD : GD := ⟨fun _ => False, fun x _ => x = .bl true, fun _ => False, fun _ => False⟩
theorem body_law {X : Cx} {N : List Str} {ks ks' kl : List Kd} {st : Stmt} {sts : List Stmt} {p : GS} {vs : List V} {E : XK} (h0 : PS X st (tAsg (tCall (spBag X.K) [] E0 (tCons (tVar 0) tNil)) (gName 1))) (h : QB X ks ks' kl sts p) (hk : kd ks 1 = .sh) (hN : 2 ≤ N.length) (hp : p lawD (lawG N.length)) (hs : spLaw X.K vs H Q E) :
    ∃ t, PSs X (st :: sts) t ∧ t { nx := fun _ H' => Q .non H', rt := Q } (start N vs) H := by
  obtain ⟨a, ns, rfl, hS, hn, k⟩ := hs
  refine ⟨_, pss_cons h0 h, ?_⟩
  obtain ⟨n, hn2⟩ : ∃ n, N.length = n + 2 := ⟨N.length - 2, by omega⟩
  have es : start N [.ref a] = some (.ref a) :: none :: List.replicate n none := by
    simp [L2.start, hn2, List.replicate_succ]
  rw [es]
  refine ⟨.ref a, rfl, a, ns, rfl, hS, hn, fun q r cs H' st0 bg hq hr => ?_⟩
  have R : Rel ⟨⟨X.K, q, r⟩, fun b => b = q, H', 0⟩ [] ks (lawG N.length) (some (.ref a) :: some (.ref q) :: List.replicate n none) H' := by
    refine ⟨fun _ _ h _ => h, fun _ h => h, bg, fun b z => by have z : b = q := z; rw [z]; exact bg.q, rfl, by show H' r ≠ none; rw [hr]; exact nofun, by simp, by simp [lawG, hn2], ?_⟩
    refine ⟨fun _ => [], fun i x h => ?_, by simp, by simp, by simp⟩
    rcases i with _ | _ | i
    · simp [lawG] at h
    · simp [lawG] at h; subst h
      refine ⟨.ref q, rfl, ?_⟩
      rw [hk]; exact ⟨rfl, .bag⟩
    · simp only [lawG, List.getElem?_cons_succ] at h
      have := List.mem_of_getElem? h
      simp at this
  refine ⟨⟨⟨X.K, q, r⟩, fun b => b = q, H', 0⟩, [], lawG N.length, lawD, rfl, R, hp, fun _ _ _ _ _ _ z => z.elim, fun x _ v H2 ⟨r1, _⟩ q1 => ?_, fun _ _ _ _ _ _ z => z.elim, fun _ _ _ _ _ _ z => z.elim⟩
  have q1 : x = .bl true := q1
  subst q1
  cases r1
  exact k H2
end
end Vl
namespace Vl
open PySem PySem.Spec L2 Lb
def gvB (K : Fg) (n : Str) (x : PV) : Bool := match PySem.W.nsIn K mainGlobals n with
  | some (some u) => ckV K x u
  | _ => false
def insB (K : Fg) (C : Str) : Bool := (He.Fa.cls C).ok K && (He.eqO (PySem.W.findIn K (.ref (He.ga K C)) "__class__") (some (some (.builtin "object.__class__"))) && (He.eqO (PySem.W.specialIn K (.builtin "object.__class__") "__get__") (some (some (.builtin "getset_descriptor.__get__"))) &&
  (decide (PySem.W.takesIn K (.builtin "object.__class__") = some true) && (decide (PySem.W.mroIn K (He.ga K C) (.type "object") = some true) && decide (PySem.W.kitOne K (.ref (He.ga K C)) (.ref (He.ga K C)) = some true)))))
theorem insB_ok {K : Fg} {C : Str} (h : insB K C = true) : C8.InsC K (He.ga K C) := by
  obtain ⟨h1, h⟩ := He.ba h
  obtain ⟨h2, h⟩ := He.ba h
  obtain ⟨h3, h⟩ := He.ba h
  obtain ⟨h4, h⟩ := He.ba h
  obtain ⟨h5, h6⟩ := He.ba h
  exact ⟨He.cls_ok h1, He.eqO_ok h2, He.eqO_ok h3, of_decide_eq_true h4, of_decide_eq_true h5, of_decide_eq_true h6⟩
theorem gvB_ok {K : Fg} {h : Heap} {mg : Str → Option Value} {n : Str} {x : PV} (X : K.In h) (G : h.Ns mainGlobals mg) (c : gvB K n x = true) : GV K mg n x := by
  unfold gvB at c
  cases e : PySem.W.nsIn K mainGlobals n with
  | none => rw [e] at c; cases c
  | some o =>
    rw [e] at c
    cases o with
    | none => cases c
    | some u => exact ⟨u, PySem.W.mg_of X G e, c⟩
theorem all_at {K : Fg} : ∀ {l : List (Fg → Bool)} (i : Nat) {f : Fg → Bool}, (l.all fun f => f K) = true → l[i]? = some f → f K = true := fun {l} i {f} h e => List.all_eq_true.mp h f (List.mem_of_getElem? e)
end Vl
namespace Vl
open PySem PySem.Spec L2 Lb
def setS (γ : G) : Nat → Option PV → (G → Prop) → Prop :=
  List.rec (motive := fun _ => Nat → Option PV → (G → Prop) → Prop) (fun _ _ K => K [])
    (fun a l ih i x K => Nat.rec (motive := fun _ => Prop) (K (x :: l)) (fun i _ => ih i x fun l' => K (a :: l')) i) γ
theorem setS_eq : ∀ (γ : G) (i : Nat) (x : Option PV) (K : G → Prop), setS γ i x K = K (γ.set i x)
  | [], _, _, _ => rfl
  | _ :: _, 0, _, _ => rfl
  | a :: l, i + 1, x, K => setS_eq l i x fun l' => K (a :: l')
def wipeS (γ : G) (vs : List Nat) : (G → Prop) → Prop :=
  List.rec (motive := fun _ => (G → Prop) → Prop) (fun K => K γ) (fun v _ ih K => ih fun γ1 => setS γ1 v none K) vs
theorem wipeS_eq (γ : G) : ∀ (vs : List Nat) (K : G → Prop), wipeS γ vs K = K (wipeG γ vs)
  | [], _ => rfl
  | v :: vs, K => (wipeS_eq γ vs fun γ1 => setS γ1 v none K).trans (setS_eq _ _ _ _)
def noneS (n : Nat) : (G → Prop) → Prop := Nat.rec (motive := fun _ => (G → Prop) → Prop) (fun K => K []) (fun _ ih K => ih fun l => K (none :: l)) n
theorem noneS_eq : ∀ (n : Nat) (K : G → Prop), noneS n K = K (List.replicate n none)
  | 0, _ => rfl
  | n + 1, K => by rw [List.replicate_succ]; exact noneS_eq n fun l => K (none :: l)
def startS (xs : List PV) : Nat → (G → Prop) → Prop :=
  List.rec (motive := fun _ => Nat → (G → Prop) → Prop) (fun N K => noneS N K) (fun x _ ih N K => ih (N - 1) fun l => K (some x :: l)) xs
theorem startS_eq : ∀ (xs : List PV) (N : Nat) (K : G → Prop), startS xs N K = K (startG N xs)
  | [], N, K => by show noneS N K = _; rw [noneS_eq]; simp [startG]
  | x :: xs, N, K => by
    show startS xs (N - 1) (fun l => K (some x :: l)) = _
    rw [startS_eq xs]
    simp only [startG, List.map_cons, List.length_cons, List.cons_append]
    rw [show N - 1 - xs.length = N - (xs.length + 1) by omega]
def xF (N : Nat) (p : GS) : Vl.PW := fun xs Q => startS xs N fun γ => p ⟨fun _ => Q .non, fun x _ => Q x, fun _ => False, fun _ => False⟩ γ
def xI (N c : Nat) (p : GS) : Vl.PW := fun xs Q => startS (.ins c [] :: xs) N fun γ => p ⟨fun γ => getS γ 0 Q, fun _ _ => False, fun _ => False, fun _ => False⟩ γ
theorem xF_eq (N : Nat) (p : GS) : xF N p = wF N p := by funext xs Q; rw [xF, startS_eq]; rfl
theorem xI_eq (N c : Nat) (p : GS) : xI N c p = wI N c p := by funext xs Q; rw [xI, startS_eq]; rfl
def xgName (i : Nat) : GG := fun x γ Q => setS γ i (some x) Q
theorem xgName_eq (i : Nat) : xgName i = pgName i := by funext x γ Q; rw [xgName, setS_eq]; rfl
theorem xmg_name {i : Nat} : MonoG (xgName i) := by rw [xgName_eq]; exact mg_name
def xLc (vs : List Nat) (it : GA) (g : GG) (t : GT) (e : GE) : GE := fun γ Q => it γ fun xs => xs.length ≤ sizeLine ∧ wipeS γ vs fun γw => lcP g t e γw xs fun ys => Q (.lst ys)
theorem xLc_eq (vs : List Nat) (it : GA) (g : GG) (t : GT) (e : GE) : xLc vs it g t e = pLc vs it g t e := by
  funext γ Q
  show (it γ fun xs => _ ∧ _) = (it γ fun xs => _ ∧ _)
  congr; funext xs; rw [wipeS_eq]
def xSet (i : Nat) (e : GE) : GS := fun D γ => e γ fun x => setS γ i (some x) D.nx
theorem xSet_eq (i : Nat) (e : GE) : xSet i e = pSet i e := by funext D γ; show e γ _ = e γ _; congr; funext x; rw [setS_eq]
def xApp (i : Nat) (e : GE) : GS := fun D γ => getS γ i fun x => match x with | .lst xs => e γ fun y => xs.length < sizeLine ∧ setS γ i (some (.lst (xs ++ [y]))) D.nx | _ => False
theorem xApp_eq (i : Nat) (e : GE) : xApp i e = pApp i e := by
  funext D γ; show getS γ i _ = getS γ i _; congr; funext x
  cases x <;> first | rfl | (show e γ _ = e γ _; congr; funext y; rw [setS_eq])
def setF (l : List PV) : Nat → PV → (List PV → Prop) → Prop :=
  List.rec (motive := fun _ => Nat → PV → (List PV → Prop) → Prop) (fun i y K => Nat.rec (motive := fun _ => Prop) (K [y]) (fun _ _ => False) i)
    (fun a l ih i y K => Nat.rec (motive := fun _ => Prop) (K (y :: l)) (fun i _ => ih i y fun l' => K (a :: l')) i) l
theorem setF_eq : ∀ (l : List PV) (j : Nat) (y : PV) (K : List PV → Prop), setF l j y K → j ≤ l.length ∧ K (if j = l.length then l ++ [y] else l.set j y)
  | [], 0, y, K, h => ⟨by simp, h⟩
  | a :: l, 0, y, K, h => ⟨by simp, h⟩
  | a :: l, i + 1, y, K, h => by
    have := setF_eq l i y (fun l' => K (a :: l')) h
    refine ⟨by simpa using this.1, ?_⟩
    have h2 := this.2
    by_cases hi : i = l.length
    · simpa [hi] using h2
    · simpa [hi] using h2
  | [], _ + 1, _, _, h => False.elim h
def xFldS (c j : Nat) (e : GE) : GS := fun D γ => e γ fun y => getS γ 0 fun x => match x with
  | .ins c' fs => c' = c ∧ setF fs j y fun fs' => setS γ 0 (some (.ins c' fs')) D.nx
  | _ => False
section
variable {X : Cx} {ks ks' kl : List Kd} {a s a1 s1 a2 s2 a3 s3 : Bool} {e e1 e2 e3 tg : Expr} {es ifs : List Expr} {st : Stmt} {sts sts' : List Stmt} {p p1 p2 p3 : GE} {pa pb : GA} {pt : GT} {ps q : GS} {g g' : GG} {pos : Pos} {js vs : List Nat} {i j l : Nat}
theorem xq_name {k : Kd} (hg : PG X tg (gName i)) (hk : ks[i]? = some k := by rfl) (ht : takes k a s = true := by rfl) (hj : i ∈ js := by decide) : QG X ks a s js tg (xgName i) := by rw [xgName_eq]; exact qg_name hg hk ht hj
theorem xs_setG {k : Kd} (pe : ∀ {t : TE}, PE X e t → PS X st (tAsg t (gName i))) (h : QE X ks a s e p) (hk : ks[i]? = some k := by rfl) (ht : takes k a s = true := by rfl) : QS X ks ks kl st (xSet i p) := by rw [xSet_eq]; exact qs_setG pe h hk ht
theorem xs_setN (pe : ∀ {t : TE}, PE X e t → PS X st (tAsg t (gName i))) (h : QN X ks e p) (hi : i < ks.length := by decide) : QS X ks (ks.set i .own) kl st (xSet i p) := by rw [xSet_eq]; exact qs_setN pe h hi
theorem xs_app (pe : ∀ {t : TE}, PE X e t → PS X st (tDrop (tBM X.K "list" rAppend (tVar i) (tCons t tNil)))) (h : QE X ks true true e p) (hk : ks[i]? = some .own := by rfl) : QS X ks ks kl st (xApp i p) := by rw [xApp_eq]; exact qs_app pe h hk
theorem xs_fld (c j : Nat) {f : Str} (cl : Cls X.K (He.ga X.K (clsT c).1)) (na : NoAttr X.K (He.ga X.K (clsT c).1) f) (pe : ∀ {t : TE}, PE X e t → PS X st (sFld X.K (tVar 0) t f)) (h : QE X ks true true e p) (hk : ks[0]? = some .slf := by rfl)
    (hf : (clsT c).2[j]? = some f ∧ (clsT c).2.Nodup := by decide +kernel) : QS X ks ks kl st (xFldS c j p) :=
  PSi (pe h) fun D σ H ⟨E, L, γ, Dp, hK, R, hp, nx, rt, bk, ct⟩ => by
    refine ⟨E, L, γ, _, hK, R, hp, fun y u H1 q1 x1 ry => ?_⟩
    have R1 := R.ex x1
    obtain ⟨x, hx, q⟩ := getS_of q1
    obtain ⟨O, h1, h2, h3, h4⟩ := R1.sl
    obtain ⟨v, hv, k⟩ := h1 0 x hx
    rw [getElem?_kd hk] at k
    obtain ⟨b, rfl, ho, ⟨⟨c', fs, rfl⟩, hme⟩, ob⟩ := k
    have nt := ob.nt
    obtain ⟨dx, ws, g1, g2, g3⟩ := ob
    obtain ⟨rfl, q⟩ := q
    obtain ⟨hj, q⟩ := setF_eq _ _ _ _ q
    rw [setS_eq] at q
    have hb : b ∈ L := h2 0 b (by rw [ho]; simp)
    have hl : fs.length = ws.length := by rw [g3.length]; simp
    have hr : b ≠ E.B.r := fun z => R.ar (by rw [← z]; exact (R.lf b hb).1)
    have hn : ws.length < 1000 := by
      have : ws.length ≤ (clsT c').2.length := by
        have := congrArg List.length g2; simp at this; omega
      have h10 : (clsT c').2.length ≤ 5 := by
        rcases c' with _ | _ | _ | _ | _ | _ | _ | _ | _ | _ | _ <;> simp [clsT]
      omega
    refine ⟨.ref b, hv, b, _, dx, ws, rfl, by rw [← hK]; exact g1, cl, na, hn, ?_⟩
    rw [← hK]
    have hp2 := putF_at (v := u) (by rw [← hl]; exact g2) hf.2 hf.1 (by rw [← hl]; exact hj)
    rw [hp2]
    have ob' : Ob E.B (av E L true true) (upd H1 b (.ins (He.ga E.B.K (clsT c').1) dx (if j = ws.length then ws ++ [(f, u)] else ws.set j (f, u)))) b (.ins c' (if j = fs.length then fs ++ [y] else fs.set j y)) := by
      refine ⟨dx, _, upd_same, ?_, ?_⟩
      · by_cases hjl : j = ws.length
        · rw [if_pos hjl, if_pos (by omega)]
          simp only [List.map_append, List.map_cons, List.map_nil, List.length_append, List.length_cons, List.length_nil, g2]
          rw [List.take_add_one, hl, ← hjl, hf.1]; rfl
        · rw [if_neg hjl, if_neg (by omega)]
          rw [List.map_set, g2, List.length_set]
          apply set_self
          rw [List.getElem?_take, if_pos (by omega)]; exact hf.1
      · by_cases hjl : j = ws.length
        · rw [if_pos hjl, if_pos (by omega), List.map_append]
          exact (g3.upL hb nt).append (.cons (ry.upL hb nt) .nil)
        · rw [if_neg hjl, if_neg (by omega), List.map_set]
          exact (g3.upL hb nt).set j (ry.upL hb nt)
    refine nx L _ _ _ (Fw.trans x1.fw (.upd hb nt)) ?_ q
    have := R1.put (i := 0) (k := .slf) (x := .ins c' (if j = fs.length then fs ++ [y] else fs.set j y)) (v := .ref b) (O' := [b]) (.upd (o := .ins (He.ga E.B.K (clsT c').1) dx (if j = ws.length then ws ++ [(f, u)] else ws.set j (f, u))) hb nt) (fun c m n u e => by rw [upd_ne (fun z => n (by simp [z]))]; exact e)
      (fun c u e n => by rw [upd_ne (fun z => by rw [z, (R.lf b hb).1] at e; cases e)]; exact R1.old c u e n) (R1.bag.stay (fun u e => by rw [upd_ne (R.lq hb).symm]; exact e) fun u e => by rw [upd_ne hr.symm]; exact e)
      (fun c m => .inl m) (fun c m => (Fw.upd (B := E.B) hb nt).nn c (R1.lf c m).2) (fun _ h => h) ⟨b, rfl, rfl, ⟨⟨_, _, rfl⟩, hme⟩, ob'⟩ (fun c m => by simp at m; rw [m]; exact hb) (by simp) (fun O' k2 k3 k1 j' c hj hc m => by
        simp at hc; subst hc
        obtain ⟨w, hw, kw⟩ := k1 0 _ hx
        rw [hv] at hw; cases hw
        rw [getElem?_kd hk] at kw
        obtain ⟨d, e1, e2, _⟩ := kw
        cases e1
        exact hj (k3 j' 0 c m (by rw [e2]; simp))) (List.getElem?_eq_some_iff.mp hk).1
    rw [set_same hk, set_self hv] at this
    exact this
variable {elt iter : Expr} {scope : Scope} {own : List (Str × Nat)}
theorem xe_lc (pe : ∀ {wi : TI} {g : TG} {tt : TT} {te : TE}, PI X tg iter wi → (∀ (s : Shared) (H : Hp) (C : Addr) (cl : List (Str × Addr)) (fp : List Addr), PG (X.blk s H scope (compEnvC scope cl C X.env) fp) tg g) →
      (∀ (s : Shared) (H : Hp) (C : Addr) (cl : List (Str × Addr)) (fp : List Addr), PTs (X.blk s H scope (compEnvC scope cl C X.env) fp) ifs tt) → (∀ (s : Shared) (H : Hp) (C : Addr) (cl : List (Str × Addr)) (fp : List Addr), PE (X.blk s H scope (compEnvC scope cl C X.env) fp) elt te) → PE X e (tLc wi g tt te (own.map (·.2))))
    (hi : QI X ks a1 tg iter pa) (hg : ∀ (s : Shared) (H : Hp) (C : Addr) (cl : List (Str × Addr)) (fp : List Addr), QG (X.blk s H scope (compEnvC scope cl C X.env) fp) ks a1 true (own.map (·.2)) tg g)
    (ht : ∀ (s : Shared) (H : Hp) (C : Addr) (cl : List (Str × Addr)) (fp : List Addr), QTs (X.blk s H scope (compEnvC scope cl C X.env) fp) ks ifs pt) (he : ∀ (s : Shared) (H : Hp) (C : Addr) (cl : List (Str × Addr)) (fp : List Addr), QE (X.blk s H scope (compEnvC scope cl C X.env) fp) ks a true elt p) :
    QE X ks a true e (xLc (own.map (·.2)) pa g pt p) := by rw [xLc_eq]; exact qe_lc pe hi hg ht he
theorem xs_setLc {kk : Kd} (pe : ∀ {wi : TI} {g : TG} {tt : TT} {te : TE}, PI X tg iter wi → (∀ (s : Shared) (H : Hp) (C : Addr) (cl : List (Str × Addr)) (fp : List Addr), PG (X.blk s H scope (compEnvC scope cl C X.env) fp) tg g) →
      (∀ (s : Shared) (H : Hp) (C : Addr) (cl : List (Str × Addr)) (fp : List Addr), PTs (X.blk s H scope (compEnvC scope cl C X.env) fp) ifs tt) → (∀ (s : Shared) (H : Hp) (C : Addr) (cl : List (Str × Addr)) (fp : List Addr), PE (X.blk s H scope (compEnvC scope cl C X.env) fp) elt te) → PS X st (tAsg (tLc wi g tt te (own.map (·.2))) (gName i)))
    (hi : QI X ks a1 tg iter pa) (hg : ∀ (s : Shared) (H : Hp) (C : Addr) (cl : List (Str × Addr)) (fp : List Addr), QG (X.blk s H scope (compEnvC scope cl C X.env) fp) ks a1 true (own.map (·.2)) tg g)
    (ht : ∀ (s : Shared) (H : Hp) (C : Addr) (cl : List (Str × Addr)) (fp : List Addr), QTs (X.blk s H scope (compEnvC scope cl C X.env) fp) ks ifs pt) (he : ∀ (s : Shared) (H : Hp) (C : Addr) (cl : List (Str × Addr)) (fp : List Addr), QE (X.blk s H scope (compEnvC scope cl C X.env) fp) ks a true elt p)
    (hk : ks[i]? = some kk := by rfl) (htk : takes kk a true = true := by rfl) : QS X ks ks kl st (xSet i (xLc (own.map (·.2)) pa g pt p)) := by rw [xSet_eq, xLc_eq]; exact qs_setLc pe hi hg ht he hk htk
end
end Vl
namespace Vl
open PySem PySem.Spec L2 Lb
end Vl
namespace Vl
open PySem PySem.Spec L2 Lb PyProof.Rows
structure FnG (P : Program) (w : World) (K : Fg) (mg : Str → Option Value) (base : Heap) (k : Nat) (f : Addr) (fd : FuncData) (ps : List Str) (sp : Sp) : Prop where
  n : ∀ vs H Q E, sp vs H Q E → vs.length = ps.length
  go : ∀ (A : Around) (o : List Env) (s : Shared) (H : Hp) (args : Args) (us : List Value) (vs : List V) (Q : VK) (E : XK), A.guards = some [] → Room k A →
    Env0 P w K mg base A o s H → BindsTo s fd args (ps.zip us) → Vals vs us → sp vs H Q E → codeAny (model P w) A (.call (.ref f) args) (CR CX0 o P w H s Q E) s
section
variable {P : Program} {w : World} {K : Fg} {mg : Str → Option Value} {base : Heap} {k : Nat} {f : Addr} {fd : FuncData} {ps : List Str} {sp : Sp}
theorem FnG.mono {j : Nat} (F : FnG P w K mg base j f fd ps sp) (h : j ≤ k) : FnG P w K mg base k f fd ps sp := ⟨F.n, fun A o s H args us vs Q E g r => F.go A o s H args us vs Q E g (r.mono h)⟩
end
end Vl
namespace Vl
open PySem PySem.Spec L2 Lb PyProof.Rows
end Vl
namespace Vl
open PySem PySem.Spec L2 Lb
end Vl
namespace Vl
open PySem PySem.Spec L2 Lb
def enumL : Nat → List PV → List PV
  | _, [] => []
  | n, x :: xs => .tup [.int n, x] :: enumL (n + 1) xs
theorem enumL_len : ∀ (n : Nat) (xs : List PV), (enumL n xs).length = xs.length
  | _, [] => rfl
  | n, x :: xs => by simp [enumL, enumL_len (n + 1) xs]
theorem enumL_at : ∀ (n : Nat) (xs : List PV) (i : Nat) {x : PV}, xs[i]? = some x → (enumL n xs)[i]? = some (.tup [.int ((n + i : Nat) : Int), x])
  | _, [], _, _, h => by simp at h
  | n, y :: xs, 0, x, h => by simp at h; subst h; rfl
  | n, y :: xs, i + 1, x, h => by
    have := enumL_at (n + 1) xs i (by simpa using h)
    simp only [enumL, List.getElem?_cons_succ]
    rw [this]
    congr 4; omega
end Vl
namespace Vl
open PySem PySem.Spec L2 Lb
end Vl
namespace Vl
open PySem PySem.Spec L2 Lb
mutual
theorem eqv_refl : ∀ (n : Nat) (x : PV), dat n x = true → PyData.eqv (toD x) (toD x) = true
  | _, .non, _ => by simp [toD, PyData.eqv]
  | _, .bl b, _ => by simp [toD, PyData.eqv]
  | _, .int i, _ => by simp [toD, PyData.eqv]
  | _, .str x, _ => by simp [toD, PyData.eqv]
  | n + 1, .lst xs, h => by simp only [toD, PyData.eqv]; exact eqvs_refl n xs (by simpa only [dat] using h)
  | n + 1, .tup xs, h => by simp only [toD, PyData.eqv]; exact eqvs_refl n xs (by simpa only [dat] using h)
  | 0, .lst _, h => by simp [dat] at h
  | 0, .tup _, h => by simp [dat] at h
  | n, .ty _, e => by cases n <;> simp [dat] at e
  | n, .dK _, e => by cases n <;> simp [dat] at e
  | n, .dT _, e => by cases n <;> simp [dat] at e
  | n, .ins _ _, e => by cases n <;> simp [dat] at e
  | n, .cls _, e => by cases n <;> simp [dat] at e
  | n, .bag, e => by cases n <;> simp [dat] at e
theorem eqvs_refl : ∀ (n : Nat) (xs : List PV), dats n xs = true → PyData.eqvAll (toDs xs) (toDs xs) = true
  | _, [], _ => by simp [toDs, PyData.eqvAll]
  | n, x :: xs, h => by
    rw [dats, Bool.and_eq_true] at h
    simp only [toDs, PyData.eqvAll, eqv_refl n x h.1, eqvs_refl n xs h.2, Bool.and_self]
end
theorem peq_refl {x : PV} (h : dat 8 x = true) : peq x x = true := eqv_refl 8 x h
end Vl
namespace Vl
open PySem PySem.Spec L2 Lb
end Vl
namespace Vl
open PySem PySem.Spec L2 Lb PyProof.Rows
end Vl
namespace Vl
open PySem PySem.Spec L2 Lb
def NoRet (p : GS) : Prop := ∀ D γ, p D γ → p { D with rt := fun _ _ => False } γ
section
variable {X : Cx} {ks : List Kd} {a s a1 s1 : Bool} {e : Expr} {es : List Expr} {pa : GA} {w : Vl.PW} {k n : Nat} {x : Str} {ps' : List Str} {dvs : List V} {ds : List PV} {p : GE} {p0 pos : Pos}
theorem Ob.rpA {B : Bg} {A A' : Addr → Prop} {H : Hp} {b : Addr} {x : PV} (h : Ob B A H b x) (n : ¬ A' b) (g : ∀ c, A' c → A c) : Rp B A' H x (.ref b) := by
  cases x with
  | lst xs => obtain ⟨vs, h1, h2⟩ := h; exact .lst n h1 (h2.anti g)
  | dT kvs => obtain ⟨ws, h1, h2, h3⟩ := h; exact .dT n h1 h2 rfl rfl rfl (h3.anti g)
  | dK kvs => obtain ⟨ws, h1, h2, h3⟩ := h; exact .dK n h1 h2 rfl rfl rfl (h3.anti g)
  | ins c fs => obtain ⟨dx, ws, h1, h2, h3⟩ := h; exact .ins n h1 h2 rfl (h3.anti g)
  | _ => exact h.elim
theorem qe_new (h : QN X ks e p) : QE X ks true true e p :=
  PEi h fun σ H Q ⟨E, L, γ, Qp, hK, R, hp, k⟩ => ⟨E, L, γ, Qp, hK, R, hp, fun x b H' qx x1 nb ob => k x (.ref b) H' qx x1 (ob.rpA (fun z => av_nn R z nb) fun c z => .inl z)⟩
end
end Vl
namespace Vl
open PySem PySem.Spec L2 Lb
theorem Obs.atI {B : Bg} {A : Addr → Prop} {H : Hp} {xs : List PV} {as : List Addr} {n : Int} {x : PV} (o : Obs B A H xs as) (h : L2.atI xs n = some x) : ∃ c, L2.atI (as.map V.ref) n = some (.ref c) ∧ Ob B A H c x := by
  unfold L2.atI at h ⊢
  rw [List.length_map, ← o.len]
  cases e : ixN xs.length n with
  | none => rw [e] at h; cases h
  | some j =>
    rw [e] at h
    obtain ⟨c, h1, h2⟩ := o.get h
    refine ⟨c, ?_, h2⟩
    show (as.map V.ref)[j]? = some (.ref c)
    rw [List.getElem?_map, h1]; rfl
end Vl
namespace Vl
open PySem PySem.Spec L2
@[irreducible] def yForP (g : GG) (b : GS) (D : GD) (xs : List PV) (γ : G) : Prop := forP g b D xs γ
theorem yForP_eq (g : GG) (b : GS) (D : GD) (xs : List PV) (γ : G) : yForP g b D xs γ = forP g b D xs γ := by unfold yForP; rfl
def yFor (it : GA) (g : GG) (b : GS) : GS := fun D γ => it γ fun xs => yForP g b D xs γ
theorem yFor_eq (it : GA) (g : GG) (b : GS) : yFor it g b = pFor it g b := by
  funext D γ
  show (it γ fun xs => yForP g b D xs γ) = it γ fun xs => forP g b D xs γ
  congr 1
  funext xs
  exact yForP_eq g b D xs γ
@[irreducible] def yLcP (g : GG) (t : GT) (e : GE) (γ : G) (xs : List PV) (Q : List PV → Prop) : Prop := lcP g t e γ xs Q
theorem yLcP_eq (g : GG) (t : GT) (e : GE) (γ : G) (xs : List PV) (Q : List PV → Prop) : yLcP g t e γ xs Q = lcP g t e γ xs Q := by unfold yLcP; rfl
def yLc (vs : List Nat) (it : GA) (g : GG) (t : GT) (e : GE) : GE := fun γ Q => it γ fun xs => xs.length ≤ sizeLine ∧ wipeS γ vs fun γw => yLcP g t e γw xs fun ys => Q (.lst ys)
theorem yLc_eq (vs : List Nat) (it : GA) (g : GG) (t : GT) (e : GE) : yLc vs it g t e = xLc vs it g t e := by
  funext γ Q
  show (it γ fun xs => xs.length ≤ sizeLine ∧ wipeS γ vs fun γw => yLcP g t e γw xs fun ys => Q (.lst ys)) = it γ fun xs => xs.length ≤ sizeLine ∧ wipeS γ vs fun γw => lcP g t e γw xs fun ys => Q (.lst ys)
  congr 1
  funext xs
  congr 2
  funext γw
  exact yLcP_eq g t e γw xs _
theorem yq_for {X : Cx} {ks kl : List Kd} {st : Stmt} {it : GA} {g : GG} {b : GS} (h : QS X ks ks kl st (pFor it g b)) : QS X ks ks kl st (yFor it g b) := by rw [yFor_eq]; exact h
theorem yq_lc {X : Cx} {ks : List Kd} {a s : Bool} {e : Expr} {vs : List Nat} {it : GA} {g : GG} {t : GT} {p : GE} (h : QE X ks a s e (xLc vs it g t p)) : QE X ks a s e (yLc vs it g t p) := by rw [yLc_eq]; exact h
theorem yq_setLc {X : Cx} {ks ks' kl : List Kd} {st : Stmt} {i : Nat} {vs : List Nat} {it : GA} {g : GG} {t : GT} {p : GE} (h : QS X ks ks' kl st (xSet i (xLc vs it g t p))) : QS X ks ks' kl st (xSet i (yLc vs it g t p)) := by rw [yLc_eq]; exact h
theorem yfor_nil {g : GG} {b : GS} {D : GD} {γ : G} (k : D.nx γ) : yForP g b D [] γ := by rw [yForP_eq]; exact k
theorem yfor_cons {g : GG} {b : GS} {D : GD} {x : PV} {xs : List PV} {γ : G} (k : g x γ fun γ1 => b { D with nx := yForP g b D xs, ct := yForP g b D xs, bk := D.nx } γ1) : yForP g b D (x :: xs) γ := by
  rw [yForP_eq]
  have e : yForP g b D xs = forP g b D xs := funext fun γ => yForP_eq g b D xs γ
  rw [e] at k
  exact k
theorem ylc_nil {g : GG} {t : GT} {e : GE} {γ : G} {Q : List PV → Prop} (k : Q []) : yLcP g t e γ [] Q := by rw [yLcP_eq]; exact k
theorem ylc_cons {g : GG} {t : GT} {e : GE} {γ : G} {x : PV} {xs : List PV} {Q : List PV → Prop} (k : g x γ fun γ2 => t γ2 fun b => bfi b (e γ2 fun y => yLcP g t e γ xs fun ys => Q (y :: ys)) (yLcP g t e γ xs Q)) : yLcP g t e γ (x :: xs) Q := by
  rw [yLcP_eq]
  have h : yLcP g t e γ xs = lcP g t e γ xs := funext fun Q => yLcP_eq g t e γ xs Q
  rw [h] at k
  exact k
/-- a loop by an invariant over what is left -/
theorem yforI {α : Type} {g : GG} {b : GS} {D : GD} {h : α → PV} (I : List α → G → Prop) : ∀ {l : List α} {γ : G}, I l γ → (∀ a l γ, I (a :: l) γ → ∀ K : G → Prop, (∀ γ', I l γ' → K γ') → g (h a) γ fun γ1 => b { D with nx := K, ct := K, bk := D.nx } γ1) → (∀ γ, I [] γ → D.nx γ) → yForP g b D (l.map h) γ
  | [], _, i, _, k => yfor_nil (k _ i)
  | a :: l, γ, i, hs, k => yfor_cons (hs a l γ i _ fun γ' i' => yforI I i' hs k)
/-- range(n), the turn's number in the invariant -/
theorem yforR {g : GG} {b : GS} {D : GD} (I : Nat → G → Prop) {n : Nat} {γ : G} (i : I 0 γ) (hs : ∀ (m : Nat) γ, m < n → I m γ → ∀ K : G → Prop, (∀ γ', I (m + 1) γ' → K γ') → g (.int m) γ fun γ1 => b { D with nx := K, ct := K, bk := D.nx } γ1) (k : ∀ γ, I n γ → D.nx γ) : yForP g b D (Vl.upTo 0 n) γ := by
  unfold Vl.upTo
  rw [List.range_eq_range']
  suffices ∀ (c s : Nat) γ, s + c = n → I s γ → yForP g b D ((List.range' s c).map fun k : Nat => PV.int (0 + (k : Nat))) γ from this n 0 γ (by omega) i
  intro c
  induction c with
  | zero => intro s γ h i; exact yfor_nil (k _ (by rwa [show s = n by omega] at i))
  | succ c ih =>
    intro s γ h i
    rw [List.range'_succ, List.map_cons]
    refine yfor_cons ?_
    rw [Int.zero_add]
    exact hs s γ (by omega) i _ fun γ' i' => ih (s + 1) γ' (by omega) i'
/-- a comprehension: each element told -/
theorem ylcM {α : Type} {g : GG} {e : GE} {γ : G} {h f : α → PV} : ∀ {l : List α} {Q : List PV → Prop}, (∀ a ∈ l, ∀ Q, Q (f a) → g (h a) γ fun γ2 => e γ2 Q) → Q (l.map f) → yLcP g pYes e γ (l.map h) Q
  | [], _, _, k => ylc_nil k
  | a :: l, Q, hf, k => ylc_cons (hf a (by simp) _ (ylcM (fun b m => hf b (by simp [m])) k))
/-- .. any value with a property -/
theorem ylcD {α : Type} {g : GG} {e : GE} {γ : G} {h : α → PV} {P : PV → Prop} : ∀ {l : List α} {Q : List PV → Prop}, (∀ a ∈ l, ∀ Q : PV → Prop, (∀ y, P y → Q y) → g (h a) γ fun γ2 => e γ2 Q) → (∀ ys, ys.length = l.length → (∀ y ∈ ys, P y) → Q ys) → yLcP g pYes e γ (l.map h) Q
  | [], _, _, k => ylc_nil (k [] rfl (by simp))
  | a :: l, Q, hf, k => ylc_cons (hf a (by simp) _ fun y hy => ylcD (fun b m => hf b (by simp [m])) fun ys hl hp => k (y :: ys) (by simp [hl]) fun z m => (List.mem_cons.mp m).elim (fun e => e ▸ hy) (hp z))
theorem bif2 {c : Prop} [Decidable c] {A B : Prop} (h1 : c → A) (h2 : ¬ c → B) : bfi (decide c) A B := by
  by_cases h : c
  · rw [decide_eq_true h]; exact h1 h
  · rw [decide_eq_false h]; exact h2 h
theorem bift {c : Prop} [Decidable c] {A B : Prop} (h : c) (k : A) : bfi (decide c) A B := by rw [decide_eq_true h]; exact k
theorem biff {c : Prop} [Decidable c] {A B : Prop} (h : ¬ c) (k : B) : bfi (decide c) A B := by rw [decide_eq_false h]; exact k
theorem nbift {c : Prop} [Decidable c] {A B : Prop} (h : c) (k : B) : bfi (!decide c) A B := by rw [decide_eq_true h]; exact k
theorem nbiff {c : Prop} [Decidable c] {A B : Prop} (h : ¬ c) (k : A) : bfi (!decide c) A B := by rw [decide_eq_false h]; exact k
@[irreducible] def jSeq (p q : GS) : GS := pSeq p q
theorem jSeq_eq (p q : GS) : jSeq p q = pSeq p q := by unfold jSeq; rfl
theorem jq {X : Cx} {ks ks' kl : List Kd} {sts : List Stmt} {p q : GS} (h : QB X ks ks' kl sts (pSeq p q)) : QB X ks ks' kl sts (jSeq p q) := by rw [jSeq_eq]; exact h
theorem j_by {p q : GS} {D : GD} {γ : G} (I : G → Prop) (h1 : ∀ K : G → Prop, (∀ γ', I γ' → K γ') → p { D with nx := K } γ) (h2 : ∀ γ', I γ' → q D γ') : jSeq p q D γ := by rw [jSeq_eq]; exact h1 (q D) h2
theorem j_go {p q : GS} {D : GD} {γ : G} (h : p { D with nx := q D } γ) : jSeq p q D γ := by rw [jSeq_eq]; exact h
end Vl
namespace Vl
open PySem PySem.Spec L2 Lb PyProof.Rows
theorem hu1 {n : Nat} (h : n + 64 < cLine) : n + 1 < cLine := Nat.lt_of_le_of_lt (Nat.add_le_add_left (by decide) n) h
section
variable {X : Cx} {ks : List Kd} {a s : Bool} {e : Expr} {p : GE} {pos : Pos}
def kOf : PV → Option Key
  | .int i => some (.inl i)
  | .str x => some (.inr x)
  | _ => none
def valP {κ : Type} [DecidableEq κ] (kvs : List (κ × PV)) (k : κ) : Option PV := (kvs.find? fun kv => decide (kv.1 = k)).map (·.2)
def oDGet : PO2
  | .dK kvs, y, Q => (match kOf y with | some k => (match valP kvs k with | some x => Q x | none => False) | none => False)
  | _, _, _ => False
theorem val_rp {κ : Type} [DecidableEq κ] {B : Bg} {A : Addr → Prop} {H : Hp} {k : κ} {x : PV} : ∀ {kvs : List (κ × PV)} {ws : List (κ × V)}, kvs.map (·.1) = ws.map (·.1) → RpL B A H (kvs.map (·.2)) (ws.map (·.2)) → valP kvs k = some x → ∃ v, valV ws k = some v ∧ Rp B A H x v
  | [], _, _, _, h => by simp [valP] at h
  | (k1, x1) :: kvs, [], e, _, _ => by simp at e
  | (k1, x1) :: kvs, (k2, v2) :: ws, e, r, h => by
    simp only [List.map_cons, List.cons.injEq] at e r
    obtain ⟨e1, e2⟩ := e
    cases r with
    | cons r1 r2 =>
      by_cases hk : k1 = k
      · have : valP ((k1, x1) :: kvs) k = some x1 := by simp [valP, List.find?_cons, hk]
        rw [this] at h; cases h
        exact ⟨v2, valV_pos (by show k2 = k; rw [← e1]; exact hk), r1⟩
      · have e3 : valP ((k1, x1) :: kvs) k = valP kvs k := by simp [valP, List.find?_cons, hk]
        rw [e3] at h
        obtain ⟨v, hv, rv⟩ := val_rp e2 r2 h
        have hk2 : ¬ k2 = k := by rw [← e1]; exact hk
        exact ⟨v, by rw [← hv]; simp [valV, List.find?_cons, hk2], rv⟩
theorem kOf_rp {B : Bg} {A : Addr → Prop} {H : Hp} {y : PV} {u : V} {k : Key} (r : Rp B A H y u) (h : kOf y = some k) : u = kV k := by
  cases r <;> simp [kOf] at h <;> subst h <;> rfl
theorem qe_dget {o i : Expr} {p1 p2 : GE} {a2 s2 : Bool} (hu : X.A.units + 1 < cLine) (h1 : QE X ks a s o p1) (h2 : QE X ks a2 s2 i p2) (hs : NoSl i := by exact fun _ _ => rfl) : QE X ks a s (.Subscript o i pos) (pOp oDGet p1 p2) :=
  PEi (pe_dget hu h1 h2 hs) fun σ H Q ⟨E, L, γ, Qp, hK, R, hp, k⟩ => by
    refine ⟨E, L, γ, _, hK, R, hp, fun x v H1 q1 x1 r1 => ⟨E, L, γ, _, hK, R.ex x1, q1, fun y u H2 q2 x2 r2 => ?_⟩⟩
    have r3 := r1.ex x2 av_q
    cases r3 <;> first | exact (q2 : False).elim | skip
    rename_i d ws kvs ks' xs vs hn hd e1 e2 e3 e4 rl
    have q3 : (match kOf y with | some k => (match valP kvs k with | some x => Qp x | none => False) | none => False) := q2
    cases hy : kOf y with
    | none => rw [hy] at q3; exact q3.elim
    | some kk =>
      rw [hy] at q3
      cases hx : valP kvs kk with
      | none => simp only [hx] at q3
      | some x =>
        simp only [hx] at q3
        subst e1; subst e3; subst e4
        obtain ⟨v, hv, rv⟩ := val_rp e2.symm rl hx
        have := kOf_rp r2 hy
        subst this
        exact ⟨d, v, rfl, by rw [← hv]; exact DGet.k hd, k _ _ _ q3 (x1.trans x2) rv⟩
/-- a dict written with texts for keys -/
def pDisp : List (Str × GE) → G → (List (Key × PV) → Prop) → Prop
  | [], _, Q => Q []
  | (x, p) :: t, γ, Q => p γ fun y => pDisp t γ fun r => Q ((.inr x, y) :: r)
def pDict (l : List (Str × GE)) : GE := fun γ Q => pDisp l γ fun kvs => Q (.dK kvs)
inductive QPs (X : Cx) (ks : List Kd) (a s : Bool) : List (Option Expr) → List Expr → List (Str × GE) → List (TE × TE) → Prop
  | nil : QPs X ks a s [] [] [] []
  | cons {n : Nat} {q : Pos} {x : Str} {v : Expr} {p : GE} {ks' : List (Option Expr)} {vs : List Expr} {l : List (Str × GE)} {t : List (TE × TE)} : QE X ks a s v p → QPs X ks a s ks' vs l t → QPs X ks a s (some (.Constant (.str x) n q) :: ks') (v :: vs) ((x, p) :: l) ((tC (.str x), tE X.K ks a s p) :: t)
theorem QPs.pps {ks' : List (Option Expr)} {vs : List Expr} {l : List (Str × GE)} {t : List (TE × TE)} (h : QPs X ks a s ks' vs l t) : PPs X pos ks' vs t := by
  induction h with
  | nil => exact pps_nil
  | cons hv _ ih => exact pps_cons pe_str hv ih
theorem QPs.len {ks' : List (Option Expr)} {vs : List Expr} {l : List (Str × GE)} {t : List (TE × TE)} (h : QPs X ks a s ks' vs l t) : ks'.length = vs.length ∧ ks'.all (·.isSome) = true ∧ l.length = vs.length := by
  induction h with
  | nil => exact ⟨rfl, rfl, rfl⟩
  | cons _ _ ih => exact ⟨by simp [ih.1], by simpa using ih.2.1, by simp [ih.2.2]⟩
theorem QPs.run {E : Ac} {L : List Addr} {γ : G} {σ : L2.St} {ks' : List (Option Expr)} {vs : List Expr} {l : List (Str × GE)} {t : List (TE × TE)} (h : QPs X ks a s ks' vs l t) (hK : E.B.K = X.K) : ∀ {H : Hp} {Q : List (V × V) → Hp → Prop} {Qp : List (Key × PV) → Prop}, Rel E L ks γ σ H → pDisp l γ Qp →
    (∀ (kvs : List (Key × PV)) (ws : List (Key × V)) H', Qp kvs → Ex E.B H H' → kvs.map (·.1) = ws.map (·.1) → kvs.map (·.1) = l.map (fun y => Sum.inr y.1) → RpL E.B (av E L a s) H' (kvs.map (·.2)) (ws.map (·.2)) → Q (ws.map fun kv => (kV kv.1, kv.2)) H') → tPairs t σ H Q := by
  induction h with
  | nil => intro H Q Qp R hp k; exact k [] [] H hp (.refl _ _) rfl rfl .nil
  | @cons n q x v p ks' vs l t hv ht ih =>
    intro H Q Qp R hp k
    show tPairs ((tC (.str x), tE X.K ks a s p) :: t) σ H Q
    show tE X.K ks a s p σ H fun y H2 => tPairs t σ H2 fun ps H3 => Q ((.str x, y) :: ps) H3
    refine ⟨E, L, γ, _, hK, R, hp, fun y u H1 q1 x1 r1 => ih (R.ex x1) q1 fun kvs ws H2 q2 x2 e1 e2 r2 => ?_⟩
    exact k ((.inr x, y) :: kvs) ((.inr x, u) :: ws) H2 q2 (x1.trans x2) (by simp [e1]) (by simp [e2]) (.cons (r1.ex x2 av_q) r2)
theorem put_new {kvs : List (Key × V)} {k : Key} {v : V} (h : ¬ k ∈ kvs.map (·.1)) : putK kvs k v = kvs ++ [(k, v)] := by
  unfold putK
  rw [if_neg]
  intro z
  simp only [List.any_eq_true, decide_eq_true_eq] at z
  obtain ⟨y, m, e⟩ := z
  exact h (List.mem_map.mpr ⟨y, m, e⟩)
theorem merge_new : ∀ {more kvs : List (Key × V)}, ((kvs ++ more).map (·.1)).Nodup → mergeK kvs more = kvs ++ more
  | [], kvs, _ => by simp [mergeK]
  | (k, v) :: more, kvs, h => by
    have e : mergeK kvs ((k, v) :: more) = mergeK (putK kvs k v) more := rfl
    have hn : ¬ k ∈ kvs.map (·.1) := by
      intro m
      rw [List.map_append, List.nodup_append] at h
      exact h.2.2 k m k (by simp) rfl
    rw [e, put_new hn, merge_new (by simpa using h), List.append_assoc]
    rfl
end
end Vl
namespace Vl
open PySem PySem.Spec L2 Lb
def keysOf : List PV → Option (List Key)
  | [] => some []
  | x :: xs => match kOf x with | some k => (keysOf xs).map (k :: ·) | none => none
theorem keys_rp {B : Bg} {A : Addr → Prop} {H : Hp} : ∀ {xs : List PV} {vs : List V} {k : List Key}, RpL B A H xs vs → keysOf xs = some k → vs = k.map kV
  | _, _, k, .nil, h => by simp [keysOf] at h; subst h; rfl
  | _, _, k, .cons (x := x) (v := v) (xs := xs) (vs := vs) r rs, h => by
    simp only [keysOf] at h
    cases hx : kOf x with
    | none => rw [hx] at h; cases h
    | some k1 =>
      rw [hx] at h
      cases hk : keysOf xs with
      | none => rw [hk] at h; cases h
      | some k2 =>
        rw [hk] at h
        simp at h
        subst h
        rw [kOf_rp r hx, keys_rp rs hk]; rfl
def putP {κ : Type} [DecidableEq κ] (kvs : List (κ × PV)) (k : κ) (v : PV) : List (κ × PV) :=
  if (kvs.any fun kv => decide (kv.1 = k)) = true then kvs.map (fun kv => if kv.1 = k then (kv.1, v) else kv) else kvs ++ [(k, v)]
theorem valP_cons {κ : Type} [DecidableEq κ] (a : κ × PV) (kvs : List (κ × PV)) (k : κ) : valP (a :: kvs) k = if a.1 = k then some a.2 else valP kvs k := by
  unfold valP
  by_cases h : a.1 = k
  · simp [List.find?_cons, h]
  · simp [List.find?_cons, h]
theorem valP_app {κ : Type} [DecidableEq κ] (k k' : κ) (v : PV) : ∀ (kvs : List (κ × PV)), (kvs.any fun kv => decide (kv.1 = k)) = false → valP (kvs ++ [(k, v)]) k' = if k = k' then some v else valP kvs k'
  | [], _ => by rw [List.nil_append, valP_cons]
  | a :: kvs, h => by
    simp only [List.any_cons, Bool.or_eq_false_iff, decide_eq_false_iff_not] at h
    rw [List.cons_append, valP_cons, valP_cons, valP_app k k' v kvs h.2]
    by_cases ha : a.1 = k'
    · by_cases hk : k = k'
      · exact absurd (ha.trans hk.symm) h.1
      · simp [ha, hk]
    · simp [ha]
theorem valP_map {κ : Type} [DecidableEq κ] (k k' : κ) (v : PV) : ∀ (kvs : List (κ × PV)), (kvs.any fun kv => decide (kv.1 = k)) = true → valP (kvs.map (fun kv => if kv.1 = k then (kv.1, v) else kv)) k' = if k = k' then some v else valP kvs k'
  | [], h => by simp at h
  | a :: kvs, h => by
    rw [List.map_cons, valP_cons, valP_cons]
    by_cases ha : a.1 = k
    · by_cases hk : k = k'
      · simp [ha, hk]
      · have : ¬ a.1 = k' := fun z => hk (ha.symm.trans z)
        rw [if_pos ha]
        simp only [this, if_false, hk]
        by_cases hany : (kvs.any fun kv => decide (kv.1 = k)) = true
        · rw [valP_map k k' v kvs hany, if_neg hk]
        · congr 1
          conv => rhs; rw [← List.map_id kvs]
          apply List.map_congr_left
          intro b hb
          have : ¬ b.1 = k := fun z => hany (List.any_eq_true.mpr ⟨b, hb, by simp [z]⟩)
          simp [this]
    · rw [if_neg ha]
      have hany : (kvs.any fun kv => decide (kv.1 = k)) = true := by simpa [ha] using h
      rw [valP_map k k' v kvs hany]
      by_cases ha' : a.1 = k'
      · have : ¬ k = k' := fun z => ha (ha'.trans z.symm)
        simp [ha', this]
      · simp [ha']
theorem valP_put {κ : Type} [DecidableEq κ] (kvs : List (κ × PV)) (k k' : κ) (v : PV) : valP (putP kvs k v) k' = if k = k' then some v else valP kvs k' := by
  unfold putP
  cases h : (kvs.any fun kv => decide (kv.1 = k)) with
  | true => simp only [if_true]; exact valP_map k k' v kvs h
  | false => simp only [Bool.false_eq_true, if_false]; exact valP_app k k' v kvs h
theorem len_putP {κ : Type} [DecidableEq κ] (kvs : List (κ × PV)) (k : κ) (v : PV) : (putP kvs k v).length ≤ kvs.length + 1 := by
  unfold putP
  split <;> simp
theorem put_rp {κ : Type} [DecidableEq κ] {B : Bg} {A : Addr → Prop} {H : Hp} {k : κ} {x : PV} {v : V} (r : Rp B A H x v) {kvs : List (κ × PV)} {ws : List (κ × V)} (e : kvs.map (·.1) = ws.map (·.1)) (rs : RpL B A H (kvs.map (·.2)) (ws.map (·.2))) :
    (putP kvs k x).map (·.1) = (putK ws k v).map (·.1) ∧ RpL B A H ((putP kvs k x).map (·.2)) ((putK ws k v).map (·.2)) := by
  have ha : (kvs.any fun kv => decide (kv.1 = k)) = (ws.any fun kv => decide (kv.1 = k)) := by
    have h1 : (kvs.any fun kv => decide (kv.1 = k)) = (kvs.map (·.1)).any (fun y => decide (y = k)) := by rw [List.any_map]; rfl
    have h2 : (ws.any fun kv => decide (kv.1 = k)) = (ws.map (·.1)).any (fun y => decide (y = k)) := by rw [List.any_map]; rfl
    rw [h1, h2, e]
  unfold putP putK
  rw [ha]
  split
  · rename_i hany
    refine ⟨?_, ?_⟩
    · rw [List.map_map, List.map_map]
      have h1 : ((fun kv : κ × PV => kv.1) ∘ fun kv : κ × PV => if kv.1 = k then (kv.1, x) else kv) = fun kv => kv.1 := by funext kv; simp only [Function.comp]; split <;> rfl
      have h2 : ((fun kv : κ × V => kv.1) ∘ fun kv : κ × V => if kv.1 = k then (kv.1, v) else kv) = fun kv => kv.1 := by funext kv; simp only [Function.comp]; split <;> rfl
      rw [h1, h2]; exact e
    · clear ha hany
      induction kvs generalizing ws with
      | nil => cases ws with
        | nil => exact .nil
        | cons _ _ => simp at e
      | cons a kvs ih => cases ws with
        | nil => simp at e
        | cons b ws =>
          simp only [List.map_cons, List.cons.injEq] at e rs ⊢
          cases rs with
          | cons r1 r2 =>
            refine .cons ?_ (ih e.2 r2)
            rw [e.1]
            by_cases hb : b.1 = k
            · rw [if_pos hb, if_pos hb]; exact r
            · rw [if_neg hb, if_neg hb]; exact r1
  · exact ⟨by simp [e], by rw [List.map_append, List.map_append]; exact rs.append (.cons r .nil)⟩
def pDGetT (p : GE) (t : GA) : GE := fun γ Q => p γ fun d => t γ fun xs => match d with
  | .dT kvs => (match keysOf xs with | some k => (match valP kvs k with | some x => Q x | none => False) | none => False)
  | _ => False
section
variable {X : Cx} {ks kl : List Kd} {a s a1 s1 a2 s2 : Bool} {e e1 e2 o : Expr} {es : List Expr} {p p1 p2 : GE} {pa : GA} {pos tpos : Pos} {st : Stmt} {x1 : Nat}
theorem qe_dgetT (hu : X.A.units + 1 < cLine) (h1 : QE X ks a s o p1) (h2 : QA X ks a2 s2 es pa) (hn : es.length ≤ 1000 := by decide) (hs : NoSl (.Tuple es x1 tpos) := by exact fun _ _ => rfl) : QE X ks a s (.Subscript o (.Tuple es x1 tpos) pos) (pDGetT p1 pa) :=
  PEi (pe_dget hu h1 (pe_tup h2) hs) fun σ H Q ⟨E, L, γ, Qp, hK, R, hp, k⟩ => by
    refine ⟨E, L, γ, _, hK, R, hp, fun x v H1 q1 x1 r1 => ⟨E, L, γ, _, hK, R.ex x1, q1, fun xs vs H2 q2 x2 r2 l2 => ⟨by rw [← r2.length, l2]; exact few hn, fun b nb => ?_⟩⟩⟩
    have r3 := (r1.ex x2 av_q).ex (Ex.new (o := .tup vs) nb) av_q
    cases r3 <;> first | exact (q2 : False).elim | skip
    rename_i d ws kvs ks' xs' vs' hn' hd e1 e2 e3 e4 rl
    have q3 : (match keysOf xs with | some k => (match valP kvs k with | some x => Qp x | none => False) | none => False) := q2
    cases hy : keysOf xs with
    | none => rw [hy] at q3; exact q3.elim
    | some kk =>
      rw [hy] at q3
      cases hx : valP kvs kk with
      | none => simp only [hx] at q3
      | some x =>
        simp only [hx] at q3
        subst e1; subst e3; subst e4
        obtain ⟨v, hv, rv⟩ := val_rp e2.symm rl hx
        have ek := keys_rp r2 hy
        exact ⟨d, v, rfl, by rw [← hv]; exact DGet.t hd (by rw [upd_same, ek]), k _ _ _ q3 (x1.trans (x2.trans (.new nb))) rv⟩
/-- an empty dict of one's own -/
theorem qn_dT : QN X ks (.Dict [] [] pos) (pC (.dT [])) :=
  PEi pe_dnewT fun σ H Q ⟨E, L, γ, Qp, hK, R, hp, k⟩ => fun b nb => k _ b _ hp (.new nb) nb ⟨[], upd_same, rfl, .nil⟩
end
end Vl
namespace Vl
open PySem PySem.Spec L2 Lb
def setL (l : List PV) : Nat → PV → (List PV → Prop) → Prop :=
  List.rec (motive := fun _ => Nat → PV → (List PV → Prop) → Prop) (fun _ _ K => K [])
    (fun a l ih i y K => Nat.rec (motive := fun _ => Prop) (K (y :: l)) (fun i _ => ih i y fun l' => K (a :: l')) i) l
theorem setL_eq : ∀ (l : List PV) (i : Nat) (y : PV) (K : List PV → Prop), setL l i y K = K (l.set i y)
  | [], _, _, _ => rfl
  | _ :: _, 0, _, _ => rfl
  | a :: l, i + 1, y, K => setL_eq l i y fun l' => K (a :: l')
end Vl
namespace Vl
open PySem PySem.Spec L2 Lb
end Vl
namespace Vl
open PySem PySem.Spec L2 Lb
end Vl
namespace Vl
open PySem PySem.Spec L2 Lb
end Vl
namespace Vl
open PySem PySem.Spec L2 Lb
end Vl
namespace Vl
open PySem PySem.Spec L2 Lb
abbrev GF := G → (PV → G → Prop) → Prop
def tF (K : Fg) (ks : List Kd) (p : GF) : TE := fun σ H Q => ∃ (E : Ac) (L : List Addr) (γ : G) (Qp : PV → G → Prop), E.B.K = K ∧ Rel E L ks γ σ H ∧ p γ Qp ∧
  ∀ x v γ' H', Qp x γ' → Fw E.B L H L H' → Rel E L ks γ' σ H' → Rp E.B (av E L true true) H' x v → Q v H'
abbrev QF (X : Cx) (ks : List Kd) (e : Expr) (p : GF) : Prop := PE X e (tF X.K ks p)
theorem RpL.split {B : Bg} {A : Addr → Prop} {H : Hp} : ∀ {x y : List PV} {v : List V}, RpL B A H (x ++ y) v → ∃ v1 v2, v = v1 ++ v2 ∧ RpL B A H x v1 ∧ RpL B A H y v2
  | [], _, v, h => ⟨[], v, rfl, .nil, h⟩
  | _ :: x, _, _, .cons a b => by
    obtain ⟨v1, v2, rfl, h1, h2⟩ := RpL.split b
    exact ⟨_ :: v1, v2, rfl, .cons a h1, h2⟩
def xPopAt (i : Nat) (p : GE) : GF := fun γ Q => getS γ i fun x => match x with
  | .lst xs => p γ fun n => ∃ zs y ws, xs = zs ++ y :: ws ∧ (n = .int (zs.length : Nat) ∧ xs.length ≤ sizeLine) ∧ setS γ i (some (.lst (zs ++ ws))) (Q y)
  | _ => False
def pOpF (o : PO2) (a : GE) (b : GF) : GF := fun γ Q => a γ fun x => b γ fun y γ1 => o x y fun z => Q z γ1
def xSetF (i : Nat) (p : GF) : GS := fun D γ => p γ fun x γ1 => setS γ1 i (some x) D.nx
def pAsgF (p : GF) (g : GG) : GS := fun D γ => p γ fun x γ1 => g x γ1 D.nx
def pDropF (p : GF) : GS := fun D γ => p γ fun _ γ1 => D.nx γ1
section
variable {X : Cx} {ks ks' kl : List Kd} {a s a2 s2 : Bool} {tg e e1 e2 : Expr} {p p1 p2 : GE} {pf : GF} {pos : Pos} {st : Stmt} {js : List Nat} {g : GG}
theorem qf_popAt {i : Nat} (pe : ∀ {t : TA}, PA X [e1] t → PE X e (tBM X.K "list" rPopAt (tVar i) t)) (h : QE X ks a s e1 p) (hs : starEach [e1] X.env = [(false, eval e1 X.env)] := by rfl) (hk : ks[i]? = some .own := by rfl) : QF X ks e (xPopAt i p) :=
  PEi (pe (pa_cons h pa_nil hs)) fun σ H Q ⟨E, L, γ, Qp, hK, R, hp, k⟩ => by
    obtain ⟨x, hx, q⟩ := getS_of hp
    obtain ⟨b, hv, hb, ob, _⟩ := R.upd1 hk hx
    cases x <;> first | exact (q : False).elim | skip
    rename_i xs
    obtain ⟨vs, h1, r1⟩ := ob
    refine ⟨.ref b, hv, .inl ⟨rfl, vs, .inl (.inl h1)⟩, E, L, γ, _, hK, R, q, fun n u H1 q1 x1 rn => ?_⟩
    obtain ⟨zs, y, ws, rfl, ⟨rfl, hz⟩, q1⟩ := q1
    cases rn
    have R1 := R.ex x1
    obtain ⟨b', hv', hb', ob', up⟩ := R1.upd1 hk hx
    rw [hv] at hv'; cases hv'
    obtain ⟨vs', h1', r1'⟩ := ob'
    obtain ⟨v1, v2, rfl, r2, r3⟩ := r1'.split
    cases r3 with
    | cons r4 r5 =>
    rename_i u v3
    have nt : ∀ vs, H1 b ≠ some (.tup vs) := fun z => by rw [h1']; exact nofun
    have l1 := r2.length
    have l2 : zs.length + ws.length + 1 ≤ sizeLine := by simp at hz; omega
    rw [sizeLine_eq] at l2
    have l3 := r5.length
    refine ⟨b, _, _, zs.length, u, rfl, rfl, h1', by omega, by omega, ?_, ?_, ?_⟩
    · unfold seqIndex?
      rw [if_neg (show ¬ ((zs.length : Nat) : Int) < 0 by omega)]
      rw [if_pos (by simp; omega)]
      simp
    · rw [l1]; simp
    · rw [setS_eq] at q1
      have e : (v1 ++ u :: v3).eraseIdx zs.length = v1 ++ v3 := by rw [l1]; simp [List.eraseIdx_append_of_length_le]
      rw [e]
      exact k y _ _ _ q1 (Fw.trans x1.fw (.upd hb nt)) (up _ (.lst (zs ++ ws)) ⟨v1 ++ v3, upd_same, (r2.upL hb nt).append (r5.upL hb nt)⟩) (r4.upL hb nt)
theorem qf_op {r : R2} {o : PO2} (ho : OpP X.K r o) (pe : ∀ {ta tb : TE}, PE X e1 ta → PE X e2 tb → PE X e (tOp r ta tb)) (h1 : QE X ks true true e1 p1) (h2 : QF X ks e2 pf) : QF X ks e (pOpF o p1 pf) :=
  PEi (pe h1 h2) fun σ H Q ⟨E, L, γ, Qp, hK, R, hp, k⟩ => by
    refine ⟨E, L, γ, _, hK, R, hp, fun x v H1 q1 x1 r1 => ⟨E, L, γ, _, hK, R.ex x1, q1, fun y u γ2 H2 q2 f2 R2 r2 => ?_⟩⟩
    exact ho E.B (av E L true true) H2 x y v u Q _ hK av_q (fun b z => av_nn R2 z) (r1.fw f2) r2 q2 fun z t H' qz x3 rz => k z t γ2 H' qz (Fw.trans x1.fw (Fw.trans f2 x3.fw)) (R2.ex x3) rz
theorem qf_add (h1 : QE X ks true true e1 p1) (h2 : QF X ks e2 pf) : QF X ks (.BinOp e1 .Add e2 pos) (pOpF oAdd p1 pf) := qf_op add_ok (pe_op op_addV) h1 h2
theorem xs_setF {i : Nat} {k : Kd} (pe : ∀ {t : TE}, PE X e t → PS X st (tAsg t (gName i))) (h : QF X ks e pf) (hk : ks[i]? = some k := by rfl) (ht : takes k true true = true := by rfl) : QS X ks ks kl st (xSetF i pf) :=
  PSi (pe h) fun D σ H ⟨E, L, γ, Dp, hK, R, hp, nx, rt, bk, ct⟩ => ⟨E, L, γ, _, hK, R, hp, fun x v γ1 H1 q1 f1 R1 r1 => by
    rw [setS_eq] at q1
    refine nx L _ _ H1 f1 ?_ q1
    have := R1.set (i := i) (takes_ok ht r1) (List.getElem?_eq_some_iff.mp hk).1
    rw [set_same hk] at this; exact this⟩
end
end Vl
namespace Vl
open PySem PySem.Spec L2 Lb
theorem frzT2 {X : Cx} {pins : List (Addr × Obj)} {σ : St} {H : Hp} {s : Shared} {d : Addr} {o : Obj} {kvs : List (List Key × V)} (I : Inv X pins σ H s) (h : H d = some (.frz o (.dT kvs))) :
    (d == sysModules) = false ∧ s.heap.get? d = some o ∧ o.ExactDict ∧ ∃ (es : Array DictEntry) (ep : Nat), o.data = .dict es ep ∧ es.size = kvs.length ∧
      ∀ (i : Nat) (k : List Key) (v : V), kvs[i]? = some (k, v) → ∃ (en : DictEntry) (q : Addr), es[i]? = some en ∧ en.key = .ref q ∧ H q = some (.tup (k.map kV)) ∧ RelV v en.val := by
  obtain ⟨hd, z, hs, xs, pr, o', es, ep, ho, hx, hdt, he, _⟩ := I.hok d _ h
  rw [hd] at ho
  cases ho
  have l1 : es.size = xs.length := size_of_entries he
  have l2 : kvs.length = xs.length := Paired.length pr
  refine ⟨hs, hd, hx, es, ep, hdt, by omega, fun i k v e => ?_⟩
  obtain ⟨b, hb, e1, e2, e3⟩ := paired_get pr e
  have q := entry_at he i
  rw [hb] at q
  exact ⟨_, b.2.1, q, rfl, e2, e3⟩
def ItiT (d : Addr) (o : Obj) (kvs : List (List Key × V)) : It :=
  ⟨fun i H => H d = some (.frz o (.dT kvs)) ∧ i < kvs.length, fun i H x H' => ∃ T k v q, kvs[i]? = some (k, v) ∧ x = .ref T ∧ H T = none ∧ H q = some (.tup (k.map kV)) ∧ H' = upd H T (.tup [.ref q, v]), fun i H => H d = some (.frz o (.dT kvs)) ∧ kvs.length ≤ i⟩
theorem in_one {a b : Addr} (h : b ∈ [a]) : b = a := List.mem_singleton.mp h
/-- the dict's rows, as the walk's iterator meets them -/
theorem rows_at {X : Cx} {pins : List (Addr × Obj)} {σ : St} {H : Hp} {s : Shared} {d : Addr} {o : Obj} {es : Array DictEntry} {ep : Nat} {kvs : List (List Key × V)} (I : Inv X pins σ H s) (hod : o.data = .dict es ep) (h : H d = some (.frz o (.dT kvs))) :
    DT.Raw s.heap d es ep ∧ es.size = kvs.length ∧ ∀ (i : Nat) (hi : i < es.size) (k : List Key) (v : V), kvs[i]? = some (k, v) → ∃ q, es[i].key = .ref q ∧ H q = some (.tup (k.map kV)) ∧ RelV v es[i].val := by
  obtain ⟨_, hg, ex, es2, ep2, hdt, n, ent⟩ := frzT2 I h
  cases hod.symm.trans hdt
  refine ⟨⟨o, hg, ex, hod⟩, n, fun i hi k v e => ?_⟩
  obtain ⟨en, q, he, a, b, c⟩ := ent i k v e
  rw [Array.getElem?_eq_getElem hi] at he
  cases he
  exact ⟨q, a, b, c⟩
theorem turn_itemsT {P : Program} {w : World} {K : PySem.W.Frag} {d : Addr} {o : Obj} {es : Array DictEntry} {ep : Nat} {kvs : List (List Key × V)} {elts : List Expr} {kk : Nat} {tpos : Pos} (it : Addr) (hod : o.data = .dict es ep) :
    Turn P w K (.Tuple elts kk tpos) (ItiT d o kvs) [it] it (fun i h => ∃ ok ov, IsItemIter h it d i kvs.length ep ok ov) where
  mem := List.mem_singleton.mpr rfl
  obj := by
    rintro i h ⟨ok, ov, at1⟩ b hb
    cases in_one hb
    exact ⟨_, at1, nofun⟩
  keep := by
    rintro i h h' ⟨ok, ov, at1⟩ k
    exact ⟨ok, ov, k it (List.mem_singleton.mpr rfl) _ at1⟩
  item := by
    rintro X rfl rfl rfl hc i pins s σ H E I off ⟨ok, ov, at1⟩ ⟨hd, hi⟩
    obtain ⟨raw, n, ent⟩ := rows_at I hod hd
    rw [← n] at at1 hi
    obtain ⟨k, v, row⟩ : ∃ k v, kvs[i]? = some (k, v) := ⟨_, _, List.getElem?_eq_getElem (show i < kvs.length by omega)⟩
    obtain ⟨q, ek, hq, rv⟩ := ent i hi k v row
    have below := Heap.lt_size at1
    refine DT.nextI at1 raw hi fun h1 out pair _ same => ⟨_, rfl, wpAny_letOwnedTupleGo_items (s := { s with heap := h1 }) out fun h2 at2 but => ?_⟩
    have pair2 := (but.2 _ (Nat.ne_of_gt below)).trans pair
    have kept : ∀ b ob, b ∉ [it] → s.heap.get? b = some ob → h2.get? b = some ob := fun b ob hb e => by
      have ne : b ≠ it := fun z => hb (by rw [z]; exact List.mem_singleton.mpr rfl)
      exact (but.2 b ne).trans (same b ob ne e)
    have new : ObjOk X.prog X.w (upd H s.heap.objs.size (.tup [.ref q, v])) h2 s.heap.objs.size (.tup [.ref q, v]) :=
      ⟨few (n := 2) (by omega), [es[i].key, es[i].val], .cons ek (.cons rv .nil), _, pair2, rfl, _, rfl⟩
    refine ⟨.ref s.heap.objs.size, _, I.turnedNew (t' := s.toks) (ch := [it]) kept off (Nat.le_refl _) new, rfl, ⟨_, k, v, q, row, rfl, I.hok.fresh (Nat.le_refl _), hq, rfl⟩, ⟨_, _, by rw [← n]; exact at2⟩, fun b hb => ?_⟩
    cases in_one hb
    rw [upd_ne (Nat.ne_of_lt below)]
    exact (off it (List.mem_singleton.mpr rfl)).1
  done := by
    rintro X rfl rfl rfl hc i pins s σ H E I off ⟨ok, ov, at1⟩ ⟨hd, hi⟩
    obtain ⟨raw, n, _⟩ := rows_at I hod hd
    rw [← n] at at1 hi
    obtain ⟨a0, a1, _, a3, a4, a5⟩ := off it (List.mem_singleton.mpr rfl)
    exact DT.endI (I.ok.hd hc) at1 raw hi fun h1 but => ⟨rfl, I.turned (t' := s.toks) (fun b ob hb e => but b ob hb e) a0 a1 a3 a4 a5⟩
  self := by
    rintro A i s Q E ⟨_, _, at1⟩ h
    exact PySem.W.kcp_self at1 h
def iItemsT (td : TE) : TI := fun σ H R => td σ H fun x H1 => ∃ d kvs, x = .ref d ∧ H1 d = some (.dT kvs) ∧ ∀ od, R (ItiT d od kvs) (upd H1 d (.frz od (.dT kvs)))
theorem pi_itemsT {X : Cx} {e : Expr} {td : TE} {apos cpos : Pos} {elts : List Expr} {kk : Nat} {tpos : Pos} (he : PE X e td) (hbase : attributeBase e "items" X.env (eval e X.env) = eval e X.env := by rfl) (hline : (apos.endLine == cpos.line) = true := by rfl) :
    PI X (.Tuple elts kk tpos) (.Call (.Attribute e "items" apos) [] [] cpos) (iItemsT td) := by
  constructor
  intro pins s σ H R I h
  refine wpAny_Call_method hbase rfl hline PySem.F.plainAttrs_dict PySem.F.slot_dict_items PySem.F.type_dict_items (thn (he.run pins s σ H _ I h) ?_)
  rintro u s1 ⟨x, H1, I1, rx, d, kvs, rfl, hd, q⟩
  cases (show u = Value.ref d from rx)
  -- the dict is locked for good: nobody else holds it
  obtain ⟨od, I2⟩ := I1.lock hd (show Mut (some (HO.dT kvs)) from trivial)
  obtain ⟨low, hg, ex, es, ep, hdt, _⟩ := frzT2 I2 upd_same
  obtain ⟨raw, n, _⟩ := rows_at I2 hdt upd_same
  have none1 : ∀ a, Value.ref d = .ref a → ∃ ob, s1.heap.get? a = some ob ∧ ob.dict = none := by
    rintro a ⟨⟩
    exact ⟨od, hg, by first | exact ex.2 | exact ex.2.1⟩
  refine ⟨raw.typeIs, none1, method_meetsIn PySem.F.slot_dict_items PySem.F.entry_dict_items rfl (PySem.evalArgs_none ⟨rfl, raw.typeIs, PySem.F.args_dict_items_1 _, _, DT.meetsItems (es := es) (ep := ep) low, raw, ?_⟩)⟩
  have I3 := I2.kept (h' := s1.heap.push { cls := .type "dict_items", data := .fields #[.ref d] }) (t' := s1.toks) fun b ob z => Heap.get?_push_of_some _ z
  refine DT.iterI ⟨_, Heap.get?_push_size _ rfl, rfl, rfl⟩ (raw.push _) (pi_one (tk := s1.toks) I3 _ (turn_itemsT _ hdt) ⟨.none, .none, ?_⟩ (q od))
  rw [← n]
  exact Heap.get?_push_size _ rfl
def kP : Key → PV
  | .inl i => .int i
  | .inr x => .str x
def itemsP (kvs : List (List Key × PV)) : List PV := kvs.map fun kv => .tup [.tup (kv.1.map kP), kv.2]
theorem rp_keys {B : Bg} {A : Addr → Prop} {H : Hp} : ∀ k : List Key, RpL B A H (k.map kP) (k.map kV)
  | [] => .nil
  | .inl i :: k => .cons (.int i) (rp_keys k)
  | .inr x :: k => .cons (.str x) (rp_keys k)
end Vl
namespace Vl
open PySem PySem.Spec L2 Lb
abbrev GK := G → (List Key → Prop) → Prop
def tK (K : Fg) (ks : List Kd) (p : GK) : TE := fun σ H Q => ∃ (E : Ac) (L : List Addr) (γ : G) (Qp : List Key → Prop), E.B.K = K ∧ Rel E L ks γ σ H ∧ p γ Qp ∧
  ∀ k b H', Qp k → Ex E.B H H' → H' b = some (.tup (k.map kV)) → Q (.ref b) H'
abbrev QKy (X : Cx) (ks : List Kd) (e : Expr) (p : GK) : Prop := PE X e (tK X.K ks p)
def keyQ (xs : List PV) (Q : List Key → Prop) : Prop := match keysOf xs with | some k => Q k | none => False
def kTup (t : GA) : GK := fun γ Q => t γ fun xs => keyQ xs Q
def kVar (j : Nat) : GK := fun γ Q => getS γ j fun x => match x with | .tup xs => keyQ xs Q | _ => False
section
variable {X : Cx} {ks kl : List Kd} {a s a1 s1 a2 s2 : Bool} {e e1 e2 e3 o ek : Expr} {es : List Expr} {p p1 p2 : GE} {pa : GA} {pk : GK} {pos tpos apos : Pos} {st : Stmt} {x1 : Nat}
theorem qk_tup (h : QA X ks a s es pa) (hn : es.length ≤ 1000 := by decide) : QKy X ks (.Tuple es x1 pos) (kTup pa) :=
  PEi (pe_tup h) fun σ H Q ⟨E, L, γ, Qp, hK, R, hp, k⟩ => by
    refine ⟨E, L, γ, _, hK, R, hp, fun xs vs H1 q1 x1 r1 l1 => ⟨by rw [← r1.length, l1]; exact few hn, fun b nb => ?_⟩⟩
    unfold keyQ at q1
    cases hy : keysOf xs with
    | none => simp only [hy] at q1
    | some kk =>
      simp only [hy] at q1
      have ek := keys_rp r1 hy
      exact k kk b _ q1 (x1.trans (.new nb)) (by rw [upd_same, ek])
theorem qk_var (j : Nat) (pe : PE X e (tVar j)) (hk : ks[j]? = some .tt := by rfl) : QKy X ks e (kVar j) :=
  PEi pe fun σ H Q ⟨E, L, γ, Qp, hK, R, hp, k⟩ => by
    obtain ⟨x, hx, q⟩ := getS_of hp
    obtain ⟨O, h1, h2, h3, h4⟩ := R.sl
    obtain ⟨v, hv, kr⟩ := h1 j x hx
    rw [getElem?_kd hk] at kr
    obtain ⟨-, b, xs, vs, rfl, rfl, hb, r⟩ := kr
    have q : keyQ xs Qp := q
    unfold keyQ at q
    cases hy : keysOf xs with
    | none => simp only [hy] at q
    | some kk =>
      simp only [hy] at q
      have ek := keys_rp r hy
      exact ⟨.ref b, hv, k kk b H q (.refl _ _) (by rw [hb, ek])⟩
end
theorem d_dictSetT {X : Cx} {pins : List (Addr × Obj)} {σ : St} {H : Hp} {s : Shared} {E : Value → Shared → Prop} {D b : Addr} {kvs : List (List Key × V)} {k : List Key} {v : V} {r : Value} {Q : Unit → Shared → Prop} (hu : X.A.units + 1 < cLine) (I : Inv X pins σ H s) (hD : H D = some (.dT kvs)) (hz : kvs.length < sizeLine)
    (eb : H b = some (.tup (k.map kV))) (rv : RelV v r) (h : ∀ s', Inv X pins σ (upd H D (.dT (putK kvs k v))) s' → Q () s') : wpAny (model X.prog X.w) X.A (dictSet D (.ref b) r) Q E s := by
  obtain ⟨z, hd, xs, rel, dd⟩ := dt_of I.hok hD
  have hzx : xs.length ≤ sizeLine := by rw [← Paired.length rel]; exact z
  have hl : (putK kvs k v).length ≤ sizeLine := by have := length_putK kvs k v; omega
  refine wpAny_dictSet_heap (hsz := hzx) (knd := tupleKind (mixKind X.prog X.w)) (Nat.lt_of_succ_lt hu) (key_of I.hok eb) dd fun h' dd' hs => h _ ?_
  obtain ⟨q, es, ep, hq, h2, h3, h4, _, h5⟩ := dd'
  refine d_write I (by rw [hD]; exact True.intro) hs ⟨q, hq⟩ ⟨hl, hd, _, (rel.put k eb rv).keeps fun c ys ec => ?_, q, es, ep, hq, h2, h3, h4, h5⟩
  rw [upd_ne (ne_of ec hD (fun z => nomatch z))]
  exact ec
end Vl
namespace Vl
open PySem PySem.Spec L2 Lb
def tOneT (tk tv : TE) : TE := fun σ H Q => ∀ p, H p = none → tPairs [(tk, tv)] σ (upd H p (.dT [])) fun ps H2 => ∃ z b k, ps = [(.ref b, z)] ∧ H2 b = some (.tup (k.map kV)) ∧ H2 p = some (.dT []) ∧ Q (.ref p) (upd H2 p (.dT [(k, z)]))
theorem vv1 {p : V × V} {ws : List (Value × Value)} (h : VV [p] ws) : ∃ q, ws = [q] ∧ RelV p.1 q.1 ∧ RelV p.2 q.2 := by
  cases h with
  | cons r1 r2 => cases r2; exact ⟨_, rfl, r1.1, r1.2⟩
theorem pe_oneT {X : Cx} {ek e : Expr} {pos : Pos} {tk tv : TE} (hu : X.A.units + 1 < cLine) (h1 : PE X ek tk) (h2 : PE X e tv) : PE X (.Dict [some ek] [e] pos) (tOneT tk tv) := by
  refine ⟨fun pins s σ H Q I q => ?_⟩
  have new := I.hok.fresh (Nat.le_refl s.heap.objs.size)
  have I1 := I.laid (a := s.heap.objs.size) (o := .dT []) (h' := s.heap.push { cls := .type "dict", data := .dict #[] }) (t' := s.toks) (fun _ _ q => Heap.get?_push_of_some _ q) (Nat.le_refl _) (dt_empty s.heap I.big)
  refine PySem.wpAny_Dict_any rfl rfl (by simp) (by simp) (thn ((pps_cons h1 h2 pps_nil).run pins _ σ _ _ I1 (q _ new)) fun ws s2 ⟨ps, H2, I2, rel, z, b, k, e, hb, hp, q2⟩ => ?_)
  subst e
  obtain ⟨⟨ck, cv⟩, rfl, ry, rz⟩ := vv1 rel
  have ry : ck = Value.ref b := ry
  subst ry
  show wpAny _ _ (forIn [(Value.ref b, cv)] PUnit.unit _) _ _ _
  rw [List.forIn_cons]
  refine wpAny_bind (wpAny_bind (d_dictSetT hu I2 hp (by rw [sizeLine_eq]; simp) hb rz fun s3 I3 => wpAny_pure (wpAny_pure ?_)))
  exact ⟨.ref s.heap.objs.size, _, I3, rfl, q2⟩
def pOneT (pk : GK) (p : GE) : GE := fun γ Q => pk γ fun k => p γ fun z => imm z = true ∧ Q (.dT [(k, z)])
section
variable {X : Cx} {ks : List Kd} {a s a1 s1 : Bool} {e ek o : Expr} {es : List Expr} {p : GE} {pa : GA} {pk : GK} {pos apos : Pos} {w : Vl.PW} {k n c : Nat} {f : Str} {ps' : List Str} {dvs : List V} {ds : List PV}
theorem qn_oneT (hu : X.A.units + 1 < cLine) (h1 : QKy X ks ek pk) (h2 : QE X ks true true e p) : QN X ks (.Dict [some ek] [e] pos) (pOneT pk p) :=
  PEi (pe_oneT hu h1 h2) fun σ H Q ⟨E, L, γ, Qp, hK, R, hp, k⟩ => fun d nd => by
    have x0 : Ex E.B H (upd H d (.dT [])) := .new nd
    refine ⟨E, L, γ, _, hK, R.ex x0, hp, fun kk b H1 q1 x1 hb => ⟨E, L, γ, _, hK, (R.ex x0).ex x1, q1, fun z t H2 q2 x2 rz => ?_⟩⟩
    have hd : H2 d = some (.dT []) := x2.st _ _ (x1.st _ _ upd_same (fun z => R.bag.q (z ▸ nd))) (fun z => R.bag.q (z ▸ nd))
    refine ⟨t, b, kk, rfl, x2.tp _ _ hb, hd, k _ d _ q2.2 (Ex.inner (x0.trans (x1.trans x2)) nd R.bag) nd ⟨_, upd_same, rfl, ?_⟩⟩
    exact .cons ((rz.im (A' := fun b => av E L true true b ∨ b = d) q2.1).mv (fun c u e n => by rw [upd_ne (fun z => n (.inr z))]; exact e) (fun c u e => by rw [upd_ne (fun z => by rw [z, hd] at e; cases e)]; exact e) (fun c z _ => z)) .nil
end
end Vl
namespace Vl
open PySem PySem.Spec L2 Lb PySem.Builtin PySem.Builtin.Str
end Vl
namespace Vl
open PySem PySem.Spec L2 Lb
def two (z : PV) (K : PV → PV → Prop) : Prop := match z with
  | .tup [x, y] => K x y
  | _ => False
end Vl
namespace Vl
open PySem PySem.Spec L2 Lb
end Vl
namespace Vl
open PySem PySem.Spec L2 Lb
def pInK (neg : Bool) (pk : GK) (p : GE) : GT := fun γ Q => pk γ fun k => p γ fun d => match d with
  | .dT kvs => Q (if neg then !(valP kvs k).isSome else (valP kvs k).isSome)
  | _ => False
theorem val_some {kk : List Key} : ∀ {kvs : List (List Key × PV)} {ws : List (List Key × V)}, kvs.map (·.1) = ws.map (·.1) → (valV ws kk).isSome = (valP kvs kk).isSome
  | [], [], _ => rfl
  | [], _ :: _, e => by simp at e
  | _ :: _, [], e => by simp at e
  | c :: kvs, d :: ws, e => by
    simp only [List.map_cons, List.cons.injEq] at e
    have ih := val_some (kk := kk) e.2
    unfold valV valP at *
    by_cases hc : c.1 = kk
    · rw [List.find?_cons_of_pos (by simpa [← e.1] using hc), List.find?_cons_of_pos (by simpa using hc)]; rfl
    · rw [List.find?_cons_of_neg (by simpa [← e.1] using hc), List.find?_cons_of_neg (by simpa using hc)]; exact ih
section
variable {X : Cx} {ks : List Kd} {a s a1 s1 a2 s2 : Bool} {e ek e1 e2 : Expr} {p p1 p2 : GE} {pk : GK} {pos : Pos}
theorem qt_notInK (hu : X.A.units + 1 < cLine) (h1 : QKy X ks ek pk) (h2 : QE X ks a s e p) (hm : behindInMarks .NotIn e = false := by rfl) : QT X ks (.Compare ek [.NotIn] [e] pos) (pInK true pk p) :=
  PTi (pt_cmp (pc_dnotin hu h1 h2) hm) fun σ H Q ⟨E, L, γ, Qp, hK, R, hp, k⟩ => by
    refine ⟨E, L, γ, _, hK, R, hp, fun kk b H1 q1 x1 hb => ⟨E, L, γ, _, hK, R.ex x1, q1, fun x v H2 q2 x2 r2 => ?_⟩⟩
    cases r2 <;> first | exact (q2 : False).elim | skip
    rename_i d ws kvs ks' xs' vs' hn' hd e1 e2 e3 e4 rl
    exact ⟨d, _, rfl, DGet.t hd (x2.tp _ _ hb), _, rfl, k _ _ (by rw [val_some (e1.trans e2.symm)]; exact q2) (x1.trans x2)⟩
end
end Vl
namespace Vl
open PySem PySem.Spec L2 Lb
end Vl
namespace Vl
open PySem PySem.Spec PyProof.Rows L2 Lb
def clauseT (ce : Expr) (i : Nat) (it acc : Value) (env : Env) (tg iter : Expr) (ifs : List Expr) (B : Sem PySem.Fin) : Sem PySem.Fin := do
  standAt iter.pos
  match ← pyNext it with
  | none => pure (.done .next)
  | some v =>
    letOwnedTupleGo tg it v
    assign tg env v
    let mut ok := true
    for c in ifs do
      if ok then ok ← isTrue c env (eval c env)
    if ok then B else again (.compLoop ce i it acc env)
structure Clause (prog : Program) (w : World) (A : Around) (ce : Expr) (i : Nat) (it acc : Value) (env : Env) (tg iter : Expr) (ifs : List Expr) (B : Sem PySem.Fin) : Prop where
  quiet : (Code.compLoop ce i it acc env).quiet = true
  den : (model prog w).den (.compLoop ce i it acc env) = (compTurn ce i it acc env).onRaise (fun x => do noteFrame x env; theTreesLotGoes x)
  under : A.under (.compLoop ce i it acc env) = A
  turn : compTurn ce i it acc env = clauseT ce i it acc env tg iter ifs B
/-- what a body tells of the state behind it -/
def PBody (X : Cx) (vs : List Nat) (c : Code) (B : Sem PySem.Fin) (tb : L2.St → Hp → (Hp → Prop) → Prop) : Prop :=
  ∀ pins s σ H (N : Hp → Prop), Inv X pins σ H s → tb σ H N → wpAny (model X.prog X.w) X.A B (fun f s' => f = .again c ∧ ∃ σ' H', Inv X pins σ' H' s' ∧ wipe σ' vs = wipe σ vs ∧ N H') (fun _ _ => False) s
def tClause (J : It) (g : TG) (tt : TT) (tb : L2.St → Hp → (Hp → Prop) → Prop) (vs : List Nat) (σ0 : L2.St) (H : Hp) (Qd : Hp → Prop) : Prop :=
  ∃ W : Nat → Nat → Hp → Prop, (∃ m, W 0 m H) ∧ ∀ j m H, W j m H → (J.stop j H ∧ Qd H) ∨ (J.go j H ∧ ∃ N : Hp → Prop, (∀ H', N H' → ∃ m', m' < m ∧ W (j + 1) m' H') ∧
    ∀ x H', J.yld j H x H' → g x σ0 H' fun σ2 H2 => wipe σ2 vs = σ0 ∧ tt σ2 H2 fun b H3 => if b = true then tb σ2 H3 N else N H3)
theorem clause_run {X : Cx} (hc : X.calm = true) (hx : X.xe = fun _ _ => False) {ce : Expr} {i : Nat} {it : Addr} {acc : Value} {tg iter : Expr} {ifs : List Expr} {B : Sem PySem.Fin} {fp : List Addr} {tn : Nat → Heap → Prop} {J : It}
    (C : Clause X.prog X.w X.A ce i (.ref it) acc X.env tg iter ifs B) (T : Turn X.prog X.w X.K tg J fp it tn) {g : TG} {tt : TT} (pg : PG X tg g) (pt : PTs X ifs tt) {tb : L2.St → Hp → (Hp → Prop) → Prop} {vs : List Nat} {σ0 : L2.St} (pb : PBody X vs (.compLoop ce i (.ref it) acc X.env) B tb)
    {pins : List (Addr × Obj)} {Qd : Hp → Prop} {s : Shared} {H : Hp} (I : Inv X pins σ0 H s) (st : tn 0 s.heap) (ff : ∀ b ∈ fp, FpOk X pins H b) (q : tClause J g tt tb vs σ0 H Qd) :
    codeAny (model X.prog X.w) X.A (.compLoop ce i (.ref it) acc X.env) (fun r s' => r = .ok .next ∧ ∃ H', Inv X pins σ0 H' s' ∧ Qd H') s := by
  obtain ⟨W, ⟨m0, w0⟩, turn⟩ := q
  have keepF : ∀ {H' : Hp}, (∀ b ∈ fp, H' b = none) → ∀ b ∈ fp, FpOk X pins H' b := fun hn b hb => ⟨hn b hb, (ff b hb).2⟩
  refine codeAny_loop C.quiet (fun n s' => ∃ j H', Inv X pins σ0 H' s' ∧ tn j s'.heap ∧ (∀ b ∈ fp, H' b = none) ∧ W j n H') (fun n s5 hI => ?_) m0 ⟨0, H, I, st, fun b hb => (ff b hb).1, w0⟩
  rw [C.den, C.under]
  refine wpAny_noted ?_
  rw [C.turn]
  obtain ⟨j, H5, I5, st5, n5, w5⟩ := hI
  have f5 := keepF n5
  unfold clauseT
  refine wpAny_bind (wpAny_standAt (wpAny_bind ?_))
  rcases turn j n H5 w5 with ⟨stop, qd⟩ | ⟨go, N, hN, body⟩
  · refine thnF (T.done X rfl rfl rfl hc j pins s5 σ0 H5 _ I5 f5 st5 stop) fun r s6 hr => ?_
    obtain ⟨rfl, I6⟩ := hr
    exact wpAny_pure ⟨rfl, H5, I6, qd⟩
  · refine thnF (T.item X rfl rfl rfl hc j pins s5 σ0 H5 _ I5 f5 st5 go) fun r s6 hr => ?_
    obtain ⟨u, rfl, hu⟩ := hr
    refine wpAny_bind (thnF hu fun _ s7 hy => ?_)
    obtain ⟨x, H7, I7, rx, y7, st7, n7⟩ := hy
    have P7 := I7.pinned (keepF n7) (T.obj _ _ st7)
    have gr := pg.run _ s7 σ0 H7 x u _ P7 rx (body x H7 y7)
    rw [hx] at gr
    refine wpAny_bind (thnF gr fun _ s8 h8 => ?_)
    obtain ⟨σ8, H8, I8, e8, q8⟩ := h8
    have tr := pt.run _ s8 σ8 H8 _ I8 q8
    rw [hx] at tr
    refine wpAny_bind (thnF tr fun b s9 h9 => ?_)
    obtain ⟨H9, I9, q9⟩ := h9
    -- behind the item
    have back : ∀ {σ' : L2.St} {H' : Hp} {s' : Shared}, Inv X (pins ++ pinsAt fp s7.heap) σ' H' s' → wipe σ' vs = wipe σ8 vs → N H' → ∃ m, m < n ∧ ∃ j H', Inv X pins σ0 H' s' ∧ tn j s'.heap ∧ (∀ b ∈ fp, H' b = none) ∧ W j m H' := by
      intro σ' H' s' I' e' nx
      obtain ⟨m', hm, w'⟩ := hN H' nx
      have pin' : ∀ b ∈ fp, ∀ o, s7.heap.get? b = some o → s'.heap.get? b = some o ∧ H' b = none := by
        intro b hb o e
        have z := I'.pin (b, o) (List.mem_append_right _ (List.mem_append_right _ (mem_pinsAt hb e)))
        exact ⟨z.1, z.2.1⟩
      have e0 : wipe σ' vs = σ0 := e'.trans e8
      refine ⟨m', hm, j + 1, H', I'.unpinned.weak ?_ ?_, T.keep _ _ _ st7 fun b hb o e => (pin' b hb o e).1, ?_, w'⟩
      · rw [← e0, wipe_length]
      · intro k v e
        rw [← e0] at e
        exact (wipe_some e).1
      · intro b hb
        obtain ⟨o, e, _⟩ := T.obj _ _ st7 b hb
        exact (pin' b hb o e).2
    cases b with
    | false =>
      exact wpAny_pure ⟨rfl, back I9 rfl (by simpa using q9)⟩
    | true =>
      refine thnF (pb _ s9 σ8 H9 N I9 (by simpa using q9)) fun f s10 h10 => ?_
      obtain ⟨rfl, σ', H', I', e', nx⟩ := h10
      exact ⟨rfl, back I' e' nx⟩
/-- {..: .. for ..}: D the new dict, by tuples -/
def tDictC (wi : TI) (g : TG) (tt : TT) (tb : Addr → L2.St → Hp → (Hp → Prop) → Prop) (vs : List Nat) : TE := fun σ H Q => wi σ H fun J H1 => ∀ D, H1 D = none → tClause J g tt (tb D) vs (wipe σ vs) (upd H1 D (.dT [])) fun H' => Q (.ref D) H'
theorem dictc_run {X : Cx} (hc : X.calm = true) (hN : X.N.Nodup) {kx vx tg iter : Expr} {ifs : List Expr} {gs : List Comprehension} {scope : Scope} {own : List (Str × Nat)} {pos : Pos} {B : Env → Addr → Value → Sem PySem.Fin} {wi : TI} {g : TG} {tt : TT} {tb : Addr → L2.St → Hp → (Hp → Prop) → Prop} {vs : List Nat}
    (hi : PI X tg iter wi) (ok : BlkOk X.N X.env.scope scope own)
    (hg : ∀ (s : Shared) (H : Hp) (C : Addr) (cl : List (Str × Addr)) (fp : List Addr), PG (X.blk s H scope (compEnvC scope cl C X.env) fp) tg g) (ht : ∀ (s : Shared) (H : Hp) (C : Addr) (cl : List (Str × Addr)) (fp : List Addr), PTs (X.blk s H scope (compEnvC scope cl C X.env) fp) ifs tt)
    (hb : ∀ (s : Shared) (H : Hp) (C : Addr) (cl : List (Str × Addr)) (fp : List Addr) (D : Addr) (it : Value), PBody (X.blk s H scope (compEnvC scope cl C X.env) fp) vs (.compLoop (.DictComp kx vx (⟨tg, iter, ifs, 0⟩ :: gs) scope pos) 0 it (.ref D) (compEnvC scope cl C X.env)) (B (compEnvC scope cl C X.env) D it) (tb D))
    (hC : ∀ (it : Value) (D C : Addr) (cl : List (Str × Addr)), Clause X.prog X.w X.A (.DictComp kx vx (⟨tg, iter, ifs, 0⟩ :: gs) scope pos) 0 it (.ref D) (compEnvC scope cl C X.env) tg iter ifs (B (compEnvC scope cl C X.env) D it))
    (hvs : ∀ j ∈ own.map (·.2), j ∈ vs) (hs : ∀ x, foldedSetIterable iter X.env x = pure x := by intro _; rfl) :
    PE X (.DictComp kx vx (⟨tg, iter, ifs, 0⟩ :: gs) scope pos) (tDictC wi g tt tb vs) := by
  refine ⟨fun pins s σ H Q I h => ?_⟩
  have cells : ∀ y ∈ scope.names, y.2 = .free → ∃ c, X.env.cells.lookup y.1 = some c := by
    intro y hy e
    rcases ok.free y hy e with k | k
    · exact I.ok.has _ (.inl k)
    · exact I.ok.has _ (.inr k)
  have uniq : ∀ y ∈ scope.names, y.2 = .local → scope.names.lookup y.1 = some .local := by
    intro y hy e
    rw [ok.uniq y hy, e]
  rw [arm_eval_DictComp]
  refine wpAny_comprehension_free (use := none) rfl hs (closure_ok cells) ok.kind uniq (thn (hi.run pins s σ H _ I h) fun xv s1 hx => thn hx fun itv s2 h2 => ?_)
  obtain ⟨it, fp, tn, J, H2, rfl, I2, T, st2, f2, q⟩ := h2
  refine wpAny_newObj_type (newEnv_comp ?_)
  have q := q s2.heap.objs.size (I2.hok.fresh (Nat.le_refl _))
  have low : ∀ b ∈ fp, b < s2.heap.objs.size := by
    intro b hb
    obtain ⟨o, e, _⟩ := T.obj _ _ st2 b hb
    exact Heap.lt_size e
  have I3 : Inv X pins σ (upd H2 s2.heap.objs.size (.dT [])) { s2 with heap := s2.heap.push { cls := .type "dict", data := .dict #[] } } :=
    I2.laid (t' := s2.toks) (fun b o e => Heap.get?_push_of_some _ e) (Nat.le_refl _) (dt_empty s2.heap I2.big)
  have f3 : ∀ b ∈ fp, FpOk X pins (upd H2 s2.heap.objs.size (.dT [])) b ∧ b < (s2.heap.push { cls := .type "dict", data := .dict #[] }).objs.size := by
    intro b hb
    have lt := low b hb
    refine ⟨⟨?_, (f2 b hb).2⟩, by rw [Heap.size_push]; exact Nat.lt_succ_of_lt lt⟩
    rw [upd_ne (Nat.ne_of_lt lt)]
    exact (f2 b hb).1
  have I4 := (block_start I3 ok hN f3).weak (σ' := L2.wipe σ vs) (by rw [wipe_length, wipe_length]) fun i v e => by
    obtain ⟨h1, h2⟩ := wipe_some e
    rw [wipe_out fun z => h2 (hvs i z)]
    exact h1
  have st4 : tn 0 (pushCells ((s2.heap.push { cls := .type "dict", data := .dict #[] }).push { cls := .type "dict", data := .dict #[] }) scope.names) :=
    T.keep _ _ _ st2 fun b _ o e => pushCells_keeps _ _ _ _ (Heap.get?_push_of_some _ (Heap.get?_push_of_some _ e))
  have f4 : ∀ b ∈ fp, FpOk (X.blk { s2 with heap := s2.heap.push { cls := .type "dict", data := .dict #[] } } (upd H2 s2.heap.objs.size (.dT [])) scope (compEnvC scope (cellsFrom ((s2.heap.push { cls := .type "dict", data := .dict #[] }).objs.size + 1) scope.names (cloFrom X.env.cells scope.names [])) (s2.heap.push { cls := .type "dict", data := .dict #[] }).objs.size X.env) fp) [] (upd H2 s2.heap.objs.size (.dT [])) b := by
    intro b hb
    exact ⟨(f3 b hb).1.1, (I4.ok.exf b hb).1, I4.ok.exfs b hb, .inl hb, fun x c e => (I4.ok.exf b hb).2 x c e, fun p hp => by cases hp⟩
  have run := clause_run (X := X.blk { s2 with heap := s2.heap.push { cls := .type "dict", data := .dict #[] } } (upd H2 s2.heap.objs.size (.dT [])) scope (compEnvC scope (cellsFrom ((s2.heap.push { cls := .type "dict", data := .dict #[] }).objs.size + 1) scope.names (cloFrom X.env.cells scope.names [])) (s2.heap.push { cls := .type "dict", data := .dict #[] }).objs.size X.env) fp) hc rfl (hC (.ref it) s2.heap.objs.size _ _) T (hg _ _ _ _ _) (ht _ _ _ _ _) (hb _ _ _ _ _ s2.heap.objs.size (.ref it)) I4 st4 f4 q
  have fin := codeAny_mono (R' := compPost (model X.prog X.w) X.A X.xe none (EP X pins σ Q) (.ref s2.heap.objs.size) (s2.heap.push { cls := .type "dict", data := .dict #[] }).objs.size) run fun r s6 h6 => by
    obtain ⟨rfl, H6, I6, qd⟩ := h6
    obtain ⟨m, hn, _⟩ := I6.loc
    have hn : s6.heap.Ns (s2.heap.push { cls := .type "dict", data := .dict #[] }).objs.size m := hn
    have nC : H6 (s2.heap.push { cls := .type "dict", data := .dict #[] }).objs.size = none := I6.free
    have I7 : Inv X pins σ H6 s6 := I3.call' (ch := fp) I6.os I6.base I6.hok I6.bare fun b hb => ⟨(f3 b hb).1.2.2.2.1, (f3 b hb).1.2.1, (f3 b hb).1.2.2.2.2.1, (f3 b hb).1.2.2.2.2.2⟩
    refine ⟨m, hn, fun h8 sb => ?_⟩
    obtain ⟨f0, f1, f2, f3, f4, f5⟩ := I3.fpOk (H' := H6) (Nat.le_refl _) nC
    exact ⟨.ref s2.heap.objs.size, H6, I7.turned (t' := s6.toks) (fun b o hb e => (sb.2 b hb).trans e) f0 f1 f3 f4 f5, rfl, qd⟩
  exact codeAny_compStart_dict fin (T.self X.A 0 _ _ _ st4 fin)
end Vl
namespace Vl
open PySem PySem.Spec L2 Lb
abbrev KVs := List (List Key × PV)
abbrev GB := G → KVs → (KVs → Prop) → Prop
def ckP0 (g : GG) (t : GT) (b : GB) (γ : G) : List PV → KVs → (KVs → Prop) → Prop
  | [], d, Q => Q d
  | x :: xs, d, Q => g x γ fun γ2 => t γ2 fun c => bfi c (b γ2 d fun d' => ckP0 g t b γ xs d' Q) (ckP0 g t b γ xs d Q)
@[irreducible] def ckP (g : GG) (t : GT) (b : GB) (γ : G) (xs : List PV) (d : KVs) (Q : KVs → Prop) : Prop := ckP0 g t b γ xs d Q
theorem ckP_eq (g : GG) (t : GT) (b : GB) (γ : G) : ckP g t b γ = ckP0 g t b γ := by funext xs d Q; unfold ckP; rfl
theorem ck_nil {g : GG} {t : GT} {b : GB} {γ : G} {d : KVs} {Q : KVs → Prop} (k : Q d) : ckP g t b γ [] d Q := by rw [ckP_eq]; exact k
theorem ck_cons {g : GG} {t : GT} {b : GB} {γ : G} {x : PV} {xs : List PV} {d : KVs} {Q : KVs → Prop} (k : g x γ fun γ2 => t γ2 fun c => bfi c (b γ2 d fun d' => ckP g t b γ xs d' Q) (ckP g t b γ xs d Q)) : ckP g t b γ (x :: xs) d Q := by
  rw [ckP_eq] at k ⊢; exact k
def bdK (k : GK) (e : GE) : GB := fun γ d Q => k γ fun kk => e γ fun y => d.length < sizeLine ∧ Q (putP d kk y)
def bdIn (vs : List Nat) (it : GA) (g : GG) (t : GT) (b : GB) : GB := fun γ d Q => it γ fun xs => wipeS γ vs fun γw => ckP g t b γw xs d Q
def pDc (vs : List Nat) (it : GA) (g : GG) (t : GT) (b : GB) : GE := fun γ Q => it γ fun xs => wipeS γ vs fun γw => ckP g t b γw xs [] fun d => Q (.dT d)
/-- the new dict at D as it goes -/
def DsT (E : Ac) (L : List Addr) (D : Addr) (H1 : Hp) (d : KVs) (H : Hp) : Prop := Ex E.B H1 H ∧ ∃ ws, H D = some (.dT ws) ∧ d.map (·.1) = ws.map (·.1) ∧ RpL E.B (av E (D :: L) true true) H (d.map (·.2)) (ws.map (·.2))
theorem DsT.ex {E : Ac} {L : List Addr} {D : Addr} {H1 H H' : Hp} {d : KVs} (h : DsT E L D H1 d H) (x : Ex E.B H H') (nq : D ≠ E.B.q) : DsT E L D H1 d H' := by
  obtain ⟨x1, ws, h1, h2, h3⟩ := h
  exact ⟨x1.trans x, ws, x.st _ _ h1 nq, h2, h3.ex x av_q⟩
/-- a body by plain values: at D, from the base H1 -/
def BdOk (K : Fg) (ks : List Kd) (D : Addr) (tb : L2.St → Hp → (Hp → Prop) → Prop) (b : GB) : Prop :=
  ∀ (E : Ac) (L : List Addr) (H1 : Hp) (γ : G) (σ : St) (H : Hp) (d : KVs) (Q : KVs → Prop) (N : Hp → Prop), E.B.K = K → H1 D = none → BagOk E.B H1 → Rel E (D :: L) ks γ σ H → DsT E L D H1 d H → b γ d Q → (∀ d' H', Fw E.B (D :: L) H (D :: L) H' → DsT E L D H1 d' H' → Q d' → N H') → tb σ H N
section
variable {X : Cx} {ks : List Kd} {a s a1 a2 : Bool} {tg e : Expr} {ifs : List Expr} {p : GE} {pa : GA} {g : GG} {pt : GT} {pos : Pos} {js vs : List Nat} {b : GB} {D : Addr}
theorem Rel.again {E : Ac} {L : List Addr} {γ : G} {σ : St} {H H' : Hp} (R : Rel E L ks γ σ H) (f : Fw E.B L H L H') (bg : BagOk E.B H') (pl : ∀ i x, γ[i]? = some (some x) → (kd ks i).kb = true) : Rel E L ks γ σ H' := by
  have key : ∀ k x v O, Kd.kb k = true → Kr E L H k x v O → Kr E L H' k x v O := by
    intro k x v O hk kr
    refine kr.mv (fun a o e m nl => f.st a o e nl m) f.tp (fun a m => .inl m) fun a m => ?_
    cases k <;> first | (cases hk; done) | (obtain ⟨rfl, _⟩ := kr; cases m)
  refine ⟨fun a o h m => f.st a o (R.old a o h m) (fun z => by rw [(R.lf a z).1] at h; cases h) m, fun a h => f.nn a (R.onn a h), bg, R.a0, R.aq, R.ar, fun a h => ⟨(R.lf a h).1, f.nn a (R.lf a h).2⟩, R.len, ?_⟩
  obtain ⟨O, h1, h2, h3, h4⟩ := R.sl
  refine ⟨O, fun i x hx => ?_, h2, h3, h4⟩
  obtain ⟨v, hv, k⟩ := h1 i x hx
  exact ⟨v, hv, key _ x v (O i) (pl i x hx) k⟩
theorem BagOk.dst {E : Ac} {L : List Addr} {D : Addr} {H1 H : Hp} {d : KVs} (b : BagOk E.B H1) (h : DsT E L D H1 d H) : BagOk E.B H := h.1.bg b
theorem clause_ok {K : Fg} {tb : L2.St → Hp → (Hp → Prop) → Prop} {E : Ac} {L : List Addr} {H1 H : Hp} {γ0 : G} {σ0 : St} {d : KVs} {Q : KVs → Prop} {xs : List PV} {J : It} (hK : E.B.K = K) (nD : H1 D = none) (bg : BagOk E.B H1) (R : Rel E (D :: L) ks (wipeG γ0 vs) (L2.wipe σ0 vs) H) (ds : DsT E L D H1 d H)
    (it : ItOk E (D :: L) H a1 xs J) (hj : ∀ j ∈ js, j ∈ vs) (hv : ∀ i, (kd ks i).kb = true ∨ i ∈ vs) (hb : BdOk K ks D tb b) (hp : ckP g pt b (wipeG γ0 vs) xs d Q) :
    tClause J (tG K ks a1 true js g) (tT K ks pt) tb vs (L2.wipe σ0 vs) H fun H' => ∃ d', Fw E.B (D :: L) H (D :: L) H' ∧ DsT E L D H1 d' H' ∧ Q d' := by
  obtain ⟨P, p0, pf, pg, ps⟩ := it.ex
  have pl : ∀ i x, (wipeG γ0 vs)[i]? = some (some x) → (kd ks i).kb = true := fun i x h => (hv i).resolve_right (wipeG_some h).2
  refine ⟨fun i m H' => m = xs.length - i ∧ ∃ d', Fw E.B (D :: L) H (D :: L) H' ∧ DsT E L D H1 d' H' ∧ ckP g pt b (wipeG γ0 vs) (xs.drop i) d' Q, ⟨_, rfl, d, .refl _ _ _, ds, hp⟩, ?_⟩
  rintro i m H2 ⟨rfl, d2, f2, ds2, hk⟩
  have R2 := R.again f2 (bg.dst ds2) pl
  have nq : D ≠ E.B.q := R2.lq (by simp)
  by_cases hi : i < xs.length
  · right
    obtain ⟨go, yl⟩ := pg i _ H2 (pf _ _ _ _ p0 f2) hi
    refine ⟨go, fun H' => ∃ d', Fw E.B (D :: L) H (D :: L) H' ∧ DsT E L D H1 d' H' ∧ ckP g pt b (wipeG γ0 vs) (xs.drop (i + 1)) d' Q, fun H' h => ⟨xs.length - (i + 1), by omega, rfl, h⟩, fun v H3 hy => ?_⟩
    obtain ⟨x3, y, hy, ry⟩ := yl v H3 hy
    have hd : xs.drop i = y :: xs.drop (i + 1) := by
      rw [List.drop_eq_getElem_cons hi]
      rw [List.getElem?_eq_getElem hi] at hy; cases hy; rfl
    rw [hd, ckP_eq] at hk
    have R3 := R2.ex x3
    refine ⟨E, D :: L, wipeG γ0 vs, y, _, hK, R3, ry, hk, fun γ2 σ2 q2 R4 ss => ⟨ss.wipe hj, E, D :: L, γ2, _, hK, R4, q2, fun c H4 q4 x4 => ?_⟩⟩
    have ds4 := (ds2.ex x3 nq).ex x4 nq
    have f4 : Fw E.B (D :: L) H (D :: L) H4 := f2.trans (x3.trans x4).fw
    cases c with
    | false =>
      show if false = true then _ else _
      rw [if_neg (by simp)]
      exact ⟨d2, f4, ds4, by rw [ckP_eq]; exact q4⟩
    | true =>
      show if true = true then _ else _
      rw [if_pos rfl]
      exact hb E L H1 γ2 σ2 H4 d2 _ _ hK nD bg (R4.ex x4) ds4 q4 fun d' H' f5 ds5 q5 => ⟨d', f4.trans f5, ds5, by rw [ckP_eq]; exact q5⟩
  · left
    have hi := Nat.not_lt.mp hi
    rw [List.drop_eq_nil_of_le hi, ckP_eq] at hk
    exact ⟨ps i _ H2 (pf _ _ _ _ p0 f2) hi, d2, f2, ds2, hk⟩
/-- the store: a key, a value -/
def tbK (D : Addr) (tk tv : TE) : L2.St → Hp → (Hp → Prop) → Prop := fun σ H N => tk σ H fun y H4 => tv σ H4 fun z H5 => ∃ kvs k c, y = .ref c ∧ H5 c = some (.tup (k.map kV)) ∧ H5 D = some (.dT kvs) ∧ kvs.length < sizeLine ∧ N (upd H5 D (.dT (putK kvs k z)))
def bodyK (c : Code) (kx vx : Expr) (env : Env) (D : Addr) : Sem PySem.Fin := (do
  let kv ← eval kx env
  let vv ← holding [kv] (eval vx env)
  standAt { kx.pos with endLine := vx.pos.endLine, endCol := vx.pos.endCol }
  holding [kv, vv] (dictSet D kv vv)) >>= fun _ => again c
theorem bodyK_run {X : Cx} {c : Code} {kx vx : Expr} {tk tv : TE} {vs : List Nat} (hx : X.xe = fun _ _ => False) (hu : X.A.units + 1 < cLine) (hk : PE X kx tk) (he : PE X vx tv) : PBody X vs c (bodyK c kx vx X.env D) (tbK D tk tv) := by
  intro pins s σ H N I h
  have r1 := hk.run pins s σ H _ I h
  rw [hx] at r1
  unfold bodyK
  refine wpAny_bind (wpAny_bind (thnF r1 fun u s1 ⟨y, H4, I4, ry, h4⟩ => ?_))
  have r2 := he.run pins s1 σ H4 _ I4 h4
  rw [hx] at r2
  refine wpAny_bind (wpAny_holding (thnF r2 fun w s2 ⟨z, H5, I5, rz, kvs, k, c, ey, hc, hD, hz, nx⟩ => ?_))
  subst ey
  obtain rfl : u = Value.ref c := ry
  refine wpAny_bind (wpAny_standAt (wpAny_holding ?_))
  exact d_dictSetT hu I5 hD hz hc rz fun s3 I6 => wpAny_pure ⟨rfl, σ, _, I6, rfl, nx⟩
theorem bodyK_ok {pk : GK} {pv : GE} {K : Fg} (hK : X.K = K) : BdOk K ks D (tbK D (tK X.K ks pk) (tE X.K ks true true pv)) (bdK pk pv) := by
  subst hK
  intro E L H1 γ σ H d Q N hK nD bg R ds hp k
  have nq : D ≠ E.B.q := R.lq (by simp)
  refine ⟨E, D :: L, γ, _, hK, R, hp, fun kk c H4 q4 x4 hc => ⟨E, D :: L, γ, _, hK, R.ex x4, q4, fun y u H5 q5 x5 ry => ?_⟩⟩
  have ds5 := (ds.ex x4 nq).ex x5 nq
  obtain ⟨xb, ws, h1, h2, h3⟩ := ds5
  have hl : d.length = ws.length := by have := congrArg List.length h2; simpa using this
  have nt : ∀ vs, H5 D ≠ some (.tup vs) := fun vs => by rw [h1]; exact nofun
  have mD : D ∈ D :: L := by simp
  refine ⟨ws, kk, c, rfl, x5.tp _ _ hc, h1, by rw [← hl]; exact q5.1, ?_⟩
  have pr := put_rp (k := kk) (ry.upL (o := .dT (putK ws kk u)) mD nt) h2 (h3.upL (o := .dT (putK ws kk u)) mD nt)
  exact k _ _ (((x4.trans x5).fw).trans (.upd mD nt)) ⟨xb.inner nD bg, _, upd_same, pr.1, pr.2⟩ q5.2
/-- a second clause as a body -/
def bodyIn (ce i1 : Expr) (env : Env) (acc : Value) (c : Code) : Sem PySem.Fin := do
  let x ← eval i1 env
  standAt i1.pos
  let x ← foldedSetIterable i1 env x
  let _ ← runOwn (.compStart ce 1 (← holding [x] (pyIter x)) acc env) env
  again c
def tbIn (wi : TI) (g : TG) (tt : TT) (tb : L2.St → Hp → (Hp → Prop) → Prop) (vs : List Nat) : L2.St → Hp → (Hp → Prop) → Prop := fun σ H N => wi σ H fun J H1 => tClause J g tt tb vs (L2.wipe σ vs) H1 N
theorem start2 {prog : Program} {w : World} {A : Around} {R : Result → Shared → Prop} {s : Shared} {kx vx : Expr} {g0 g1 : Comprehension} {scope : Scope} {p : Pos} {it acc : Value} {env : Env} (ha : g1.is_async = 0)
    (h0 : codeAny (model prog w) A (.compLoop (.DictComp kx vx [g0, g1] scope p) 1 it acc env) R s)
    (h : wpAny (model prog w) A (pyIter it) (fun it' s' => codeAny (model prog w) A (.compLoop (.DictComp kx vx [g0, g1] scope p) 1 it' acc env) R s') (fun _ _ => False) s) :
    codeAny (model prog w) A (.compStart (.DictComp kx vx [g0, g1] scope p) 1 it acc env) R s := by
  have go : wpAny (model prog w) A (compStart (.DictComp kx vx [g0, g1] scope p) 1 it acc env) (fun fin s' => match fin with | .done f => R (.ok f) s' | .again c => c.quiet = true ∧ codeAny (model prog w) A c R s') (notedBy (model prog w) A env fun e s' => R (.error e) s') s := by
    have e1 : (((clausesOf (.DictComp kx vx [g0, g1] scope p))[1]?).elim false (·.is_async != 0)) = false := by
      show (g1.is_async != 0) = false
      rw [ha]; rfl
    unfold compStart
    rw [e1]
    show wpAny _ _ (ask >>= _) _ _ s
    refine wpAny_bind (wpAny_askSetting (wpAny_ite ?_))
    split
    · first
        | exact wpAny_bind (wpAny_pure (wpAny_pure ⟨rfl, h0⟩))
        | exact wpAny_pure ⟨rfl, h0⟩
    · refine wpAny_bind (wpAny_rule ?_)
      show wpAny _ _ (standAt g1.iter.pos >>= _) _ _ s
      exact wpAny_bind (wpAny_standAt (wpAny_bind (thnF h fun it' s' h' => wpAny_pure ⟨rfl, h'⟩)))
  exact codeAny_of_tree (wpAny_notedAt go)
theorem bodyIn_run {X : Cx} {c : Code} {kx vx t0 i0 t1 i1 : Expr} {f0 f1 : List Expr} {scope : Scope} {p : Pos} {Dv : Addr} {B : Value → Sem PySem.Fin} {wi : TI} {g : TG} {tt : TT} {tb : L2.St → Hp → (Hp → Prop) → Prop} {vs vs1 : List Nat} (hc : X.calm = true) (hx : X.xe = fun _ _ => False)
    (hi : PI X t1 i1 wi) (hg : PG X t1 g) (ht : PTs X f1 tt) (hb : ∀ it : Value, PBody X vs1 (.compLoop (.DictComp kx vx [⟨t0, i0, f0, 0⟩, ⟨t1, i1, f1, 0⟩] scope p) 1 it (.ref Dv) X.env) (B it) tb) (hv : ∀ j ∈ vs1, j ∈ vs)
    (hC : ∀ it : Value, Clause X.prog X.w X.A (.DictComp kx vx [⟨t0, i0, f0, 0⟩, ⟨t1, i1, f1, 0⟩] scope p) 1 it (.ref Dv) X.env t1 i1 f1 (B it)) (hs : ∀ x, foldedSetIterable i1 X.env x = pure x) :
    PBody X vs c (bodyIn (.DictComp kx vx [⟨t0, i0, f0, 0⟩, ⟨t1, i1, f1, 0⟩] scope p) i1 X.env (.ref Dv) c) (tbIn wi g tt tb vs1) := by
  intro pins s σ H N I h
  have r1 := hi.run pins s σ H _ I h
  rw [hx] at r1
  unfold bodyIn
  refine wpAny_bind (thnF r1 fun x s1 h1 => wpAny_bind (wpAny_standAt (wpAny_bind (wpAny_of_eq (hs x) (wpAny_bind (wpAny_holding (thnF h1 fun itv s2 h2 => ?_)))))))
  obtain ⟨it, fp, tn, J, H2, rfl, I2, T, st2, f2, q⟩ := h2
  have W2 : Inv X pins (L2.wipe σ vs1) H2 s2 := I2.weak (wipe_length σ vs1) fun i v e => (wipe_some e).1
  have run := clause_run hc hx (hC (.ref it)) T hg ht (hb (.ref it)) W2 st2 f2 q
  refine wpAny_bind (wpAny_runOwn ?_)
  rw [Around.mark_none]
  have fin : codeAny (model X.prog X.w) X.A (.compLoop (.DictComp kx vx [⟨t0, i0, f0, 0⟩, ⟨t1, i1, f1, 0⟩] scope p) 1 (.ref it) (.ref Dv) X.env) (fun r s' => match r with
      | .ok _ => wpAny (model X.prog X.w) X.A (again c) (fun f s' => f = .again c ∧ ∃ σ' H', Inv X pins σ' H' s' ∧ L2.wipe σ' vs = L2.wipe σ vs ∧ N H') (fun _ _ => False) s'
      | .error e => cameBackBy (model X.prog X.w) X.A X.env (fun _ _ => False) e s') s2 := codeAny_mono run fun r s' hr => by
    obtain ⟨rfl, H', I', nx⟩ := hr
    refine wpAny_pure ⟨rfl, L2.wipe σ vs1, H', I', ?_, nx⟩
    apply List.ext_getElem?
    intro i
    by_cases hi : i ∈ vs
    · by_cases hl : i < σ.length
      · rw [wipe_in hi (by rw [wipe_length]; exact hl), wipe_in hi hl]
      · rw [List.getElem?_eq_none (by rw [wipe_length, wipe_length]; omega), List.getElem?_eq_none (by rw [wipe_length]; omega)]
    · have h1 : i ∉ vs1 := fun z => hi (hv i z)
      rw [wipe_out hi, wipe_out hi, wipe_out h1]
  refine start2 rfl ?_ (T.self X.A 0 _ _ _ st2 ?_)
  all_goals
    refine codeAny_mono fin fun r s' hr => ?_
    cases r with
    | ok f => exact hr
    | error e => exact hr
theorem bodyIn_ok {K : Fg} {pi : GA} {b : GB} {tb : L2.St → Hp → (Hp → Prop) → Prop} (hb : BdOk K ks D tb b) (hj : ∀ j ∈ js, j ∈ vs) (hv : ∀ i, (kd ks i).kb = true ∨ i ∈ vs) : BdOk K ks D (tbIn (tI K ks a1 pi) (tG K ks a1 true js g) (tT K ks pt) tb vs) (bdIn vs pi g pt b) := by
  intro E L H1 γ σ H d Q N hK nD bg R ds hp k
  have nq : D ≠ E.B.q := R.lq (by simp)
  refine ⟨E, D :: L, γ, _, hK, R, hp, fun xs J H2 q2 x2 it => ?_⟩
  rw [wipeS_eq] at q2
  have R2 := (R.ex x2).wipe vs
  obtain ⟨W, w0, turn⟩ := clause_ok hK nD bg R2 (ds.ex x2 nq) it hj hv hb q2
  refine ⟨W, w0, fun j m H' w => ?_⟩
  rcases turn j m H' w with ⟨st, d', f', ds', q'⟩ | r
  · exact .inl ⟨st, k d' H' (x2.fw.trans f') ds' q'⟩
  · exact .inr r
theorem qn_dc {iter : Expr} {scope : Scope} {tb : Addr → L2.St → Hp → (Hp → Prop) → Prop}
    (pe : ∀ {wi : TI} {g : TG} {tt : TT}, PI X tg iter wi → (∀ (s : Shared) (H : Hp) (C : Addr) (cl : List (Str × Addr)) (fp : List Addr), PG (X.blk s H scope (compEnvC scope cl C X.env) fp) tg g) →
      (∀ (s : Shared) (H : Hp) (C : Addr) (cl : List (Str × Addr)) (fp : List Addr), PTs (X.blk s H scope (compEnvC scope cl C X.env) fp) ifs tt) → PE X e (tDictC wi g tt tb vs))
    (hi : QI X ks a1 tg iter pa) (hg : ∀ (s : Shared) (H : Hp) (C : Addr) (cl : List (Str × Addr)) (fp : List Addr), QG (X.blk s H scope (compEnvC scope cl C X.env) fp) ks a1 true js tg g)
    (ht : ∀ (s : Shared) (H : Hp) (C : Addr) (cl : List (Str × Addr)) (fp : List Addr), QTs (X.blk s H scope (compEnvC scope cl C X.env) fp) ks ifs pt) (hb : ∀ D, BdOk X.K ks D (tb D) b) (hj : ∀ j ∈ js, j ∈ vs) (hv : ∀ i, (kd ks i).kb = true ∨ i ∈ vs) :
    QN X ks e (pDc vs pa g pt b) :=
  PEi (pe hi hg ht) fun σ H Q ⟨E, L, γ, Qp, hK, R, hp, k⟩ => by
    refine ⟨E, L, γ, _, hK, R, hp, fun xs J H1 q1 x1 it D nD => ?_⟩
    rw [wipeS_eq] at q1
    have nH : H D = none := x1.free nD
    have R1 := R.ex x1
    have x2 : Ex E.B H1 (upd H1 D (.dT [])) := .new nD
    have R2 : Rel E (D :: L) ks γ σ (upd H1 D (.dT [])) := R1.more x2 nD (by rw [upd_same]; exact nofun)
    have it2 : ItOk E (D :: L) (upd H1 D (.dT [])) a1 xs J := by
      obtain ⟨P, p0, pf, pg, ps⟩ := it.ex
      exact ⟨P, pf _ _ _ _ p0 (.more x2 nD), pf, pg, ps⟩
    obtain ⟨W, w0, turn⟩ := clause_ok (E := E) (L := L) (H1 := H1) hK nD R1.bag (R2.wipe vs) (d := []) ⟨x2, [], upd_same, rfl, .nil⟩ it2 hj hv (hb D) q1
    refine ⟨W, w0, fun j m H' w => ?_⟩
    rcases turn j m H' w with ⟨st, d', f', ⟨xb, ws, h1, h2, h3⟩, q'⟩ | r
    · refine .inl ⟨st, k _ D H' q' (x1.trans xb) nH ⟨ws, h1, h2, h3.anti fun c z => ?_⟩⟩
      rcases z with z | z
      · exact av_cons z
      · exact .inr (.inr ⟨rfl, by rw [z]; simp⟩)
    · exact .inr r
theorem clauseD {prog : Program} {w : World} {A : Around} {kx vx t0 i0 : Expr} {f0 : List Expr} {scope : Scope} {p : Pos} {it : Value} {D : Addr} {env : Env} : Clause prog w A (.DictComp kx vx [⟨t0, i0, f0, 0⟩] scope p) 0 it (.ref D) env t0 i0 f0 (bodyK (.compLoop (.DictComp kx vx [⟨t0, i0, f0, 0⟩] scope p) 0 it (.ref D) env) kx vx env D) := ⟨rfl, rfl, rfl, rfl⟩
theorem clauseD0 {prog : Program} {w : World} {A : Around} {kx vx t0 i0 t1 i1 : Expr} {f0 f1 : List Expr} {scope : Scope} {p : Pos} {it : Value} {D : Addr} {env : Env} : Clause prog w A (.DictComp kx vx [⟨t0, i0, f0, 0⟩, ⟨t1, i1, f1, 0⟩] scope p) 0 it (.ref D) env t0 i0 f0 (bodyIn (.DictComp kx vx [⟨t0, i0, f0, 0⟩, ⟨t1, i1, f1, 0⟩] scope p) i1 env (.ref D) (.compLoop (.DictComp kx vx [⟨t0, i0, f0, 0⟩, ⟨t1, i1, f1, 0⟩] scope p) 0 it (.ref D) env)) := ⟨rfl, rfl, rfl, rfl⟩
theorem clauseD1 {prog : Program} {w : World} {A : Around} {kx vx t0 i0 t1 i1 : Expr} {f0 f1 : List Expr} {scope : Scope} {p : Pos} {it : Value} {D : Addr} {env : Env} : Clause prog w A (.DictComp kx vx [⟨t0, i0, f0, 0⟩, ⟨t1, i1, f1, 0⟩] scope p) 1 it (.ref D) env t1 i1 f1 (bodyK (.compLoop (.DictComp kx vx [⟨t0, i0, f0, 0⟩, ⟨t1, i1, f1, 0⟩] scope p) 1 it (.ref D) env) kx vx env D) := ⟨rfl, rfl, rfl, rfl⟩
/-- two clauses -/
theorem qn_dc2 {kx vx iter iter1 tg1 : Expr} {ifs1 : List Expr} {scope : Scope} {own : List (Str × Nat)} {own1 vs1 : List Nat} {pk : GK} {pv : GE} {a3 : Bool} {pa1 : GA} {g1 : GG} {pt1 : GT} (hc : X.calm = true) (hN : X.N.Nodup) (hu : X.A.units + 1 < cLine) (ok : BlkOk X.N X.env.scope scope own)
    (hi : QI X ks a1 tg iter pa) (hg : ∀ (s : Shared) (H : Hp) (C : Addr) (cl : List (Str × Addr)) (fp : List Addr), QG (X.blk s H scope (compEnvC scope cl C X.env) fp) ks a1 true (own.map (·.2)) tg g)
    (ht : ∀ (s : Shared) (H : Hp) (C : Addr) (cl : List (Str × Addr)) (fp : List Addr), QTs (X.blk s H scope (compEnvC scope cl C X.env) fp) ks ifs pt)
    (hi1 : ∀ (s : Shared) (H : Hp) (C : Addr) (cl : List (Str × Addr)) (fp : List Addr), QI (X.blk s H scope (compEnvC scope cl C X.env) fp) ks a3 tg1 iter1 pa1)
    (hg1 : ∀ (s : Shared) (H : Hp) (C : Addr) (cl : List (Str × Addr)) (fp : List Addr), QG (X.blk s H scope (compEnvC scope cl C X.env) fp) ks a3 true own1 tg1 g1)
    (ht1 : ∀ (s : Shared) (H : Hp) (C : Addr) (cl : List (Str × Addr)) (fp : List Addr), QTs (X.blk s H scope (compEnvC scope cl C X.env) fp) ks ifs1 pt1)
    (hk : ∀ (s : Shared) (H : Hp) (C : Addr) (cl : List (Str × Addr)) (fp : List Addr), QKy (X.blk s H scope (compEnvC scope cl C X.env) fp) ks kx pk) (he : ∀ (s : Shared) (H : Hp) (C : Addr) (cl : List (Str × Addr)) (fp : List Addr), QE (X.blk s H scope (compEnvC scope cl C X.env) fp) ks true true vx pv)
    (hvs : ∀ j ∈ own.map (·.2), j ∈ vs) (hv : ∀ i, (kd ks i).kb = true ∨ i ∈ vs) (hvs1 : ∀ j ∈ own1, j ∈ vs1) (hv1 : ∀ i, (kd ks i).kb = true ∨ i ∈ vs1) (hvv : ∀ j ∈ vs1, j ∈ vs)
    (hs1 : ∀ C cl x, foldedSetIterable iter1 (compEnvC scope cl C X.env) x = pure x := by intro _ _ _; rfl) (hs : ∀ x, foldedSetIterable iter X.env x = pure x := by intro _; rfl) :
    QN X ks (.DictComp kx vx [⟨tg, iter, ifs, 0⟩, ⟨tg1, iter1, ifs1, 0⟩] scope pos) (pDc vs pa g pt (bdIn vs1 pa1 g1 pt1 (bdK pk pv))) :=
  qn_dc (tb := fun D => tbIn (tI X.K ks a3 pa1) (tG X.K ks a3 true own1 g1) (tT X.K ks pt1) (tbK D (tK X.K ks pk) (tE X.K ks true true pv)) vs1) (fun hi hg ht => dictc_run hc hN (B := fun env D it => bodyIn (.DictComp kx vx [⟨tg, iter, ifs, 0⟩, ⟨tg1, iter1, ifs1, 0⟩] scope pos) iter1 env (.ref D) (.compLoop (.DictComp kx vx [⟨tg, iter, ifs, 0⟩, ⟨tg1, iter1, ifs1, 0⟩] scope pos) 0 it (.ref D) env)) hi ok hg ht
    (fun s H C cl fp D it => bodyIn_run (X := X.blk s H scope (compEnvC scope cl C X.env) fp) hc rfl (hi1 s H C cl fp) (hg1 s H C cl fp) (ht1 s H C cl fp) (fun it => bodyK_run (X := X.blk s H scope (compEnvC scope cl C X.env) fp) rfl hu (hk s H C cl fp) (he s H C cl fp)) hvv (fun _ => clauseD1) (hs1 C cl)) (fun _ _ _ _ => clauseD0) hvs hs) hi hg ht (fun _ => bodyIn_ok (bodyK_ok rfl) hvs1 hv1) hvs hv
end
end Vl
namespace Vl
open PySem PySem.Spec L2 Lb
/-- a value read without any change of the heap -/
def tZ (K : Fg) (ks : List Kd) (a s : Bool) (p : GE) : TE := fun σ H Q => ∃ (E : Ac) (L : List Addr) (γ : G) (Qp : PV → Prop), E.B.K = K ∧ Rel E L ks γ σ H ∧ p γ Qp ∧ ∀ x v, Qp x → Rp E.B (av E L a s) H x v → Q v H
abbrev QZ (X : Cx) (ks : List Kd) (a s : Bool) (e : Expr) (p : GE) : Prop := PE X e (tZ X.K ks a s p)
section
variable {X : Cx} {ks : List Kd} {a s a1 : Bool} {e o kx vx tg : Expr} {ifs : List Expr} {p : GE} {g : GG} {pt : GT} {pos apos cpos : Pos} {js vs : List Nat}
theorem qz_v (i : Nat) (h : PE X e (tVar i)) (ha : a = (kd ks i).ka := by rfl) (hb : s = (kd ks i).kb := by rfl) (hv : (kd ks i).vis = true := by rfl) : QZ X ks a s e (pVar i) := by
  subst ha hb
  exact PEi h fun σ H Q ⟨E, L, γ, Qp, hK, R, hp, k⟩ => by
    obtain ⟨x, hx, q⟩ := getS_of hp
    obtain ⟨v, hv, r⟩ := R.read hx (by assumption)
    exact ⟨v, hv, k x v q r⟩
theorem qz_fld (c j : Nat) {f : Str} (cl : Cls X.K (He.ga X.K (clsT c).1)) (na : NoAttr X.K (He.ga X.K (clsT c).1) f) (h : QZ X ks a s e p) (hb : attributeBase e f X.env (eval e X.env) = eval e X.env := by rfl)
    (hf : (clsT c).2[j]? = some f ∧ ((clsT c).2.take j).all (fun g => !decide (g = f)) = true := by decide +kernel) : QZ X ks a s (.Attribute e f pos) (pFld c j p) :=
  PEi (pe_fld h hb) fun σ H Q ⟨E, L, γ, Qp, hK, R, hp, k⟩ => by
    refine ⟨E, L, γ, _, hK, R, hp, fun x v q1 r1 => ?_⟩
    cases r1 <;> first | exact q1.elim | skip
    rename_i b dx c' ws xs vs n h1 h2 h3 r
    obtain ⟨rfl, q1⟩ := q1
    obtain ⟨y, hy, q⟩ := getS_map q1
    obtain ⟨u, hu, ru⟩ := r.get hy
    have hj : j < xs.length := (List.getElem?_eq_some_iff.mp hy).1
    have name : ((clsT c').2.take xs.length)[j]? = some f := by rw [List.getElem?_take, if_pos hj]; exact hf.1
    have before : ∀ i < j, ((clsT c').2.take xs.length)[i]? ≠ some f := fun i hi => by
      rw [List.getElem?_take, if_pos (by omega)]
      exact fldn hf i hi
    have look := lookup_at (j := j) h2 name before (by rw [h3]; exact hu)
    exact ⟨b, He.ga X.K (clsT c').1, dx, ws, u, rfl, hK ▸ h1, cl, na, look, k y u q ru⟩
/-- what was locked on the way is unlocked at the end -/
theorem pe_unl {t : TE} (h : PE X e t) : PE X e (fun σ H Q => t σ H fun v H' => ∃ d od u, H d = some u ∧ Mut (some u) ∧ H' d = some (.frz od u) ∧ Q v (upd H' d u)) := by
  refine ⟨fun pins s σ H Q I q => thn (h.run pins s σ H _ I q) fun v s1 r => ?_⟩
  obtain ⟨x, H1, I1, rx, d, od, u, hd, mu, lk, fin⟩ := r
  exact ⟨x, upd H1 d u, I1.unlock lk (I.nofrz hd mu), rx, fin⟩
/-- at work with nothing but the bag -/
def Ac.bare (E : Ac) (H : Hp) : Ac := ⟨E.B, fun b => b = E.B.q, fun b => if b = E.B.q then H b else if b = E.B.r then H b else none, E.me⟩
theorem Rel.bare {E : Ac} {L : List Addr} {γ γ' : G} {σ : St} {H H' : Hp} (R : Rel E L ks γ σ H) (hq : H' E.B.q = H E.B.q) (hr : H' E.B.r = H E.B.r) (hl : γ'.length = γ.length) (hn : ∀ (i : Nat) (x : PV), γ'[i]? ≠ some (some x)) : Rel (E.bare H') [] ks γ' σ H' := by
  obtain ⟨x, y, z, cs, h1, h2, h3, h4⟩ := R.bag
  have bag' : BagOk E.B H' := ⟨x, y, z, cs, hq.trans h1, hr.trans h2, h3, h4⟩
  refine ⟨fun a o h n => ?_, fun a h => ?_, bag', fun a h => ?_, rfl, ?_, (fun _ z => nomatch z), hl.trans R.len, ⟨fun _ => [], (fun i x h => absurd h (hn i x)), (fun _ _ z => nomatch z), (fun _ _ _ z => nomatch z), fun _ => List.nodup_nil⟩⟩
  · have h : (if a = E.B.q then H' a else if a = E.B.r then H' a else none) = some o := h
    have n : a ≠ E.B.q := n
    rw [if_neg n] at h
    by_cases e : a = E.B.r
    · rw [if_pos e] at h; exact h
    · rw [if_neg e] at h; cases h
  · have h : (if a = E.B.q then H' a else if a = E.B.r then H' a else none) ≠ none := h
    by_cases e : a = E.B.q
    · rw [if_pos e] at h; exact h
    · rw [if_neg e] at h
      by_cases e : a = E.B.r
      · rw [if_pos e] at h; exact h
      · rw [if_neg e] at h; exact absurd rfl h
  · have h : a = E.B.q := h
    show (if a = E.B.q then H' a else if a = E.B.r then H' a else none) ≠ none
    rw [if_pos h, h, hq, h1]; exact nofun
  · show (if E.B.r = E.B.q then H' E.B.r else if E.B.r = E.B.r then H' E.B.r else none) ≠ none
    rw [if_neg h3, if_pos rfl, hr, h2]; exact nofun
theorem RpL.lk {B : Bg} {A : Addr → Prop} {H H' : Hp} {x : List PV} {v : List V} (h : RpL B A H x v) (im : immL x = true) (tp : ∀ b vs, H b = some (.tup vs) → H' b = some (.tup vs)) : ∀ A', RpL B A' H' x v := fun A' => by
  have h2 : RpL B (fun _ => True) H x v := h.im im
  have h3 : RpL B (fun _ => True) H' x v := h2.mv (fun b u e n => absurd trivial n) tp fun _ _ _ => trivial
  exact h3.anti fun _ _ => trivial
end
end Vl
namespace Vl
theorem hv_by {ks : List Kd} {vs : List Nat} (h : (List.range ks.length).all (fun i => (kd ks i).kb || decide (i ∈ vs)) = true) (i : Nat) : (kd ks i).kb = true ∨ i ∈ vs := by
  by_cases hi : i < ks.length
  · have := List.all_eq_true.mp h i (List.mem_range.mpr hi)
    simpa using this
  · refine .inl ?_
    unfold kd
    rw [List.getD_eq_getElem?_getD, List.getElem?_eq_none (by omega)]; rfl
end Vl
namespace Vl
open PySem PySem.Spec L2 Lb
end Vl
namespace Vl
open PySem PySem.Spec L2 Lb PyProof.Rows
end Vl
namespace Vl
open PySem PySem.Spec L2 Lb
end Vl
namespace Vl
open PySem PySem.Spec L2 Lb PyProof.Rows
section
variable {X : Cx} {ks kl : List Kd}
/-- one field set, the value at hand -/
theorem fld_go (c j : Nat) {f : Str} (cl : Cls X.K (He.ga X.K (clsT c).1)) (na : NoAttr X.K (He.ga X.K (clsT c).1) f) {E : Ac} {L : List Addr} {γ : G} {σ : L2.St} {H : Hp} (hK : E.B.K = X.K) (R1 : Rel E L ks γ σ H) (hk : ks[0]? = some .slf)
    (hf : (clsT c).2[j]? = some f ∧ (clsT c).2.Nodup) {y : PV} {u : V} (ry : Rp E.B (av E L true true) H y u) {N : G → Prop} {T : L2.St → Hp → Prop}
    (q1 : getS γ 0 fun x => match x with | .ins c' fs => c' = c ∧ j ≤ fs.length ∧ N (γ.set 0 (some (.ins c' (if j = fs.length then fs ++ [y] else fs.set j y)))) | _ => False)
    (nx : ∀ γ' H' b o, b ∈ L → (∀ vs, H b ≠ some (.tup vs)) → H' = upd H b o → Rel E L ks γ' σ H' → N γ' → T σ H') :
    ∃ v, σ[0]? = some (some v) ∧ ∃ a C dx fs, v = .ref a ∧ H a = some (.ins C dx fs) ∧ Cls X.K C ∧ NoAttr X.K C f ∧ fs.length < 1000 ∧ T σ (upd H a (.ins C dx (putF f u fs))) := by
  have R := R1
  obtain ⟨x, hx, q⟩ := getS_of q1
  obtain ⟨O, h1, h2, h3, h4⟩ := R1.sl
  obtain ⟨v, hv, k⟩ := h1 0 x hx
  rw [getElem?_kd hk] at k
  obtain ⟨b, rfl, ho, ⟨⟨c', fs, rfl⟩, hme⟩, ob⟩ := k
  have nt := ob.nt
  obtain ⟨dx, ws, g1, g2, g3⟩ := ob
  obtain ⟨rfl, hj, q⟩ := q
  have hb : b ∈ L := h2 0 b (by rw [ho]; simp)
  have hl : fs.length = ws.length := by rw [g3.length]; simp
  have hr : b ≠ E.B.r := fun z => R.ar (by rw [← z]; exact (R.lf b hb).1)
  have hn : ws.length < 1000 := by
    have : ws.length ≤ (clsT c').2.length := by
      have := congrArg List.length g2; simp at this; omega
    have h10 : (clsT c').2.length ≤ 5 := by
      rcases c' with _ | _ | _ | _ | _ | _ | _ | _ | _ | _ | _ <;> simp [clsT]
    omega
  refine ⟨.ref b, hv, b, _, dx, ws, rfl, by rw [← hK]; exact g1, cl, na, hn, ?_⟩
  rw [← hK]
  have hp2 := putF_at (v := u) (by rw [← hl]; exact g2) hf.2 hf.1 (by rw [← hl]; exact hj)
  rw [hp2]
  have ob' : Ob E.B (av E L true true) (upd H b (.ins (He.ga E.B.K (clsT c').1) dx (if j = ws.length then ws ++ [(f, u)] else ws.set j (f, u)))) b (.ins c' (if j = fs.length then fs ++ [y] else fs.set j y)) := by
    refine ⟨dx, _, upd_same, ?_, ?_⟩
    · by_cases hjl : j = ws.length
      · rw [if_pos hjl, if_pos (by omega)]
        simp only [List.map_append, List.map_cons, List.map_nil, List.length_append, List.length_cons, List.length_nil, g2]
        rw [List.take_add_one, hl, ← hjl, hf.1]; rfl
      · rw [if_neg hjl, if_neg (by omega)]
        rw [List.map_set, g2, List.length_set]
        apply set_self
        rw [List.getElem?_take, if_pos (by omega)]; exact hf.1
    · by_cases hjl : j = ws.length
      · rw [if_pos hjl, if_pos (by omega), List.map_append]
        exact (g3.upL hb nt).append (.cons (ry.upL hb nt) .nil)
      · rw [if_neg hjl, if_neg (by omega), List.map_set]
        exact (g3.upL hb nt).set j (ry.upL hb nt)
  refine nx _ _ b _ hb nt rfl ?_ q
  have := R1.put (i := 0) (k := .slf) (x := .ins c' (if j = fs.length then fs ++ [y] else fs.set j y)) (v := .ref b) (O' := [b]) (.upd (o := .ins (He.ga E.B.K (clsT c').1) dx (if j = ws.length then ws ++ [(f, u)] else ws.set j (f, u))) hb nt) (fun c m n u e => by rw [upd_ne (fun z => n (by simp [z]))]; exact e)
    (fun c u e n => by rw [upd_ne (fun z => by rw [z, (R.lf b hb).1] at e; cases e)]; exact R1.old c u e n) (R1.bag.stay (fun u e => by rw [upd_ne (R.lq hb).symm]; exact e) fun u e => by rw [upd_ne hr.symm]; exact e)
    (fun c m => .inl m) (fun c m => (Fw.upd (B := E.B) hb nt).nn c (R1.lf c m).2) (fun _ h => h) ⟨b, rfl, rfl, ⟨⟨_, _, rfl⟩, hme⟩, ob'⟩ (fun c m => by simp at m; rw [m]; exact hb) (by simp) (fun O' k2 k3 k1 j' c hj hc m => by
      simp at hc; subst hc
      obtain ⟨w, hw, kw⟩ := k1 0 _ hx
      rw [hv] at hw; cases hw
      rw [getElem?_kd hk] at kw
      obtain ⟨d, e1, e2, _⟩ := kw
      cases e1
      exact hj (k3 j' 0 c m (by rw [e2]; simp))) (List.getElem?_eq_some_iff.mp hk).1
  rw [set_same hk, set_self hv] at this
  exact this
def gFldT (K : PySem.W.Frag) (ta : TE) (f : Str) : TG := fun v σ H Q => ta σ H fun x H2 => ∃ a C dx fs, x = .ref a ∧ H2 a = some (.ins C dx fs) ∧ Cls K C ∧ NoAttr K C f ∧ fs.length < 1000 ∧ Q σ (upd H2 a (.ins C dx (putF f v fs)))
theorem pg_fld {o : Expr} {f : Str} {ta : TE} {pos : Pos} (ha : PE X o ta) : PG X (.Attribute o f pos) (gFldT X.K ta f) := by
  refine ⟨fun pins s σ H v u Q I r h => ?_⟩
  rw [assign_Attribute]
  refine wpAny_bind (wpAny_holding (thn (ha.run pins s σ H _ I h) fun ov s1 rr => ?_))
  obtain ⟨x, H1, I1, r1, a, C, dx, fs, ex, ea, c, n, l, q⟩ := rr
  subst ex
  obtain rfl : ov = Value.ref a := r1
  refine wpAny_bind (wpAny_standAt (wpAny_bind (wpAny_holding (setattr_ok I1 ea c n l r fun s3 I3 => ?_))))
  exact wpAny_release ⟨σ, _, I3, q⟩
def xFld2 (c j1 j2 : Nat) (pa : GA) : GS := fun D γ => pa γ fun xs => match xs with
  | [x, y] => pFldS c j1 (fun _ Q => Q x) { D with nx := pFldS c j2 (fun _ Q => Q y) D } γ
  | _ => False
theorem xs_fld2 (c j1 j2 : Nat) {f1 f2 : Str} {st : Stmt} {es : List Expr} {pa : GA} (cl : Cls X.K (He.ga X.K (clsT c).1)) (na1 : NoAttr X.K (He.ga X.K (clsT c).1) f1) (na2 : NoAttr X.K (He.ga X.K (clsT c).1) f2)
    (pe : ∀ {t : TA}, PA X es t → PS X st (tAsg (tTup t) (gTup X.K 2 (gCons (gFldT X.K (tVar 0) f1) (gCons (gFldT X.K (tVar 0) f2) gNil))))) (h : QA X ks true true es pa) (hk : ks[0]? = some .slf := by rfl)
    (hf1 : (clsT c).2[j1]? = some f1 ∧ (clsT c).2.Nodup := by decide +kernel) (hf2 : (clsT c).2[j2]? = some f2 ∧ (clsT c).2.Nodup := by decide +kernel) : QS X ks ks kl st (xFld2 c j1 j2 pa) :=
  PSi (pe h) fun D σ H ⟨E, L, γ, Dp, hK, R, hp, nx, rt, bk, ct⟩ => by
    refine ⟨E, L, γ, _, hK, R, hp, fun xs vs H1 q1 x1 r1 l1 => ?_⟩
    obtain ⟨x, y, rfl⟩ : ∃ x y, xs = [x, y] := by
      match xs, q1 with
      | [x, y], _ => exact ⟨x, y, rfl⟩
    obtain ⟨u, w, rfl, rx, ry⟩ : ∃ u w, vs = [u, w] ∧ Rp E.B (av E L true true) H1 x u ∧ Rp E.B (av E L true true) H1 y w := by
      cases r1 with
      | cons rx r2 => cases r2 with
        | cons ry r3 => cases r3; exact ⟨_, _, rfl, rx, ry⟩
    refine ⟨few (show 2 ≤ 1000 by decide), fun p np => ?_⟩
    have x2 : Ex E.B H1 (upd H1 p (.tup [u, w])) := .new np
    have R2 := (R.ex x1).ex x2
    refine ⟨p, [u, w], rfl, .inl (.inl upd_same), rfl, _, _, rfl, ?_⟩
    refine fld_go (T := fun σ' H' => gCons (gFldT X.K (tVar 0) f2) gNil [w] σ' H' D.nx) c j1 cl na1 hK R2 hk hf1 (rx.ex x2 av_q) q1 fun γ1 H3 b o hb nt e3 R3 q3 => ?_
    subst e3
    refine ⟨_, _, rfl, ?_⟩
    refine fld_go (T := fun σ' H' => gNil [] σ' H' D.nx) c j2 cl na2 hK R3 hk hf2 ((ry.ex x2 av_q).upL hb nt) q3 fun γ2 H4 b2 o2 hb2 nt2 e4 R4 q4 => ?_
    subst e4
    exact ⟨rfl, nx L _ _ _ ((x1.trans x2).fw.trans ((Fw.upd hb nt).trans (Fw.upd hb2 nt2))) R4 q4⟩
end
end Vl
namespace Vl
open PySem PySem.Spec PyProof.Rows L2 Lb
def setB (c : Code) (elt : Expr) (env : Env) (acc : Value) : Sem PySem.Fin := do
  (do let v ← eval elt env; standAt elt.pos; let _ ← call (.builtin "set.add") [acc, v])
  again c
def tbS (P : Program) (w : World) (D : Addr) (te : TE) : L2.St → Hp → (Hp → Prop) → Prop := fun σ H N => te σ H fun y H1 => ∃ (k : Key) (S : Key → Bool) (n : Nat), y = kV k ∧ H1 D = some (SetK P w D S n) ∧ n + 1 < scanBound ∧ N (upd H1 D (SetK P w D (fun j => S j || decide (j = k)) (if S k = true then n else n + 1)))
theorem setB_run {X : Cx} {c : Code} {elt : Expr} {te : TE} {vs : List Nat} {D : Addr} (hx : X.xe = fun _ _ => False) (he : PE X elt te) : PBody X vs c (setB c elt X.env (.ref D)) (tbS X.prog X.w D te) := by
  intro pins s σ H N I h
  have r1 := he.run pins s σ H _ I h
  rw [hx] at r1
  unfold setB
  refine wpAny_bind (wpAny_bind (thnF r1 fun u s1 rr => ?_))
  obtain ⟨y, H4, I4, ry, k, S, n, ey, hD, room, nx⟩ := rr
  subst ey
  have ad := mt_saddK pins s1 σ H4 (.ref D) [kV k] (.ref D) [u] (fun _ H' => N H') I4 rfl (.cons ry .nil) ⟨D, k, S, n, rfl, rfl, hD, room, nx⟩
  rw [hx] at ad
  refine wpAny_bind (wpAny_standAt (wpAny_bind (thnF ad fun _ s2 rr => ?_)))
  obtain ⟨_, H5, I5, _, nx⟩ := rr
  exact wpAny_pure (wpAny_pure ⟨rfl, σ, H5, I5, rfl, nx⟩)
theorem clauseS {prog : Program} {w : World} {A : Around} {elt t0 i0 : Expr} {f0 : List Expr} {scope : Scope} {p : Pos} {it acc : Value} {env : Env} : Clause prog w A (.SetComp elt [⟨t0, i0, f0, 0⟩] scope p) 0 it acc env t0 i0 f0 (setB (.compLoop (.SetComp elt [⟨t0, i0, f0, 0⟩] scope p) 0 it acc env) elt env acc) := ⟨rfl, rfl, rfl, rfl⟩
theorem setK_fresh {P : Program} {w : World} (h : Heap) : (h.push { cls := .type "set", dict := none, data := .set #[] 0 (.fresh 0 0 (!w.params.followText "set-order")) }).SetOf (mixKind P w) h.objs.size (fun _ => false) 0 :=
  ⟨_, #[], 0, _, Heap.get?_push_size _ rfl, ⟨rfl, rfl, rfl⟩, rfl, (fun e he => by simp at he), (fun k => by simp), (by decide), (by rfl), rfl⟩
def tSetC (P : Program) (w : World) (wi : TI) (g : TG) (tt : TT) (tb : Addr → L2.St → Hp → (Hp → Prop) → Prop) (vs : List Nat) : TE := fun σ H Q => wi σ H fun J H1 => ∀ D, H1 D = none → tClause J g tt (tb D) vs (wipe σ vs) (upd H1 D (SetK P w D (fun _ => false) 0)) fun H' => Q (.ref D) H'
theorem setc_run {X : Cx} (hc : X.calm = true) (hN : X.N.Nodup) {elt tg iter : Expr} {ifs : List Expr} {scope : Scope} {own : List (Str × Nat)} {pos : Pos} {B : Env → Addr → Value → Sem PySem.Fin} {wi : TI} {g : TG} {tt : TT} {tb : Addr → L2.St → Hp → (Hp → Prop) → Prop} {vs : List Nat}
    (hi : PI X tg iter wi) (ok : BlkOk X.N X.env.scope scope own)
    (hg : ∀ (s : Shared) (H : Hp) (C : Addr) (cl : List (Str × Addr)) (fp : List Addr), PG (X.blk s H scope (compEnvC scope cl C X.env) fp) tg g) (ht : ∀ (s : Shared) (H : Hp) (C : Addr) (cl : List (Str × Addr)) (fp : List Addr), PTs (X.blk s H scope (compEnvC scope cl C X.env) fp) ifs tt)
    (hb : ∀ (s : Shared) (H : Hp) (C : Addr) (cl : List (Str × Addr)) (fp : List Addr) (D : Addr) (it : Value), PBody (X.blk s H scope (compEnvC scope cl C X.env) fp) vs (.compLoop (.SetComp elt [⟨tg, iter, ifs, 0⟩] scope pos) 0 it (.ref D) (compEnvC scope cl C X.env)) (B (compEnvC scope cl C X.env) D it) (tb D))
    (hC : ∀ (it : Value) (D C : Addr) (cl : List (Str × Addr)), Clause X.prog X.w X.A (.SetComp elt [⟨tg, iter, ifs, 0⟩] scope pos) 0 it (.ref D) (compEnvC scope cl C X.env) tg iter ifs (B (compEnvC scope cl C X.env) D it))
    (hvs : ∀ j ∈ own.map (·.2), j ∈ vs) (hs : ∀ x, foldedSetIterable iter X.env x = pure x := by intro _; rfl) :
    PE X (.SetComp elt [⟨tg, iter, ifs, 0⟩] scope pos) (tSetC X.prog X.w wi g tt tb vs) := by
  refine ⟨fun pins s σ H Q I h => ?_⟩
  have cells : ∀ y ∈ scope.names, y.2 = .free → ∃ c, X.env.cells.lookup y.1 = some c := by
    intro y hy e
    rcases ok.free y hy e with k | k
    · exact I.ok.has _ (.inl k)
    · exact I.ok.has _ (.inr k)
  have uniq : ∀ y ∈ scope.names, y.2 = .local → scope.names.lookup y.1 = some .local := by
    intro y hy e
    rw [ok.uniq y hy, e]
  rw [PpSet.eval_SetComp]
  refine wpAny_comprehension_free (use := none) rfl hs (closure_ok cells) ok.kind uniq (thn (hi.run pins s σ H _ I h) fun xv s1 hx => thn hx fun itv s2 h2 => ?_)
  obtain ⟨it, fp, tn, J, H2, rfl, I2, T, st2, f2, q⟩ := h2
  refine PpSet.newSet_ok (newEnv_comp ?_)
  have q := q s2.heap.objs.size (I2.hok.fresh (Nat.le_refl _))
  have low : ∀ b ∈ fp, b < s2.heap.objs.size := by
    intro b hb
    obtain ⟨o, e, _⟩ := T.obj _ _ st2 b hb
    exact Heap.lt_size e
  have I3 : Inv X pins σ (upd H2 s2.heap.objs.size (SetK X.prog X.w s2.heap.objs.size (fun _ => false) 0)) { s2 with heap := s2.heap.push { cls := .type "set", dict := none, data := .set #[] 0 (.fresh 0 0 (!X.w.params.followText "set-order")) } } :=
    I2.laid (t' := s2.toks) (fun b o e => Heap.get?_push_of_some _ e) (Nat.le_refl _) (setK_new (setK_fresh s2.heap))
  have f3 : ∀ b ∈ fp, FpOk X pins (upd H2 s2.heap.objs.size (SetK X.prog X.w s2.heap.objs.size (fun _ => false) 0)) b ∧ b < (s2.heap.push { cls := .type "set", dict := none, data := .set #[] 0 (.fresh 0 0 (!X.w.params.followText "set-order")) }).objs.size := by
    intro b hb
    have lt := low b hb
    refine ⟨⟨?_, (f2 b hb).2⟩, by rw [Heap.size_push]; exact Nat.lt_succ_of_lt lt⟩
    rw [upd_ne (Nat.ne_of_lt lt)]
    exact (f2 b hb).1
  have I4 := (block_start I3 ok hN f3).weak (σ' := L2.wipe σ vs) (by rw [wipe_length, wipe_length]) fun i v e => by
    obtain ⟨h1, h2⟩ := wipe_some e
    rw [wipe_out fun z => h2 (hvs i z)]
    exact h1
  have st4 : tn 0 (pushCells ((s2.heap.push { cls := .type "set", dict := none, data := .set #[] 0 (.fresh 0 0 (!X.w.params.followText "set-order")) }).push { cls := .type "dict", data := .dict #[] }) scope.names) :=
    T.keep _ _ _ st2 fun b _ o e => pushCells_keeps _ _ _ _ (Heap.get?_push_of_some _ (Heap.get?_push_of_some _ e))
  have f4 : ∀ b ∈ fp, FpOk (X.blk { s2 with heap := s2.heap.push { cls := .type "set", dict := none, data := .set #[] 0 (.fresh 0 0 (!X.w.params.followText "set-order")) } } (upd H2 s2.heap.objs.size (SetK X.prog X.w s2.heap.objs.size (fun _ => false) 0)) scope (compEnvC scope (cellsFrom ((s2.heap.push { cls := .type "set", dict := none, data := .set #[] 0 (.fresh 0 0 (!X.w.params.followText "set-order")) }).objs.size + 1) scope.names (cloFrom X.env.cells scope.names [])) (s2.heap.push { cls := .type "set", dict := none, data := .set #[] 0 (.fresh 0 0 (!X.w.params.followText "set-order")) }).objs.size X.env) fp) [] (upd H2 s2.heap.objs.size (SetK X.prog X.w s2.heap.objs.size (fun _ => false) 0)) b := by
    intro b hb
    exact ⟨(f3 b hb).1.1, (I4.ok.exf b hb).1, I4.ok.exfs b hb, .inl hb, fun x c e => (I4.ok.exf b hb).2 x c e, fun p hp => by cases hp⟩
  have run := clause_run (X := X.blk { s2 with heap := s2.heap.push { cls := .type "set", dict := none, data := .set #[] 0 (.fresh 0 0 (!X.w.params.followText "set-order")) } } (upd H2 s2.heap.objs.size (SetK X.prog X.w s2.heap.objs.size (fun _ => false) 0)) scope (compEnvC scope (cellsFrom ((s2.heap.push { cls := .type "set", dict := none, data := .set #[] 0 (.fresh 0 0 (!X.w.params.followText "set-order")) }).objs.size + 1) scope.names (cloFrom X.env.cells scope.names [])) (s2.heap.push { cls := .type "set", dict := none, data := .set #[] 0 (.fresh 0 0 (!X.w.params.followText "set-order")) }).objs.size X.env) fp) hc rfl (hC (.ref it) s2.heap.objs.size _ _) T (hg _ _ _ _ _) (ht _ _ _ _ _) (hb _ _ _ _ _ s2.heap.objs.size (.ref it)) I4 st4 f4 q
  have fin := codeAny_mono (R' := compPost (model X.prog X.w) X.A X.xe none (EP X pins σ Q) (.ref s2.heap.objs.size) (s2.heap.push { cls := .type "set", dict := none, data := .set #[] 0 (.fresh 0 0 (!X.w.params.followText "set-order")) }).objs.size) run fun r s6 h6 => by
    obtain ⟨rfl, H6, I6, qd⟩ := h6
    obtain ⟨m, hn, _⟩ := I6.loc
    have hn : s6.heap.Ns (s2.heap.push { cls := .type "set", dict := none, data := .set #[] 0 (.fresh 0 0 (!X.w.params.followText "set-order")) }).objs.size m := hn
    have nC : H6 (s2.heap.push { cls := .type "set", dict := none, data := .set #[] 0 (.fresh 0 0 (!X.w.params.followText "set-order")) }).objs.size = none := I6.free
    have I7 : Inv X pins σ H6 s6 := I3.call' (ch := fp) I6.os I6.base I6.hok I6.bare fun b hb => ⟨(f3 b hb).1.2.2.2.1, (f3 b hb).1.2.1, (f3 b hb).1.2.2.2.2.1, (f3 b hb).1.2.2.2.2.2⟩
    refine ⟨m, hn, fun h8 sb => ?_⟩
    obtain ⟨f0, f1, f2, f3, f4, f5⟩ := I3.fpOk (H' := H6) (Nat.le_refl _) nC
    exact ⟨.ref s2.heap.objs.size, H6, I7.turned (t' := s6.toks) (fun b o hb e => (sb.2 b hb).trans e) f0 f1 f3 f4 f5, rfl, qd⟩
  exact PpSet.codeAny_compStart_set fin (T.self X.A 0 _ _ _ st4 fin)
def rLenS (P : Program) (w : World) : List V → Hp → VK → Prop := fun xs H Q => ∃ (a : Addr) (S : Key → Bool) (n : Nat), xs = [.ref a] ∧ H a = some (SetK P w a S n) ∧ Q (.int n) H
theorem cr_lenS {X : Cx} : CallR X (.builtin "len") (rLenS X.prog X.w) := by
  intro pins s σ H xs us Q I r h
  obtain ⟨a, S, n, rfl, ha, q⟩ := h
  rw [Vals.ref1 r]
  obtain ⟨o, es, ep, t, ho, hex, hd, _, _, hsz, hf, hn⟩ := setK_get I ha
  have hz : es.size < 4096 := hsz
  subst hn
  exact call_len_set ho hex hd hf (by omega) ⟨.int es.size, H, (I.tok _).tok _, ⟨_, rfl⟩, q⟩
/-- the keys met among the first signs -/
def sjS (cs : List Nat) (j : Nat) : Key → Bool := fun k => (cs.take j).any fun c => decide (k = .inr ⟨#[c]⟩)
/-- how many unlike ones -/
def dst (cs : List Nat) : Nat → Nat
  | 0 => 0
  | j + 1 => match cs[j]? with
    | some c => if sjS cs j (.inr ⟨#[c]⟩) = true then dst cs j else dst cs j + 1
    | none => dst cs j
theorem dst_le (cs : List Nat) : ∀ j, dst cs j ≤ j
  | 0 => Nat.le_refl _
  | j + 1 => by
    have := dst_le cs j
    unfold dst
    split
    · split <;> omega
    · omega
theorem sjS_succ {cs : List Nat} {j c : Nat} (h : cs[j]? = some c) : sjS cs (j + 1) = fun k => sjS cs j k || decide (k = .inr ⟨#[c]⟩) := by
  funext k
  unfold sjS
  rw [List.take_add_one, h, List.any_append]
  simp
def pSetLen (i : Nat) (p : GE) : GE := fun γ Q => i < γ.length ∧ p γ fun x => match x with
  | .str z => z.length ≤ 1000 ∧ Q (.int (dst z.cps.toList z.cps.size : Nat))
  | _ => False
theorem qe_setLen {X : Cx} {ks : List Kd} {a s : Bool} {e se tg iter : Expr} {p : GE} (i : Nat) (pe : ∀ {t : TE}, PE X se t → PE X e (tCB (rLenS X.prog X.w) (tCons t tNil)))
    (ps : ∀ {wi : TI}, PI X tg iter wi → PE X se (tSetC X.prog X.w wi (gName i) tYes (fun D => tbS X.prog X.w D (tVar i)) [i])) (h : QE X ks a s iter p) : QE X ks true true e (pSetLen i p) :=
  PEi (pe (ps (pi_str h))) fun σ H Q ⟨E, L, γ, Qp, hK, R, hp, k⟩ => by
    obtain ⟨hi, hp⟩ := hp
    rw [R.len] at hi
    refine ⟨E, L, γ, _, hK, R, hp, fun x v H1 q1 x1 r1 => ?_⟩
    cases r1 <;> first | exact q1.elim | skip
    rename_i z
    obtain ⟨hz, q1⟩ := q1
    refine ⟨z, rfl, fun D nD => ?_⟩
    have hz2 : z.cps.size ≤ 1000 := hz
    have hl : z.cps.toList.length = z.cps.size := Array.length_toList
    refine ⟨fun j m H' => m + j = z.cps.size ∧ H' = upd H1 D (SetK X.prog X.w D (sjS z.cps.toList j) (dst z.cps.toList j)), ⟨z.cps.size, rfl, rfl⟩, fun j m H' w0 => ?_⟩
    obtain ⟨e1, rfl⟩ := w0
    by_cases hj : j < z.cps.size
    · refine .inr ⟨hj, fun H'' => H'' = upd H1 D (SetK X.prog X.w D (sjS z.cps.toList (j + 1)) (dst z.cps.toList (j + 1))), fun H'' e => ⟨m - 1, by omega, by omega, e⟩, fun x H'' y => ?_⟩
      obtain ⟨rfl, c, e2, rfl⟩ := y
      have e3 : z.cps.toList[j]? = some c := by rw [← e2]; simp
      have w1 : L2.wipe σ [i] = σ.set i none := rfl
      have w2 : ∀ v, L2.wipe ((L2.wipe σ [i]).set i (some v)) [i] = L2.wipe σ [i] := fun v => by
        rw [w1]
        show ((σ.set i none).set i (some v)).set i none = σ.set i none
        rw [List.set_set, List.set_set]
      refine ⟨w2 _, ?_⟩
      unfold tYes
      dsimp only
      rw [if_pos rfl]
      refine ⟨.str ⟨#[c]⟩, by rw [w1, List.set_set, List.getElem?_set_self hi], .inr ⟨#[c]⟩, _, _, rfl, upd_same, ?_, ?_⟩
      · have := dst_le z.cps.toList j
        show _ + 1 < 4096
        omega
      · rw [L2.upd_upd, ← sjS_succ e3]
        show _ = upd H1 D (SetK X.prog X.w D (sjS z.cps.toList (j + 1)) (match z.cps.toList[j]? with | some c => if sjS z.cps.toList j (.inr ⟨#[c]⟩) = true then dst z.cps.toList j else dst z.cps.toList j + 1 | none => dst z.cps.toList j))
        rw [e3]
    · refine .inl ⟨by show z.cps.size ≤ j; omega, ?_⟩
      have ej : j = z.cps.size := by omega
      subst ej
      exact ⟨D, _, _, rfl, upd_same, k _ _ _ q1 (x1.trans (.new nD)) (.int _)⟩
theorem qe_setLenC {X : Cx} {ks : List Kd} {a s : Bool} {e iter : Expr} {x : Str} {p1 p2 pos : Pos} {p : GE} {scope : Scope} {own : List (Str × Nat)} (i : Nat) (hc : X.calm = true) (hN : X.N.Nodup) (ok : BlkOk X.N X.env.scope scope own)
    (pe : ∀ {t : TE}, PE X (.SetComp (.Name x p1) [⟨.Name x p2, iter, [], 0⟩] scope pos) t → PE X e (tCB (rLenS X.prog X.w) (tCons t tNil)))
    (hg : ∀ (s : Shared) (H : Hp) (C : Addr) (cl : List (Str × Addr)) (fp : List Addr), PG (X.blk s H scope (compEnvC scope cl C X.env) fp) (.Name x p2) (gName i))
    (hv : ∀ (s : Shared) (H : Hp) (C : Addr) (cl : List (Str × Addr)) (fp : List Addr), PE (X.blk s H scope (compEnvC scope cl C X.env) fp) (.Name x p1) (tVar i)) (h : QE X ks a s iter p)
    (ho : own.map (·.2) = [i] := by rfl) (hs : ∀ x, foldedSetIterable iter X.env x = pure x := by intro _; rfl) : QE X ks true true e (pSetLen i p) :=
  qe_setLen i pe (fun hi => setc_run hc hN (B := fun env D it => setB (.compLoop (.SetComp (.Name x p1) [⟨.Name x p2, iter, [], 0⟩] scope pos) 0 it (.ref D) env) (.Name x p1) env (.ref D)) hi ok hg (fun _ _ _ _ _ => pts_nil)
    (fun s H C cl fp D it => setB_run (X := X.blk s H scope (compEnvC scope cl C X.env) fp) rfl (hv s H C cl fp)) (fun _ _ _ _ => clauseS) (fun j hj => by rw [ho] at hj; exact hj) hs) h
end Vl
namespace Vl
open PySem PySem.Spec PyProof.Rows L2 Lb
def EnT (x : Str) : It := ⟨fun i _ => i < x.cps.size, fun i H v H' => ∃ (T : Addr) (c : Nat), v = .ref T ∧ H T = none ∧ x.cps[i]? = some c ∧ H' = upd H T (.tup [.int (i : Nat), .str ⟨#[c]⟩]), fun i _ => x.cps.size ≤ i⟩
def enSt (x : Str) (t : Tok) (e it : Addr) (i : Nat) (h : Heap) : Prop := (∃ old, IsEnum h e it ((i : Nat) : Int) old) ∧ h.IsStrIter it (strIterType x) x t i ∧ e ≠ it ∧ i ≤ x.cps.size
theorem enSt.two {x : Str} {t : Tok} {e it : Addr} {i : Nat} {h : Heap} (st : enSt x t e it i h) : ∀ b ∈ [e, it], ∃ o, h.get? b = some o ∧ ∀ v, o.data ≠ .cell v := by
  obtain ⟨⟨old, he⟩, ⟨o, ho, _, hd⟩, _⟩ := st
  intro b hb
  simp only [List.mem_cons, List.not_mem_nil, or_false] at hb
  rcases hb with rfl | rfl
  · exact ⟨_, he, fun v q => nomatch q⟩
  · exact ⟨o, ho, fun v q => by rw [hd] at q; cases q⟩
theorem enSt.at {x : Str} {t : Tok} {e it : Addr} {i : Nat} {h h' : Heap} (st : enSt x t e it i h) (k : ∀ b ∈ [e, it], ∀ o, h.get? b = some o → h'.get? b = some o) : enSt x t e it i h' := by
  obtain ⟨⟨old, he⟩, ⟨o, ho, r⟩, ne⟩ := st
  exact ⟨⟨old, k e (by simp) _ he⟩, ⟨o, k it (by simp) _ ho, r⟩, ne⟩
theorem turn_enT {P : Program} {w : World} {K : PySem.W.Frag} {elts : List Expr} {kk : Nat} {tpos : Pos} (x : Str) (t : Tok) (e it : Addr) : Turn P w K (.Tuple elts kk tpos) (EnT x) [e, it] e (enSt x t e it) := by
  refine ⟨by simp, fun _ _ st => st.two, fun _ _ _ st k => st.at k, ?_, ?_, fun A i s Q E st h => ?_⟩
  · rintro X rfl rfl rfl hc i pins s σ H E I hf ⟨⟨old, he⟩, hit, ne, le⟩ hi
    have low : ∀ b ∈ [e, it], b < s.heap.objs.size := fun b hb => by
      obtain ⟨o, ho, _⟩ := enSt.two (t := t) ⟨⟨old, he⟩, hit, ne, le⟩ b hb
      exact Heap.lt_size ho
    have D := Draws.text (prog := X.prog) (w := X.w) (A := X.A.in1) (I.ok.hd hc) it x t
    refine wpAny_pyNext_enum_itemD D he hit hi ne (by simpa using ne) fun v h1 tk hv out hit1 hT hsz hk => ⟨_, rfl, ?_⟩
    obtain ⟨c, u, hx, rfl⟩ := hv
    refine wpAny_letOwnedTupleGo_enum (s := { s with heap := h1, toks := tk + 1 }) out fun h2 he2 sb => ?_
    have up : ∀ b o, b ∉ [e, it] → s.heap.get? b = some o → h2.get? b = some o := fun b o hb q => by
      simp only [List.mem_cons, List.not_mem_nil, or_false, not_or] at hb
      exact (sb.2 b hb.1).trans (hk b o hb.1 hb.2 q)
    have gT : h2.get? s.heap.objs.size = some { cls := .type "tuple", data := .seq #[.int i tk, .str ⟨#[c]⟩ u] } := (sb.2 _ (Nat.ne_of_gt (low e (by simp)))).trans hT
    have new : ObjOk X.prog X.w (upd H s.heap.objs.size (.tup [.int (i : Nat), .str ⟨#[c]⟩])) h2 s.heap.objs.size (.tup [.int (i : Nat), .str ⟨#[c]⟩]) :=
      ⟨few (show 2 ≤ 1000 by decide), [.int i tk, .str ⟨#[c]⟩ u], .cons ⟨_, rfl⟩ (.cons ⟨_, rfl⟩ .nil), ⟨_, gT, rfl, _, rfl⟩⟩
    have I2 : Inv X pins σ (upd H s.heap.objs.size (.tup [.int (i : Nat), .str ⟨#[c]⟩])) { s with heap := h2, toks := tk + 1 } := I.turnedNew (ch := [e, it]) (fun b o hb q => up b o hb q) hf (Nat.le_refl _) new
    refine ⟨.ref s.heap.objs.size, _, I2, rfl, ⟨_, c, rfl, I.hok.fresh (Nat.le_refl _), hx, rfl⟩, ⟨⟨_, he2⟩, ?_, ne, hi⟩, fun b hb => ?_⟩
    · obtain ⟨o, ho, r⟩ := hit1
      exact ⟨o, (sb.2 it (Ne.symm ne)).trans ho, r⟩
    · rw [upd_ne (Nat.ne_of_lt (low b hb))]; exact (hf b hb).1
  · rintro X rfl rfl rfl hc i pins s σ H E I hf ⟨⟨old, he⟩, hit, ne, le⟩ hi
    obtain ⟨f0, f1, f2, f3, f4, f5⟩ := hf it (by simp)
    have hi2 : x.cps.size ≤ i := hi
    have e1 : i = x.cps.size := by omega
    subst e1
    have D := Draws.text (prog := X.prog) (w := X.w) (A := X.A.in1) (I.ok.hd hc) it x t
    exact wpAny_pyNext_enum_endD D he hit fun h' eb => ⟨rfl, I.turned (t' := s.toks) (fun b o hb q => eb b o hb q) f0 f1 f3 f4 f5⟩
  · obtain ⟨⟨old, he⟩, _, _⟩ := st
    exact wpAny_pyIter_enum he h
def iEnT (ta : TA) : TI := fun σ H R => ta σ H fun vs H1 => ∃ x, vs = [.str x] ∧ R (EnT x) H1
section
variable {X : Cx} {ks : List Kd} {a s : Bool} {e : Expr} {elts : List Expr} {kk : Nat} {p : GE} {pa : GA} {pos p0 tpos q : Pos}
theorem pi_enT {ta : TA} (hg : Gl X "enumerate") (hm : X.mg "enumerate" = none) (ha : PA X [e] ta) (hs : starEach [e] X.env = [(false, eval e X.env)] := by rfl) : PI X (.Tuple elts kk tpos) (.Call (.Name "enumerate" p0) [e] [] pos) (iEnT ta) := by
  refine ⟨fun pins s σ H R I h => ?_⟩
  refine Call_ (ld_blt I hg hm boot_enumerate (callWith_type1 (thn (ha.run pos pins s σ H _ I h) fun us s1 rr => ?_) hs rfl))
  obtain ⟨vs, H1, I1, r1, x, rfl, q⟩ := rr
  obtain ⟨u, rfl, t, rfl⟩ := vals1 r1
  refine call_enumerate_str fun h' he hit hsz hk => wpAny_pyIter_enum he ?_
  refine ⟨s1.heap.objs.size + 1, [s1.heap.objs.size + 1, s1.heap.objs.size], _, _, H1, rfl, I1.kept (t' := s1.toks) hk, turn_enT x t (s1.heap.objs.size + 1) s1.heap.objs.size, ⟨⟨.none, he⟩, hit, Nat.succ_ne_self _, Nat.zero_le _⟩, fun b hb => ?_, q⟩
  have le : s1.heap.objs.size ≤ b := by
    simp only [List.mem_cons, List.not_mem_nil, or_false] at hb
    rcases hb with rfl | rfl
    · exact Nat.le_succ _
    · exact Nat.le_refl _
  exact I1.fpOk le (I1.hok.fresh le)
def pEnumS (p : GE) : GA := fun γ Q => p γ fun x => match x with | .str z => Q (enumL 0 (chars z)) | _ => False
theorem qi_enumS (hg : Gl X "enumerate") (hm : X.mg "enumerate" = none) (h : QE X ks a s e p) (hs : starEach [e] X.env = [(false, eval e X.env)] := by rfl) : QI X ks true (.Tuple elts kk tpos) (.Call (.Name "enumerate" p0) [e] [] pos) (pEnumS p) :=
  PIi (pi_enT hg hm (pa_cons h pa_nil hs) hs) fun σ H R ⟨E, L, γ, Qp, hK, Rl, hp, k⟩ => by
    refine ⟨E, L, γ, _, hK, Rl, hp, fun x v H1 q1 x1 r1 => ?_⟩
    cases r1 <;> first | exact q1.elim | skip
    rename_i z
    refine ⟨z, rfl, k _ _ H1 q1 x1 ⟨fun _ _ => True, trivial, fun _ _ _ _ _ _ => trivial, fun i L H _ hi => ?_, fun i L H _ hi => ?_⟩⟩
    · rw [enumL_len] at hi
      have hi : i < z.cps.size := by simpa [chars] using hi
      refine ⟨hi, fun v H' rr => ?_⟩
      obtain ⟨T, c, rfl, nT, hc, rfl⟩ := rr
      refine ⟨.new nT, _, enumL_at 0 (chars z) i (x := .str ⟨#[c]⟩) (by simp [chars, hc]), ?_⟩
      rw [Nat.zero_add]
      exact Rp.newT (.cons (.int _) (.cons (.str _) .nil)) av_q nT
    · rw [enumL_len] at hi
      show z.cps.size ≤ i
      simpa [chars] using hi
theorem vals_signs : ∀ (l : List Nat) (acc : List Value), acc.length = l.length → (∀ (j : Nat) (v : Value), acc[j]? = some v → ∃ c u, l[j]? = some c ∧ v = .str ⟨#[c]⟩ u) → Vals (l.map fun c => V.str ⟨#[c]⟩) acc
  | [], [], _, _ => .nil
  | [], _ :: _, h, _ => by cases h
  | _ :: _, [], h, _ => by cases h
  | c :: l, v :: acc, h, k => by
    obtain ⟨d, u, e1, e2⟩ := k 0 v rfl
    simp at e1
    subst e1
    exact .cons ⟨u, e2⟩ (vals_signs l acc (by simpa using h) fun j v hj => by simpa using k (j + 1) v (by simpa using hj))
def rListS : List V → Hp → VK → Prop := fun xs H Q => ∃ z : Str, xs = [.str z] ∧ z.length ≤ sizeLine ∧ ∀ l, H l = none → Q (.ref l) (upd H l (.lst (z.cps.toList.map fun c => V.str ⟨#[c]⟩)))
theorem cr_listS (hc : X.calm = true) : CallR X (.type "list") rListS := by
  intro pins s σ H xs us Q I r h
  obtain ⟨z, rfl, hz, q⟩ := h
  obtain ⟨u, rfl, t, rfl⟩ := vals1 r
  have hz2 : z.cps.size ≤ sizeLine := hz
  refine call_list_str (I.ok.hd hc) z t (hn := hz2) fun h' tk acc c' hk hS hacc => ?_
  have vl := vals_signs z.cps.toList acc.toList (by simpa using hacc.1) fun j v hj => by
    obtain ⟨c, u, h1, h2⟩ := hacc.2 j v (by simpa using hj)
    exact ⟨c, u, by simpa using h1, h2⟩
  exact ⟨.ref s.heap.objs.size, _, I.laid (t' := tk) hk (Nat.le_refl _) (show ObjOk X.prog X.w _ h' _ (.lst _) from ⟨by simpa using hz2, acc.toList, c', vl, by simpa using hS⟩), rfl, q _ (I.hok.fresh (Nat.le_refl _))⟩
theorem rpl_signs {B : Bg} {A : Addr → Prop} {H : Hp} : ∀ l : List Nat, RpL B A H (l.map fun c => .str ⟨#[c]⟩) (l.map fun c => V.str ⟨#[c]⟩)
  | [] => .nil
  | _ :: l => .cons (.str _) (rpl_signs l)
def bListS : PCl
  | [.str z], Q => z.length ≤ sizeLine ∧ Q (.lst (chars z))
  | _, _ => False
theorem qn_listS (hc : X.calm = true) (hm : X.mg "list" = none) (hg : Gl X "list") (h : QA X ks a s [e] pa) (hs : starEach [e] X.env = (false, eval e X.env) :: starEach [] X.env := by rfl) (hpl : (backTo pos (starEach [] X.env)).any (·.1) = false := by rfl) : QN X ks (.Call (.Name "list" q) [e] [] pos) (pCB bListS pa) :=
  PEi (pe_callTy (cr_listS hc) hg hm (by decide +kernel) h (by decide) (by decide) hs hpl) fun σ H Q ⟨E, L, γ, Qp, hK, R, hp, k⟩ => by
    refine ⟨E, L, γ, _, hK, R, hp, fun xs vs H1 q1 x1 r l => ?_⟩
    match xs, r, q1 with
    | [_], .cons r .nil, h =>
      cases r <;> first | exact (h : False).elim | skip
      rename_i z
      exact ⟨z, rfl, h.1, fun p np => k _ p _ h.2 (x1.trans (.new np)) (x1.free np) ⟨_, upd_same, rpl_signs _⟩⟩
    | [], _, h => exact (h : False).elim
    | _ :: _ :: _, .cons r _, h => cases r <;> exact (h : False).elim
end
end Vl
namespace Vl
open PySem PySem.Spec L2 Lb
end Vl
namespace Vl
open PySem PySem.Spec L2 Lb
end Vl
namespace Vl
open PySem PySem.Spec L2 Lb
mutual
theorem RpO.any {B : Bg} {A A' : Addr → Prop} {H : Hp} : ∀ {x : PV} {v : V} {O : List Addr}, RpO B A H x v O → RpO B A' H x v O
  | _, _, _, .imm e r => .imm e (r.im e)
  | _, _, _, .lst h r => .lst h (RpOL.any r)
  | _, _, _, .tup h r => .tup h (RpOL.any r)
theorem RpOL.any {B : Bg} {A A' : Addr → Prop} {H : Hp} : ∀ {x : List PV} {v : List V} {O : List Addr}, RpOL B A H x v O → RpOL B A' H x v O
  | _, _, _, .nil => .nil
  | _, _, _, .cons h r => .cons (RpO.any h) (RpOL.any r)
end
section
variable {X : Cx} {ks ks' kl : List Kd} {a s : Bool} {e e1 tg : Expr} {p p1 p2 : GE} {st : Stmt} {pos : Pos} {i : Nat}
theorem vis_kd {ks : List Kd} (hs : ks.all Kd.vis = true) (i : Nat) : (kd ks i).vis = true := by
  unfold kd
  by_cases h : i < ks.length
  · simp only [List.getD, List.getElem?_eq_getElem h, Option.getD_some]
    exact List.all_eq_true.mp hs _ (List.getElem_mem h)
  · simp only [List.getD, List.getElem?_eq_none (Nat.not_lt.mp h), Option.getD_none]
    rfl
theorem Rel.bor {E : Ac} {L : List Addr} {γ : G} {σ : L2.St} {H : Hp} (R : Rel E L ks γ σ H) (hs : ks.all Kd.vis = true) {n : Nat} (hn : γ.length ≤ n) : Rel ⟨E.B, fun a => H a ≠ none, H, E.me⟩ [] (List.replicate n .bor) γ σ H := by
  refine ⟨fun _ _ h _ => h, fun _ h => h, R.bag, fun _ h => h, R.bag.q, R.onn _ R.ar, (fun _ m => nomatch m), R.len, fun _ => [], fun i x hx => ?_, (fun _ _ m => nomatch m), (fun _ _ _ m => nomatch m), fun _ => List.nodup_nil⟩
  obtain ⟨v, hv, r⟩ := R.read hx (vis_kd hs i)
  have hi : i < n := Nat.lt_of_lt_of_le (List.getElem?_eq_some_iff.mp hx).1 hn
  refine ⟨v, hv, ?_⟩
  have : kd (List.replicate n Kd.bor) i = .bor := by unfold kd; simp [List.getD, List.getElem?_replicate, hi]
  rw [this]
  refine ⟨rfl, r.anti fun c z => ?_⟩
  rcases z with z | ⟨z, _⟩ | ⟨_, z⟩
  · exact .inl z
  · cases z
  · cases z
theorem RpOL.len {B : Bg} {A : Addr → Prop} {H : Hp} : ∀ {xs : List PV} {vs : List V} {O : List Addr}, RpOL B A H xs vs O → xs.length = vs.length
  | _, _, _, .nil => rfl
  | _, _, _, .cons _ t => by simp [RpOL.len t]
theorem RpOL.snoc {B : Bg} {A : Addr → Prop} {H : Hp} {y : PV} {u : V} (e : imm y = true) (r : Rp B A H y u) : ∀ {xs : List PV} {vs : List V} {O : List Addr}, RpOL B A H xs vs O → RpOL B A H (xs ++ [y]) (vs ++ [u]) O
  | _, _, _, .nil => .cons (O := []) (P := []) (.imm e r) .nil
  | _, _, _, .cons h t => .cons h (RpOL.snoc e r t)
theorem RpOL.at_ {B : Bg} {A : Addr → Prop} {H : Hp} {q : Addr} (hq : A q) : ∀ {xs : List PV} {vs : List V} {O : List Addr}, RpOL B A H xs vs O → O.Nodup → (∀ c ∈ O, A c ∧ c ≠ q) → ∀ {j : Nat} {ys : List PV}, xs[j]? = some (.lst ys) → ∃ b ws Oy, vs[j]? = some (.ref b) ∧ b ∈ O ∧ H b = some (.lst ws) ∧ RpOL B A H ys ws Oy ∧ b ∉ Oy ∧ (∀ c ∈ Oy, c ≠ q) ∧
    ∀ (H' : Hp) (ys' : List PV) (ws' : List V), (∀ c o, H c = some o → c ≠ b → c ≠ q → H' c = some o) → (∀ c vs, H c = some (.tup vs) → H' c = some (.tup vs)) → H' b = some (.lst ws') → RpOL B A H' ys' ws' Oy → RpOL B A H' (xs.set j (.lst ys')) vs O
  | _, _, _, .nil, _, _, _, _, e => by simp at e
  | _, _, _, .cons (O := O) (P := P) h t, nd, hA, 0, ys, e => by
    simp at e
    subst e
    cases h with
    | imm e _ => simp [Vl.imm] at e
    | lst hb r =>
      rename_i b ws Oy
      have nd := List.nodup_append.mp nd
      refine ⟨b, ws, Oy, rfl, by simp, hb, r, (List.nodup_cons.mp nd.1).1, fun c m => (hA c (by simp [m])).2, fun H' ys' ws' st tp e' r' => ?_⟩
      refine .cons (.lst e' r') (t.mv (fun a o e nA => st a o e (fun z => nA (z ▸ (hA b (by simp)).1)) fun z => nA (z ▸ hq)) tp (fun _ z _ => z) fun c m o e => st c o e (fun z => nd.2.2 b (by simp) c m z.symm) (hA c (List.mem_append_right _ m)).2)
  | _, _, _, .cons (O := O) (P := P) h t, nd, hA, j + 1, ys, e => by
    have nd := List.nodup_append.mp nd
    obtain ⟨b, ws, Oy, h1, h2, h3, h4, h5, h6, up⟩ := RpOL.at_ hq t nd.2.1 (fun c m => hA c (List.mem_append_right _ m)) (j := j) (by simpa using e)
    refine ⟨b, ws, Oy, by simpa using h1, List.mem_append_right _ h2, h3, h4, h5, h6, fun H' ys' ws' st tp e' r' => ?_⟩
    exact .cons (h.mv (fun a o e nA => st a o e (fun z => nA (z ▸ (hA b (List.mem_append_right _ h2)).1)) fun z => nA (z ▸ hq)) tp (fun _ z _ => z) fun c m o e => st c o e (fun z => nd.2.2 c m b h2 z) (hA c (List.mem_append_left _ m)).2) (up H' ys' ws' st tp e' r')
/-- x[j] with the list in place j put anew -/
def putAt (x : PV) (j : Nat) (ys : List PV) : PV := match x with
  | .lst xs => .lst (xs.set j (.lst ys))
  | .tup xs => .tup (xs.set j (.lst ys))
  | z => z
def partsOf : PV → List PV
  | .lst xs => xs
  | .tup xs => xs
  | _ => []
theorem atI_nat0 {α : Type} {l : List α} {j : Nat} {a : α} (h : l[j]? = some a) : L2.atI l (j : Int) = some a := by
  have hj := (List.getElem?_eq_some_iff.mp h).1
  unfold L2.atI ixN
  rw [if_pos (by omega), if_pos (by omega)]
  simpa using h
theorem immL_at : ∀ {xs : List PV} {j : Nat} {y : PV}, immL xs = true → xs[j]? = some y → imm y = true
  | [], _, _, _, e => by simp at e
  | x :: xs, 0, y, h, e => by
    simp at e; subst e
    rw [immL, Bool.and_eq_true] at h; exact h.1
  | x :: xs, j + 1, y, h, e => by
    rw [immL, Bool.and_eq_true] at h
    exact immL_at h.2 (by simpa using e)
theorem RpO.at_ {B : Bg} {A : Addr → Prop} {H : Hp} {q : Addr} (hq : A q) {x : PV} {v : V} {O : List Addr} (r : RpO B A H x v O) (nd : O.Nodup) (hA : ∀ c ∈ O, A c ∧ c ≠ q) {j : Nat} {ys : List PV} (e : (partsOf x)[j]? = some (.lst ys)) : ∃ b ws Oy, (∀ Q : VK, Q (.ref b) H → rIx B.K v (.int j) H Q) ∧ b ∈ O ∧ H b = some (.lst ws) ∧ RpOL B A H ys ws Oy ∧ b ∉ Oy ∧ (∀ c ∈ Oy, c ≠ q) ∧
    ∀ (H' : Hp) (ys' : List PV) (ws' : List V), (∀ c o, H c = some o → c ≠ b → c ≠ q → H' c = some o) → (∀ c vs, H c = some (.tup vs) → H' c = some (.tup vs)) → H' b = some (.lst ws') → RpOL B A H' ys' ws' Oy → RpO B A H' (putAt x j ys') v O := by
  cases r with
  | imm hi _ =>
    cases x with
    | tup xs => exact absurd (immL_at (xs := xs) (by simpa [Vl.imm] using hi) e) (by simp [Vl.imm])
    | lst xs => simp [Vl.imm] at hi
    | _ => simp [partsOf] at e
  | lst ha r =>
    have nd' := List.nodup_cons.mp nd
    obtain ⟨b, ws, Oy, h1, h2, h3, h4, h5, h6, up⟩ := RpOL.at_ hq r nd'.2 (fun c m => hA c (List.mem_cons_of_mem _ m)) e
    refine ⟨b, ws, Oy, fun Q q => .inl ⟨_, _, _, _, rfl, rfl, .inl (.inl ha), atI_nat0 h1, q⟩, List.mem_cons_of_mem _ h2, h3, h4, h5, h6, fun H' ys' ws' st tp e' r' => ?_⟩
    exact .lst (st _ _ ha (fun z => nd'.1 (z ▸ h2)) (hA _ (by simp)).2) (up H' ys' ws' st tp e' r')
  | tup ha r =>
    obtain ⟨b, ws, Oy, h1, h2, h3, h4, h5, h6, up⟩ := RpOL.at_ hq r nd hA e
    refine ⟨b, ws, Oy, fun Q q => .inr (.inl ⟨_, _, _, _, rfl, rfl, ha.sq, atI_nat0 h1, q⟩), h2, h3, h4, h5, h6, fun H' ys' ws' st tp e' r' => ?_⟩
    exact .tup (ha.elim (fun ha => .inl (tp _ _ ha)) .inr) (up H' ys' ws' st tp e' r')
end
end Vl
namespace Vl
open PySem PySem.Spec L2 Lb
end Vl
namespace Vl
open PySem PySem.Spec PyProof.Rows L2 Lb
end Vl
namespace Vl
open PySem PySem.Spec L2 Lb
structure XP where
  c : Str
  f : Option PV
/-- the field that a class's maker sets -/
def exF (c : Str) : Str :=
  ([("Wrong", "at"), ("NoLetter", "letter"), ("NoNumber", "number"), ("NoPlace", "at"), ("TooLong", "most"), ("TooMany", "most"), ("Bare", "at"), ("NoRow", "at"), ("NoName", "name"), ("There", "name"), ("NotOne", "name"), ("NoLog", "at")] : List (Str × Str)).lookup c |>.getD ""
/-- an exception of the class cls with the dict d is this one -/
def XpIs (B : Bg) (H : Hp) (cls : Value) (d : Option Addr) (xp : XP) : Prop :=
  cls = .ref (He.ga B.K xp.c) ∧ match xp.f with
  | none => d = none
  | some x => imm x = true ∧ ∃ b u, d = some b ∧ H b = some (.xd [(exF xp.c, u)]) ∧ Rp B (fun _ => False) H x u
/-- ends, one of them for what is raised -/
structure GX extends GD where
  xc : XP → G → Prop
abbrev GSX := GX → G → Prop
abbrev GEX := G → (PV → Prop) → (XP → Prop) → Prop
abbrev GAX := G → (List PV → Prop) → (XP → Prop) → Prop
def XcOk (W : WX) (kx : Option (List Kd)) (E : Ac) (L : List Addr) (H : Hp) (xc : XP → G → Prop) : Prop :=
  ∀ xp cls d L' k' γ' σ' H', (∀ k, kx = some k → k' = k) → Fw E.B L H L' H' → Rel E L' k' γ' σ' H' → XpIs E.B H' cls d xp → (∀ b, d = some b → b ∉ L' ∧ E.H0 b = none) → xc xp γ' → W cls d σ' H'
theorem XcOk.fw {W : WX} {kx : Option (List Kd)} {E : Ac} {L L' : List Addr} {H H' : Hp} {xc : XP → G → Prop} (h : XcOk W kx E L H xc) (f : Fw E.B L H L' H') : XcOk W kx E L' H' xc :=
  fun xp cls d L2 k' γ' σ' H2 hk f2 R x n q => h xp cls d L2 k' γ' σ' H2 hk (f.trans f2) R x n q
section
variable {X : Cx} {W : WX} {kx : Option (List Kd)} {ks ks' ks1 kl : List Kd} {a s a1 s1 a2 s2 : Bool} {e e1 e2 tg : Expr} {es : List Expr} {st : Stmt} {sts sts' : List Stmt} {p : GE} {px : GEX} {pa : GA} {pax : GAX} {pt : GT} {q : GS} {ps qs : GSX} {pos : Pos}
/-- what an expression raises is raised here -/
theorem XcOk.at {E : Ac} {L : List Addr} {γ : G} {σ : L2.St} {H : Hp} {xc : XP → G → Prop} (xc' : XcOk W kx E L H xc) (R : Rel E L ks γ σ H) (hk : ∀ k, kx = some k → ks = k) : ∀ xp cls d H', xc xp γ → Ex E.B H H' → XpIs E.B H' cls d xp → (∀ b, d = some b → H b = none) → W cls d σ H' :=
  fun xp cls d H' q x i n => xc' xp cls d L ks γ σ H' hk x.fw (R.ex x) i (fun b e => ⟨fun m => (R.lf b m).2 (n b e), by
    cases h : E.H0 b with
    | none => rfl
    | some o => exact absurd (n b e) (R.onn b (by rw [h]; exact nofun))⟩) q
end
end Vl
namespace Vl
open PySem PySem.Spec L2 Lb
end Vl
namespace Vl
open PySem PySem.Spec L2 Lb PyProof.Rows
end Vl
namespace Vl
open PySem PySem.Spec L2 Lb PyProof.Rows
def hD (D : GD) : GD := { nx := fun _ => False, rt := D.rt, bk := fun _ => False, ct := fun _ => False }
section
variable {X : Cx} {ks : List Kd} {a : Addr} {oe : Obj} {d : Option Addr} {pn : List (Addr × Obj)} {c f : Str} {i : Nat} {e1 e2 : Expr} {pos p0 : Pos}
/-- the exception's slot read -/
theorem Rel.exc {E : Ac} {L : List Addr} {γ : G} {σ : L2.St} {H : Hp} {x : PV} (R : Rel E L ks γ σ H) (hk : ks[i]? = some (.exc a d f)) (hx : γ[i]? = some (some x)) : σ[i]? = some (some (.ref a)) ∧ (d = none → x = .bag) ∧ ∀ b, d = some b → ¬ av E L true true b ∧ ∃ u, H b = some (.xd [(f, u)]) ∧ Rp E.B (av E L true true) H x u := by
  obtain ⟨O, h1, _⟩ := R.sl
  obtain ⟨v, hv, k⟩ := h1 i x hx
  rw [getElem?_kd hk] at k
  obtain ⟨_, rfl, k1, k2⟩ := k
  exact ⟨hv, k1, k2⟩
end
end Vl
namespace Vl
open PySem PySem.Spec L2 Lb PyProof.Rows
end Vl
namespace Vl
open PySem PySem.Spec L2 Lb PyProof.Rows
end Vl
namespace Vl
open PySem PySem.Spec L2 Lb PyProof.Rows
end Vl
namespace Vl
open PySem PySem.Spec L2 Lb PyProof.Rows
end Vl
namespace Vl
open PySem PySem.Spec L2 Lb PyProof.Rows
end Vl
namespace Vl
open PySem PySem.Spec L2 Lb PyProof.Rows
end Vl
namespace Vl
open PySem PySem.Spec L2 Lb
end Vl
namespace Vl
open PySem PySem.Spec L2 Lb
end Vl
namespace Vl
open PySem PySem.Spec L2 Lb
end Vl
namespace Vl
open PySem PySem.Spec L2 Lb
end Vl
namespace Vl
open PySem PySem.Spec L2 Lb
mutual
def blk : PV → Nat
  | .str x => x.cps.size
  | .lst xs => blks xs
  | .tup xs => blks xs
  | _ => 0
def blks : List PV → Nat
  | [] => 0
  | x :: xs => blk x + 1 + blks xs
end
end Vl
namespace Vl
open PySem PySem.Spec L2 Lb PyProof.Rows
end Vl
namespace Vl
open PySem PySem.Spec L2 Lb
/-- all stands but what lies at b -/
structure Xb (B : Bg) (b : Addr) (H H' : Hp) : Prop where
  st : ∀ a o, H a = some o → a ≠ B.q → a ≠ b → H' a = some o
  tp : ∀ a vs, H a = some (.tup vs) → H' a = some (.tup vs)
  nn : ∀ a, H a ≠ none → H' a ≠ none
  bg : BagOk B H'
theorem Xb.refl {B : Bg} {b : Addr} {H : Hp} (h : BagOk B H) : Xb B b H H := ⟨fun _ _ h _ _ => h, fun _ _ h => h, fun _ h => h, h⟩
theorem Xb.ex {B : Bg} {b : Addr} {H H1 H2 : Hp} (x : Xb B b H H1) (y : Ex B H1 H2) : Xb B b H H2 :=
  ⟨fun a o h n m => y.st a o (x.st a o h n m) n, fun a v h => y.tp a v (x.tp a v h), fun a h => y.nn a (x.nn a h), y.bg x.bg⟩
theorem bag_r {B : Bg} {H : Hp} (h : BagOk B H) : H B.r ≠ none := by
  obtain ⟨_, _, _, _, _, h, _⟩ := h; rw [h]; exact nofun
theorem Xb.put {B : Bg} {b c : Addr} {o : HO} {H H1 : Hp} (x : Xb B b H H1) (nt : ∀ vs, H1 c ≠ some (.tup vs)) (hq : c ≠ B.q) (hr : c ≠ B.r) (hc : c = b ∨ H c = none) : Xb B b H (upd H1 c o) := by
  refine ⟨fun a u h n m => ?_, fun a v h => ?_, fun a h => ?_, x.bg.stay (fun u e => by rw [upd_ne hq.symm]; exact e) fun u e => by rw [upd_ne hr.symm]; exact e⟩
  · rw [upd_ne (fun z => hc.elim (fun e => m (z.trans e)) fun e => by rw [z, e] at h; cases h)]
    exact x.st a u h n m
  · have := x.tp a v h
    rw [upd_ne (fun z => nt v (by rw [← z]; exact this))]
    exact this
  · by_cases z : a = c
    · rw [z, upd_same]; exact nofun
    · rw [upd_ne z]; exact x.nn a h
theorem Xb.un {B : Bg} {b : Addr} {H H' : Hp} {o : HO} (x : Xb B b H H') (e : H b = some o) (hq : b ≠ B.q) (hr : b ≠ B.r) : Ex B H (upd H' b o) := by
  refine ⟨fun a u h n => ?_, fun a v h => ?_, fun a h => ?_, fun _ => x.bg.stay (fun u e => by rw [upd_ne hq.symm]; exact e) fun u e => by rw [upd_ne hr.symm]; exact e⟩
  · by_cases z : a = b
    · rw [z, upd_same, ← e, ← z]; exact h
    · rw [upd_ne z]; exact x.st a u h n z
  · by_cases z : a = b
    · rw [z, upd_same, ← e, ← z]; exact h
    · rw [upd_ne z]; exact x.tp a v h
  · by_cases z : a = b
    · rw [z, upd_same]; exact nofun
    · rw [upd_ne z]; exact x.nn a h
theorem upd_back {H : Hp} {b : Addr} {o u : HO} (e : H b = some u) : upd (upd H b o) b u = H := by
  funext a
  by_cases z : a = b
  · rw [z, upd_same, e]
  · rw [upd_ne z, upd_ne z]
section
variable {X : Cx} {ks : List Kd} {a s a1 a2 : Bool} {tg e e1 elt iter : Expr} {p : GE} {pa : GA} {g : GG} {pos : Pos}
theorem Rel.one {E : Ac} {L : List Addr} {γ : G} {σ : St} {H H' : Hp} {i : Nat} {b : Addr} {x : PV} {vs : List V} {zs : List PV} (R : Rel E L ks γ σ H) (hk : ks[i]? = some .own) (hx : γ[i]? = some (some x)) (hb : σ[i]? = some (some (.ref b)))
    (xb : Xb E.B b H H') (hv : H' b = some (.lst vs)) (rp : RpL E.B (av E L true true) H' zs vs) : Rel E L ks (γ.set i (some (.lst zs))) σ H' := by
  obtain ⟨b', hb', mb, ob, _⟩ := R.upd1 hk hx
  rw [hb] at hb'
  cases hb'
  have hbn : H b ≠ none := (R.lf b mb).2
  have hr : b ≠ E.B.r := fun z => R.ar (by rw [← z]; exact (R.lf b mb).1)
  obtain ⟨o, ho⟩ := Option.ne_none_iff_exists'.mp hbn
  have x1 := xb.un ho (R.lq mb) hr
  have R1 := R.ex x1
  obtain ⟨b', hb', mb, ob, up⟩ := R1.upd1 hk hx
  rw [hb] at hb'
  cases hb'
  have := up (.lst vs) (.lst zs) ⟨vs, upd_same, by rw [upd_back hv]; exact rp⟩
  rw [upd_back hv] at this
  exact this
theorem Rel.drop {E : Ac} {L : List Addr} {γ : G} {σ : St} {H : Hp} (R : Rel E L ks γ σ H) (i : Nat) (k : Kd) : Rel E L (ks.set i k) (γ.set i none) σ H where
  old := R.old
  onn := R.onn
  bag := R.bag
  a0 := R.a0
  aq := R.aq
  ar := R.ar
  lf := R.lf
  len := by rw [List.length_set]; exact R.len
  sl := by
    obtain ⟨O, h1, h2, h3, h4⟩ := R.sl
    refine ⟨O, fun j y hy => ?_, h2, h3, h4⟩
    by_cases z : i = j
    · subst z
      rw [List.getElem?_set] at hy
      rw [if_pos rfl] at hy
      split at hy <;> cases hy
    · rw [List.getElem?_set_ne z] at hy
      obtain ⟨v, hv, kr⟩ := h1 j y hy
      refine ⟨v, hv, ?_⟩
      have e : kd (ks.set i k) j = kd ks j := by
        unfold kd
        simp only [List.getD_eq_getElem?_getD, List.getElem?_set_ne z]
      rw [e]
      exact kr
end
end Vl
namespace Vl
open PySem PySem.Spec L2 Lb
mutual
/-- no dict within -/
def nd : PV → Bool
  | .lst xs => ndL xs
  | .tup xs => ndL xs
  | .ins _ xs => ndL xs
  | .dK _ => false
  | .dT _ => false
  | _ => true
def ndL : List PV → Bool
  | [] => true
  | x :: xs => nd x && ndL xs
end
section
variable {B : Bg} {A : Addr → Prop} {H : Hp} {d : Addr} {ws : List (List Key × V)}
mutual
theorem Rp.lkd (hd : H d = some (.dT ws)) : ∀ {x : PV} {v : V}, Rp B A H x v → nd x = true → Rp B (fun c => A c ∨ c = d) H x v
  | _, _, .non, _ => .non
  | _, _, .bl b, _ => .bl b
  | _, _, .int i, _ => .int i
  | _, _, .str x, _ => .str x
  | _, _, .ty n, _ => .ty n
  | _, _, .lst n h r, e => .lst (fun z => z.elim n fun z => by rw [z, hd] at h; cases h) h (RpL.lkd hd r (by simpa only [nd] using e))
  | _, _, .tup h r, e => .tup h (RpL.lkd hd r (by simpa only [nd] using e))
  | _, _, .dK .., e => by simp [nd] at e
  | _, _, .dT .., e => by simp [nd] at e
  | _, _, .ins n h a b r, e => .ins (fun z => z.elim n fun z => by rw [z, hd] at h; cases h) h a b (RpL.lkd hd r (by simpa only [nd] using e))
  | _, _, .cls c, _ => .cls c
  | _, _, .bag, _ => .bag
theorem RpL.lkd (hd : H d = some (.dT ws)) : ∀ {x : List PV} {v : List V}, RpL B A H x v → ndL x = true → RpL B (fun c => A c ∨ c = d) H x v
  | _, _, .nil, _ => .nil
  | _, _, .cons a b, e => by
    simp only [ndL, Bool.and_eq_true] at e
    exact .cons (Rp.lkd hd a e.1) (RpL.lkd hd b e.2)
end
mutual
theorem Rp.ul {od : Obj} {u : HO} (hd : H d = some (.frz od u)) : ∀ {x : PV} {v : V}, Rp B A H x v → Rp B (fun c => A c ∨ c = d) H x v
  | _, _, .non => .non
  | _, _, .bl b => .bl b
  | _, _, .int i => .int i
  | _, _, .str x => .str x
  | _, _, .ty n => .ty n
  | _, _, .lst n h r => .lst (fun z => z.elim n fun z => by rw [z, hd] at h; cases h) h (RpL.ul hd r)
  | _, _, .tup h r => .tup h (RpL.ul hd r)
  | _, _, .dK n h a b c e r => .dK (fun z => z.elim n fun z => by rw [z, hd] at h; cases h) h a b c e (RpL.ul hd r)
  | _, _, .dT n h a b c e r => .dT (fun z => z.elim n fun z => by rw [z, hd] at h; cases h) h a b c e (RpL.ul hd r)
  | _, _, .ins n h a b r => .ins (fun z => z.elim n fun z => by rw [z, hd] at h; cases h) h a b (RpL.ul hd r)
  | _, _, .cls c => .cls c
  | _, _, .bag => .bag
theorem RpL.ul {od : Obj} {u : HO} (hd : H d = some (.frz od u)) : ∀ {x : List PV} {v : List V}, RpL B A H x v → RpL B (fun c => A c ∨ c = d) H x v
  | _, _, .nil => .nil
  | _, _, .cons a b => .cons (Rp.ul hd a) (RpL.ul hd b)
end
theorem Rp.at_ {A' : Addr → Prop} {o : HO} {x : PV} {v : V} (r : Rp B (fun c => A c ∨ c = d) H x v) (nt : ∀ vs, H d ≠ some (.tup vs)) (g : ∀ c, A' c → A c) : Rp B A' (upd H d o) x v :=
  r.mv (fun b u e n => by rw [upd_ne (fun z => n (.inr z))]; exact e) (fun b u e => by rw [upd_ne (fun z => nt u (by rw [← z]; exact e))]; exact e) fun c z _ => .inl (g c z)
theorem RpL.at_ {A' : Addr → Prop} {o : HO} {x : List PV} {v : List V} (r : RpL B (fun c => A c ∨ c = d) H x v) (nt : ∀ vs, H d ≠ some (.tup vs)) (g : ∀ c, A' c → A c) : RpL B A' (upd H d o) x v :=
  r.mv (fun b u e n => by rw [upd_ne (fun z => n (.inr z))]; exact e) (fun b u e => by rw [upd_ne (fun z => nt u (by rw [← z]; exact e))]; exact e) fun c z _ => .inl (g c z)
end
/-- the kinds that may stand beside a locked dict -/
def Kd.okz : Kd → Bool
  | .sh => true
  | .bor => true
  | .own => true
  | _ => false
def Ac.fz (E : Ac) (d : Addr) (o : HO) : Ac := { E with H0 := upd E.H0 d o }
section
variable {X : Cx} {ks kl : List Kd} {E : Ac} {L : List Addr} {γ : G} {σ : L2.St} {H : Hp} {d : Addr} {ws : List (List Key × V)} {i : Nat} {k : Kd} {x : PV} {v : V} {O : List Addr}
theorem Kr.lock {o o' : HO} (hk : k.okz = true) (hd : H d = some (.dT ws)) (nx : nd x = true) (h : Kr E L H k x v O) : Kr (E.fz d o') L (upd H d o) k x v O := by
  have nt : ∀ vs, H d ≠ some (.tup vs) := fun vs => by rw [hd]; exact nofun
  cases k <;> first | (cases hk; done) | skip
  · exact ⟨h.1, (h.2.lkd hd nx).at_ nt fun c z => z⟩
  · exact ⟨h.1, (h.2.lkd hd nx).at_ nt fun c z => z⟩
  · obtain ⟨a, e1, e2, h⟩ := h
    refine ⟨a, e1, e2, ?_⟩
    cases x with
    | lst xs =>
      obtain ⟨vs, h1, h2⟩ := h
      have ha : a ≠ d := fun z => by rw [z, hd] at h1; cases h1
      exact ⟨vs, by rw [upd_ne ha]; exact h1, (h2.lkd hd (by simpa only [nd] using nx)).at_ nt fun c z => z⟩
    | ins c fs =>
      obtain ⟨dx, w2, h1, h2, h3⟩ := h
      have ha : a ≠ d := fun z => by rw [z, hd] at h1; cases h1
      exact ⟨dx, w2, by rw [upd_ne ha]; exact h1, h2, (h3.lkd hd (by simpa only [nd] using nx)).at_ nt fun c z => z⟩
    | dK _ => simp [nd] at nx
    | dT _ => simp [nd] at nx
    | _ => exact h.elim
theorem Kr.unlock {od : Obj} {u o o' : HO} (hk : k.okz = true) (hd : H d = some (.frz od u)) (h : Kr (E.fz d o') L H k x v O) : Kr E L (upd H d o) k x v O := by
  have nt : ∀ vs, H d ≠ some (.tup vs) := fun vs => by rw [hd]; exact nofun
  cases k <;> first | (cases hk; done) | skip
  · exact ⟨h.1, (h.2.ul hd).at_ nt fun c z => z⟩
  · exact ⟨h.1, (h.2.ul hd).at_ nt fun c z => z⟩
  · obtain ⟨a, e1, e2, h⟩ := h
    refine ⟨a, e1, e2, ?_⟩
    cases x with
    | lst xs =>
      obtain ⟨vs, h1, h2⟩ := h
      have ha : a ≠ d := fun z => by rw [z, hd] at h1; cases h1
      exact ⟨vs, by rw [upd_ne ha]; exact h1, (h2.ul hd).at_ nt fun c z => z⟩
    | dK kvs =>
      obtain ⟨w2, h1, h2, h3⟩ := h
      have ha : a ≠ d := fun z => by rw [z, hd] at h1; cases h1
      exact ⟨w2, by rw [upd_ne ha]; exact h1, h2, (h3.ul hd).at_ nt fun c z => z⟩
    | dT kvs =>
      obtain ⟨w2, h1, h2, h3⟩ := h
      have ha : a ≠ d := fun z => by rw [z, hd] at h1; cases h1
      exact ⟨w2, by rw [upd_ne ha]; exact h1, h2, (h3.ul hd).at_ nt fun c z => z⟩
    | ins c fs =>
      obtain ⟨dx, w2, h1, h2, h3⟩ := h
      have ha : a ≠ d := fun z => by rw [z, hd] at h1; cases h1
      exact ⟨dx, w2, by rw [upd_ne ha]; exact h1, h2, (h3.ul hd).at_ nt fun c z => z⟩
    | _ => exact h.elim
theorem kd_set_ne {k : Kd} {j : Nat} (h : j ≠ i) : kd (ks.set i k) j = kd ks j := by
  unfold kd
  simp only [List.getD_eq_getElem?_getD, List.getElem?_set_ne h.symm]
theorem kd_set_at {k : Kd} (h : i < ks.length) : kd (ks.set i k) i = k := by
  unfold kd
  simp [List.getD_eq_getElem?_getD, h]
theorem Rel.lock {kvs : List (List Key × PV)} (R : Rel E L ks γ σ H) (hik : ks[i]? = some .bor ∨ ks[i]? = some .sh) (hx : γ[i]? = some (some (.dT kvs))) (hv : ndL (kvs.map (·.2)) = true)
    (ho : ∀ j x, j ≠ i → γ[j]? = some (some x) → (kd ks j).okz = true ∧ nd x = true) :
    ∃ d ws, H d = some (.dT ws) ∧ d ∉ L ∧ d ≠ E.B.q ∧ d ≠ E.B.r ∧ ∀ od, Rel (E.fz d (.frz od (.dT ws))) L (ks.set i .fz) γ σ (upd H d (.frz od (.dT ws))) := by
  obtain ⟨O, h1, h2, h3, h4⟩ := R.sl
  obtain ⟨v, hv', k⟩ := h1 i _ hx
  have hi : i < ks.length := by rcases hik with h | h <;> exact (List.getElem?_eq_some_iff.mp h).1
  have kk : O i = [] ∧ Rp E.B (av E L false true) H (.dT kvs) v := by
    rcases hik with h | h
    · rw [getElem?_kd h] at k; exact k
    · rw [getElem?_kd h] at k; exact ⟨k.1, k.2.anti fun c z => av_mono (a' := false) (s' := true) (fun z => nomatch z) (fun _ => rfl) z⟩
  obtain ⟨o0, rp⟩ := kk
  cases rp with
  | dT n hd e1 e2 e3 e4 rl =>
  rename_i a ws ks' xs vs
  subst e1; subst e3; subst e4
  have nL : a ∉ L := fun m => n (.inr (.inr ⟨rfl, m⟩))
  have nq : a ≠ E.B.q := fun z => n (.inl z)
  have nr : a ≠ E.B.r := fun z => by
    obtain ⟨_, _, _, _, b1, b2, _⟩ := R.bag
    rw [← z, hd] at b2
    cases b2
  have nt : ∀ vs, H a ≠ some (.tup vs) := fun vs => by rw [hd]; exact nofun
  refine ⟨a, ws, hd, nL, nq, nr, fun od => ⟨fun b o h m => ?_, fun b h => ?_, R.bag.stay (fun u e => by rw [upd_ne nq.symm]; exact e) (fun u e => by rw [upd_ne nr.symm]; exact e), fun b h => ?_, R.aq, ?_, fun b m => ?_, R.len, O, fun j x hj => ?_, h2, h3, h4⟩⟩
  · have h : upd E.H0 a (.frz od (.dT ws)) b = some o := h
    by_cases z : b = a
    · rw [z, upd_same] at h ⊢; exact h
    · rw [upd_ne z] at h ⊢; exact R.old b o h m
  · have h : upd E.H0 a (.frz od (.dT ws)) b ≠ none := h
    by_cases z : b = a
    · rw [z, upd_same]; exact nofun
    · rw [upd_ne z] at h ⊢; exact R.onn b h
  · show upd E.H0 a (.frz od (.dT ws)) b ≠ none
    by_cases z : b = a
    · rw [z, upd_same]; exact nofun
    · rw [upd_ne z]; exact R.a0 b h
  · show upd E.H0 a (.frz od (.dT ws)) E.B.r ≠ none
    rw [upd_ne nr.symm]; exact R.ar
  · show upd E.H0 a (.frz od (.dT ws)) b = none ∧ _
    have z : b ≠ a := fun z => nL (by rw [← z]; exact m)
    rw [upd_ne z, upd_ne z]
    exact R.lf b m
  · by_cases z : j = i
    · subst z
      rw [hx] at hj
      cases hj
      refine ⟨_, hv', ?_⟩
      rw [kd_set_at hi]
      exact ⟨o0, a, od, kvs, ws, rfl, rfl, n, upd_same, e2.symm, (rl.lkd hd hv).at_ nt fun c z => z⟩
    · obtain ⟨v2, hv2, k2⟩ := h1 j x hj
      obtain ⟨g1, g2⟩ := ho j x z hj
      refine ⟨v2, hv2, ?_⟩
      rw [kd_set_ne z]
      exact k2.lock g1 hd g2
theorem Rel.unlock {L' : List Addr} {γ' : G} {σ' : L2.St} {H' : Hp} {od : Obj} (R : Rel E L ks γ σ H) (hd : H d = some (.dT ws)) (nq : d ≠ E.B.q) (nr : d ≠ E.B.r) (ho : ∀ j, j ≠ i → (kd ks j).okz = true)
    (R' : Rel (E.fz d (.frz od (.dT ws))) L' (ks.set i .fz) γ' σ' H') : H' d = some (.frz od (.dT ws)) ∧ Rel E L' ks (γ'.set i none) σ' (upd H' d (.dT ws)) := by
  have hd' : H' d = some (.frz od (.dT ws)) := R'.old d _ (by show upd E.H0 d _ d = _; rw [upd_same]) nq
  refine ⟨hd', fun b o h m => ?_, fun b h => ?_, BagOk.stay (B := E.B) R'.bag (fun u e => by rw [upd_ne nq.symm]; exact e) (fun u e => by rw [upd_ne nr.symm]; exact e), R.a0, R.aq, R.ar, fun b m => ?_, by rw [List.length_set]; exact R'.len, ?_⟩
  · by_cases z : b = d
    · rw [z] at h ⊢
      have := R.old d o h nq
      rw [hd] at this
      cases this
      exact upd_same
    · rw [upd_ne z]
      exact R'.old b o (by show upd E.H0 d _ b = _; rw [upd_ne z]; exact h) m
  · by_cases z : b = d
    · rw [z, upd_same]; exact nofun
    · rw [upd_ne z]
      exact R'.onn b (by show upd E.H0 d _ b ≠ _; rw [upd_ne z]; exact h)
  · obtain ⟨g1, g2⟩ := R'.lf b m
    have g1 : upd E.H0 d (.frz od (.dT ws)) b = none := g1
    have z : b ≠ d := fun z => by rw [z, upd_same] at g1; cases g1
    rw [upd_ne z] at g1
    exact ⟨g1, by rw [upd_ne z]; exact g2⟩
  · obtain ⟨O, h1, h2, h3, h4⟩ := R'.sl
    refine ⟨O, fun j x hj => ?_, h2, h3, h4⟩
    by_cases z : i = j
    · subst z
      rw [List.getElem?_set, if_pos rfl] at hj
      split at hj <;> cases hj
    · rw [List.getElem?_set_ne z] at hj
      obtain ⟨v, hv, k⟩ := h1 j x hj
      rw [kd_set_ne (fun e => z e.symm)] at k
      exact ⟨v, hv, k.unlock (ho j fun e => z e.symm) hd'⟩
def ndo : Option PV → Bool
  | none => true
  | some x => nd x
/-- all slots but the i-th hold no dict -/
def ndG : Nat → G → Bool
  | _, [] => true
  | 0, _ :: γ => γ.all ndo
  | i + 1, o :: γ => ndo o && ndG i γ
theorem ndG_at : ∀ {i : Nat} {γ : G}, ndG i γ = true → ∀ j x, j ≠ i → γ[j]? = some (some x) → nd x = true
  | _, [], _, _, _, _, h => by simp at h
  | 0, o :: γ, h, 0, _, n, _ => absurd rfl n
  | 0, o :: γ, h, j + 1, x, _, hj => List.all_eq_true.mp h (some x) (List.mem_of_getElem? (by simpa using hj))
  | i + 1, o :: γ, h, 0, x, _, hj => by
    simp only [ndG, Bool.and_eq_true] at h
    have : o = some x := by simpa using hj
    subst this
    exact h.1
  | i + 1, o :: γ, h, j + 1, x, n, hj => by
    simp only [ndG, Bool.and_eq_true] at h
    exact ndG_at h.2 j x (fun z => n (by rw [z])) (by simpa using hj)
theorem okz_kd (h : (ks.set i .sh).all Kd.okz = true) : ∀ j, j ≠ i → (kd ks j).okz = true := fun j n => by
  have e := kd_set_ne (ks := ks) (k := .sh) n
  rw [← e]
  unfold kd
  by_cases hj : j < (ks.set i .sh).length
  · simp only [List.getD, List.getElem?_eq_getElem hj, Option.getD_some]
    exact List.all_eq_true.mp h _ (List.getElem_mem hj)
  · simp only [List.getD, List.getElem?_eq_none (Nat.not_lt.mp hj), Option.getD_none]
    rfl
end
def pKeys (i : Nat) : GA := fun γ Q => getS γ i fun x => match x with
  | .dT kvs => Q (kvs.map fun kv => .tup (kv.1.map kP))
  | _ => False
section
variable {X : Cx} {ks : List Kd} {a2 s2 : Bool} {tg e o : Expr} {es : List Expr} {pa : GA} {pos tpos : Pos} {x1 : Nat}
theorem Rel.fzat {E : Ac} {L : List Addr} {γ : G} {σ : L2.St} {H : Hp} {i : Nat} {x : PV} (R : Rel E L ks γ σ H) (hk : ks[i]? = some .fz) (hx : γ[i]? = some (some x)) : ∃ a od kvs ws, x = .dT kvs ∧ σ[i]? = some (some (.ref a)) ∧ ¬ av E L false true a ∧ H a = some (.frz od (.dT ws)) ∧ kvs.map (·.1) = ws.map (·.1) ∧ RpL E.B (av E L false true) H (kvs.map (·.2)) (ws.map (·.2)) := by
  obtain ⟨O, h1, _⟩ := R.sl
  obtain ⟨v, hv, k⟩ := h1 i x hx
  rw [getElem?_kd hk] at k
  obtain ⟨_, a, od, kvs, ws, e1, e2, n, h2, h3, h4⟩ := k
  exact ⟨a, od, kvs, ws, e1, by rw [← e2]; exact hv, n, h2, h3, h4⟩
theorem qi_keysZ (i : Nat) (hv : PE X e (tVar i)) (hk : ks[i]? = some .fz := by rfl) : QI X ks true tg e (pKeys i) :=
  PIi (pi_keys hv) fun σ H R ⟨E, L, γ, Qp, hK, Rl, hp, k⟩ => by
    obtain ⟨x, hx, q⟩ := getS_of hp
    obtain ⟨a, od, kvs, ws, rfl, hs, n, hd, ek, rl⟩ := Rl.fzat hk hx
    have nL : a ∉ L := fun m => n (.inr (.inr ⟨rfl, m⟩))
    have nq : a ≠ E.B.q := fun z => n (.inl z)
    have hl : kvs.length = ws.length := by have := congrArg List.length ek; simpa using this
    refine ⟨.ref a, hs, a, od, rfl, .inr ⟨ws, hd, k _ _ H q (.refl _ _) ⟨fun L H => H a = some (.frz od (.dT ws)) ∧ a ∉ L, ⟨hd, nL⟩, fun L H L' H' p f => ⟨f.st a _ p.1 p.2 nq, fun m => (f.ls a m).elim p.2 fun e => by rw [p.1] at e; cases e⟩, fun j L H p hj => ⟨⟨p.1, by rw [List.length_map] at hj; omega⟩, ?_⟩, fun j L H p hj => ⟨p.1, by rw [List.length_map] at hj; omega⟩⟩⟩⟩
    rintro v H' ⟨rfl, kk, y, q0, h1, rfl, h2⟩
    rw [List.length_map] at hj
    refine ⟨.refl _ _, .tup (kk.map kP), ?_, .tup (.inl h2) (rp_keys kk)⟩
    have e1 : (kvs.map (·.1))[j]? = (ws.map (·.1))[j]? := by rw [ek]
    rw [List.getElem?_map, List.getElem?_map, h1, List.getElem?_eq_getElem hj] at e1
    have e2 : kvs[j].1 = kk := Option.some.inj e1
    rw [List.getElem?_map, List.getElem?_eq_getElem hj]
    simp only [Option.map_some, e2]
theorem qe_dgetZ (i : Nat) (hu : X.A.units + 1 < cLine) (hi : PE X o (tVar i)) (h2 : QA X ks a2 s2 es pa) (hk : ks[i]? = some .fz := by rfl) (hn : es.length ≤ 1000 := by decide) (hs : NoSl (.Tuple es x1 tpos) := by exact fun _ _ => rfl) : QE X ks false true (.Subscript o (.Tuple es x1 tpos) pos) (pDGetT (pVar i) pa) :=
  PEi (pe_dget hu hi (pe_tup h2) hs) fun σ H Q ⟨E, L, γ, Qp, hK, R, hp, k⟩ => by
    obtain ⟨x, hx, q⟩ := getS_of hp
    obtain ⟨a, od, kvs, ws, rfl, hv, n, hd, ek, rl⟩ := R.fzat hk hx
    have nq : a ≠ E.B.q := fun z => n (.inl z)
    refine ⟨.ref a, hv, E, L, γ, _, hK, R, q, fun xs vs H2 q2 x2 r2 l2 => ⟨by rw [← r2.length, l2]; exact few hn, fun d nd => ?_⟩⟩
    have x3 : Ex E.B H2 (upd H2 d (.tup vs)) := .new nd
    have hd2 := (x2.trans x3).st a _ hd nq
    have rl2 := rl.ex (x2.trans x3) av_q
    have q3 : (match keysOf xs with | some k => (match valP kvs k with | some x => Qp x | none => False) | none => False) := q2
    cases hy : keysOf xs with
    | none => rw [hy] at q3; exact q3.elim
    | some kk =>
      rw [hy] at q3
      cases hx : valP kvs kk with
      | none => simp only [hx] at q3
      | some x =>
        simp only [hx] at q3
        obtain ⟨v, hv, rv⟩ := val_rp ek rl2 hx
        have ek := keys_rp r2 hy
        exact ⟨a, v, rfl, by rw [← hv]; exact .inr ⟨ws, kk, d, .inr ⟨od, hd2⟩, rfl, by rw [upd_same, ek], rfl⟩, k _ _ _ q3 (x2.trans x3) rv⟩
end
end Vl
namespace Vl
open PySem PySem.Spec L2 Lb PyProof.Rows
end Vl
namespace Vl
open PySem PySem.Spec L2 Lb PyProof.Rows
end Vl
namespace Vl
open PySem PySem.Spec L2 Lb PyProof.Rows
/-- is it a plain thing: none of the own classes' -/
def kn : PV → Bool
  | .non => true
  | .bl _ => true
  | .int _ => true
  | .str _ => true
  | .lst _ => true
  | .tup _ => true
  | .dK _ => true
  | .dT _ => true
  | _ => false
end Vl
namespace Vl
open PySem PySem.Spec L2 Lb PyProof.Rows
end Vl
namespace Vl
open PySem PySem.Spec L2 Lb PyProof.Rows
end Vl
namespace Vl
open PySem PySem.Spec L2 Lb
end Vl
namespace Vl
open PySem PySem.Spec L2 Lb PyProof.Rows
end Vl
namespace Vl
open PySem PySem.Spec L2 Lb PyProof.Rows
theorem _root_.L2H.RoomH.units {k : Nat} {A : Around} (h : L2H.RoomH k A) : A.units + 64 < cLine := by have := h.un; omega
end Vl
namespace Vl
open PySem PySem.Spec L2 Lb
end Vl
namespace Vl
open PySem PySem.Spec L2 Lb PyProof.Rows PyProof
end Vl
namespace Vl
open PySem PySem.Spec L2 Lb PyProof.Rows
end Vl
namespace Vl
open PySem PySem.Spec L2 Lb PyProof.Rows
end Vl
namespace Vl
open PySem PySem.Spec L2 Lb
end Vl
namespace Vl
open PySem PySem.Spec PyProof.Rows L2 Lb
end Vl
namespace Vl
open PySem PySem.Spec L2 Lb PyProof.Rows
section
variable {B : Bg} {A A' : Addr → Prop} {H H' : Hp} {js : List Nat}
theorem Fo.det : ∀ {k : Nat} {xs ys : List PV} {vs : List V} {bs cs : List Addr} {A2 : Addr → Prop}, Fo B A H js k xs vs bs → Fo B A2 H js k ys vs cs → bs = cs
  | _, _, _, _, _, _, _, .nil, .nil => rfl
  | _, _, _, _, _, _, _, .sh _ _ t, .sh _ _ t' => t.det t'
  | _, _, _, _, _, _, _, .own _ _ t, .own _ _ t' => by rw [t.det t']
  | _, _, _, _, _, _, _, .sh n _ _, .own m _ _ => absurd m n
  | _, _, _, _, _, _, _, .own m _ _, .sh n _ _ => absurd m n
theorem Fo.set_sh {x : PV} {v : V} (r : Rp B A H x v) : ∀ {k n : Nat} {xs : List PV} {vs : List V} {bs : List Addr}, k + n ∉ js → Fo B A H js k xs vs bs → Fo B A H js k (xs.set n x) (vs.set n v) bs
  | _, _, _, _, _, _, .nil => .nil
  | _, 0, _, _, _, h, .sh n _ t => .sh n r t
  | _, 0, _, _, _, h, .own n _ t => absurd n h
  | k, n + 1, _, _, _, h, .sh m q t => .sh m q (Fo.set_sh r (by rw [Nat.add_right_comm]; exact h) t)
  | k, n + 1, _, _, _, h, .own m q t => .own m q (Fo.set_sh r (by rw [Nat.add_right_comm]; exact h) t)
theorem Fo.app_sh {x : PV} {v : V} (r : Rp B A H x v) : ∀ {k : Nat} {xs : List PV} {vs : List V} {bs : List Addr}, k + xs.length ∉ js → Fo B A H js k xs vs bs → Fo B A H js k (xs ++ [x]) (vs ++ [v]) bs
  | _, _, _, _, h, .nil => .sh (by simpa using h) r .nil
  | _, _, _, _, h, .sh m q t => .sh m q (Fo.app_sh r (by rw [Nat.add_right_comm, Nat.add_assoc]; simpa using h) t)
  | _, _, _, _, h, .own m q t => .own m q (Fo.app_sh r (by rw [Nat.add_right_comm, Nat.add_assoc]; simpa using h) t)
theorem Fo.app_own {x : PV} {b : Addr} (r : Ob B A H b x) : ∀ {k : Nat} {xs : List PV} {vs : List V} {bs : List Addr}, k + xs.length ∈ js → Fo B A H js k xs vs bs → Fo B A H js k (xs ++ [x]) (vs ++ [.ref b]) (bs ++ [b])
  | _, _, _, _, h, .nil => .own (by simpa using h) r .nil
  | _, _, _, _, h, .sh m q t => .sh m q (Fo.app_own r (by rw [Nat.add_right_comm, Nat.add_assoc]; simpa using h) t)
  | _, _, _, _, h, .own m q t => .own m q (Fo.app_own r (by rw [Nat.add_right_comm, Nat.add_assoc]; simpa using h) t)
/-- the own field n replaced by another own object -/
theorem Fo.set_own {x : PV} {b : Addr} (r : Ob B A H b x) : ∀ {k n : Nat} {xs : List PV} {vs : List V} {bs : List Addr}, k + n ∈ js → n < xs.length → Fo B A H js k xs vs bs →
    ∃ bs', Fo B A H js k (xs.set n x) (vs.set n (.ref b)) bs' ∧ (∀ c ∈ bs', c ∈ bs ∨ c = b) ∧ (b ∉ bs → bs.Nodup → bs'.Nodup)
  | _, _, _, _, _, _, l, .nil => by simp at l
  | _, 0, _, _, _, h, _, .sh n _ t => absurd h n
  | _, 0, _, _, _, h, _, .own (bs := bs) n _ t => ⟨b :: bs, .own n r t, fun c m => (List.mem_cons.mp m).elim .inr fun z => .inl (List.mem_cons_of_mem _ z), fun nb nd => List.nodup_cons.mpr ⟨fun z => nb (List.mem_cons_of_mem _ z), (List.nodup_cons.mp nd).2⟩⟩
  | k, n + 1, _, _, _, h, l, .sh m q t => by
    obtain ⟨bs', t', h1, h2⟩ := Fo.set_own r (k := k + 1) (n := n) (by rw [Nat.add_right_comm]; exact h) (by simpa using l) t
    exact ⟨bs', .sh m q t', h1, h2⟩
  | k, n + 1, _, _, _, h, l, .own (b := d) (bs := bs) m q t => by
    obtain ⟨bs', t', h1, h2⟩ := Fo.set_own r (k := k + 1) (n := n) (by rw [Nat.add_right_comm]; exact h) (by simpa using l) t
    refine ⟨d :: bs', .own m q t', fun c z => (List.mem_cons.mp z).elim (fun z => .inl (by simp [z])) fun z => (h1 c z).elim (fun z => .inl (by simp [z])) .inr, fun nb nd => ?_⟩
    obtain ⟨n1, n2⟩ := List.nodup_cons.mp nd
    refine List.nodup_cons.mpr ⟨fun z => ?_, h2 (fun z => nb (by simp [z])) n2⟩
    rcases h1 _ z with z | z
    · exact n1 z
    · exact nb (by simp [z])
/-- the own field n at work -/
theorem Fo.at_own : ∀ {k n : Nat} {xs : List PV} {vs : List V} {bs : List Addr} {y : PV}, k + n ∈ js → xs[n]? = some y → Fo B A H js k xs vs bs → bs.Nodup →
    ∃ d, vs[n]? = some (.ref d) ∧ d ∈ bs ∧ Ob B A H d y ∧ ∀ (A' : Addr → Prop) (H' : Hp) (y' : PV), (∀ x v, Rp B A H x v → Rp B A' H' x v) → (∀ c x, c ≠ d → Ob B A H c x → Ob B A' H' c x) → Ob B A' H' d y' → Fo B A' H' js k (xs.set n y') vs bs
  | _, _, _, _, _, _, _, e, .nil, _ => by simp at e
  | _, 0, _, _, _, _, h, _, .sh n _ t, _ => absurd h n
  | _, 0, _, _, _, _, h, e, .own (b := d) n o t, nd => by
    simp at e; subst e
    refine ⟨d, rfl, by simp, o, fun A' H' y' mr mo o' => .own n o' ?_⟩
    have go : ∀ {m : Nat} {xs : List PV} {vs : List V} {cs : List Addr}, d ∉ cs → Fo B A H js m xs vs cs → Fo B A' H' js m xs vs cs := by
      intro m xs vs cs nc t
      induction t with
      | nil => exact .nil
      | sh n r _ ih => exact .sh n (mr _ _ r) (ih nc)
      | own n o _ ih => exact .own n (mo _ _ (fun z => nc (by simp [z])) o) (ih fun z => nc (by simp [z]))
    exact go (List.nodup_cons.mp nd).1 t
  | k, n + 1, _, _, _, _, h, e, .sh m q t, nd => by
    obtain ⟨d, h1, h2, h3, h4⟩ := Fo.at_own (k := k + 1) (n := n) (by rw [Nat.add_right_comm]; exact h) (by simpa using e) t nd
    exact ⟨d, by simpa using h1, h2, h3, fun A' H' y' mr mo o' => .sh m (mr _ _ q) (h4 A' H' y' mr mo o')⟩
  | k, n + 1, _, _, _, _, h, e, .own (b := c) m q t, nd => by
    obtain ⟨n1, n2⟩ := List.nodup_cons.mp nd
    obtain ⟨d, h1, h2, h3, h4⟩ := Fo.at_own (k := k + 1) (n := n) (by rw [Nat.add_right_comm]; exact h) (by simpa using e) t n2
    exact ⟨d, by simpa using h1, by simp [h2], h3, fun A' H' y' mr mo o' => .own m (mo _ _ (fun z => n1 (by rw [z]; exact h2)) q) (h4 A' H' y' mr mo o')⟩
theorem Fo.upL {E : Ac} {L : List Addr} {H : Hp} {D : Addr} {o : HO} {k : Nat} {xs : List PV} {vs : List V} {bs : List Addr} (h : Fo E.B (av E L true true) H js k xs vs bs) (m : D ∈ L) (nt : ∀ vs, H D ≠ some (.tup vs)) (n : D ∉ bs) : Fo E.B (av E L true true) (upd H D o) js k xs vs bs :=
  h.mv (fun a u e z => by rw [upd_ne (fun q => z (by rw [q]; exact .inr (.inr ⟨rfl, m⟩)))]; exact e) (fun a u e => by rw [upd_ne (fun q => nt u (by rw [← q]; exact e))]; exact e) (fun _ z _ => z) fun a ma u e => by rw [upd_ne (fun q => n (by rw [← q]; exact ma))]; exact e
end
section
variable {E : Ac} {L : List Addr} {ks : List Kd} {γ : G} {σ : L2.St} {H : Hp} {i : Nat} {w : Whr} {js : List Nat} {x : PV}
theorem Rel.objAt (R : Rel E L ks γ σ H) (hk : ks[i]? = some (.obj w js)) (hx : γ[i]? = some (some x)) : ∃ a c fs ws dx bs, x = .ins c fs ∧ σ[i]? = some (some (.ref a)) ∧ w.ok E.me a ∧ a ∈ L ∧ (∀ b ∈ bs, b ∈ L) ∧ a ∉ bs ∧ bs.Nodup ∧
    H a = some (.ins (He.ga E.B.K (clsT c).1) dx ws) ∧ ws.map (·.1) = (clsT c).2.take fs.length ∧ Fo E.B (av E L true true) H js 0 fs (ws.map (·.2)) bs ∧
    ∀ (L' : List Addr) (H' : Hp) (fs' : List PV) (ws' : List (Str × V)) (bs' : List Addr), Fw E.B L H L' H' → (∀ c ∈ L, c ∈ L') → (∀ c ∈ L', c ∈ L ∨ E.H0 c = none) → (∀ c ∈ L', H' c ≠ none) → (∀ b u, b ∉ a :: bs' → b ≠ E.B.q → H b = some u → H' b = some u) → BagOk E.B H' →
      H' a = some (.ins (He.ga E.B.K (clsT c).1) dx ws') → ws'.map (·.1) = (clsT c).2.take fs'.length → Fo E.B (av E L' true true) H' js 0 fs' (ws'.map (·.2)) bs' → (∀ b ∈ bs', b ∈ bs ∨ H b = none) → (∀ b ∈ bs', b ∈ L') → (a :: bs').Nodup → Rel E L' ks (γ.set i (some (.ins c fs'))) σ H' := by
  obtain ⟨O, h1, h2, h3, h4⟩ := R.sl
  obtain ⟨v, hv, k⟩ := h1 i x hx
  rw [getElem?_kd hk] at k
  obtain ⟨a, c, fs, ws, dx, bs, rfl, rfl, ho, hw, ha, hn, hf⟩ := k
  have haL : a ∈ L := h2 i a (by rw [ho]; simp)
  have hbL : ∀ b ∈ bs, b ∈ L := fun b m => h2 i b (by rw [ho]; simp [m])
  have nd := h4 i
  rw [ho] at nd
  obtain ⟨n1, n2⟩ := List.nodup_cons.mp nd
  refine ⟨a, c, fs, ws, dx, bs, rfl, hv, hw, haL, hbL, n1, n2, ha, hn, hf, fun L' H' fs' ws' bs' f lL ll ln keep bag ha' hn' hf' hb' hbL' nd' => ?_⟩
  have e0 : ∀ b ∈ a :: bs', E.H0 b = none := fun b m => by
    rcases List.mem_cons.mp m with z | z
    · rw [z]; exact (R.lf a haL).1
    · rcases ll b (hbL' b z) with q | q
      · exact (R.lf b q).1
      · exact q
  have := R.put (i := i) (k := .obj w js) (x := .ins c fs') (v := .ref a) (O' := a :: bs') (L' := L') (H' := H') f (fun b m n u e => keep b u n (R.lq m) e) (fun b u e n => keep b u (fun z => by rw [e0 b z] at e; cases e) n (R.old b u e n)) bag ll ln lL
    ⟨a, c, fs', ws', dx, bs', rfl, rfl, rfl, hw, ha', hn', hf'⟩ (fun b m => (List.mem_cons.mp m).elim (fun z => by rw [z]; exact lL a haL) (hbL' b)) nd' (fun O2 g2 g3 g1 j b hj hb m => by
      obtain ⟨u, hu, ku⟩ := g1 i _ hx
      rw [hv] at hu; cases hu
      rw [getElem?_kd hk] at ku
      obtain ⟨a2, c2, fs2, ws2, dx2, bs2, e1, e2, eo, _, ea, _, ef⟩ := ku
      cases e2
      rw [ha] at ea
      obtain ⟨-, -, rfl⟩ := HO.ins.inj (Option.some.inj ea)
      have eb := hf.det ef
      rcases List.mem_cons.mp hb with z | z
      · exact hj (g3 j i b m (by rw [eo, z]; simp))
      · rcases hb' b z with q | q
        · exact hj (g3 j i b m (by rw [eo, ← eb]; simp [q]))
        · exact (R.lf b (g2 j b m)).2 q) (List.getElem?_eq_some_iff.mp hk).1
  rw [set_same hk, set_self hv] at this
  exact this
theorem cls_few (c : Nat) : (clsT c).2.length ≤ 5 := by rcases c with _ | _ | _ | _ | _ | _ | _ | _ | _ | _ | _ <;> simp [clsT]
/-- the fields' names behind a store -/
theorem names_put {c j : Nat} {f : Str} {u : V} {fs : List PV} {ws : List (Str × V)} (hl : fs.length = ws.length) (g2 : ws.map (·.1) = (clsT c).2.take fs.length) (hf : (clsT c).2[j]? = some f) (hj : j ≤ fs.length) (y : PV) :
    (if j = ws.length then ws ++ [(f, u)] else ws.set j (f, u)).map (·.1) = (clsT c).2.take (if j = fs.length then fs ++ [y] else fs.set j y).length := by
  by_cases hjl : j = ws.length
  · rw [if_pos hjl, if_pos (by omega)]
    simp only [List.map_append, List.map_cons, List.map_nil, List.length_append, List.length_cons, List.length_nil, g2]
    rw [List.take_add_one, hl, ← hjl, hf]; rfl
  · rw [if_neg hjl, if_neg (by omega)]
    rw [List.map_set, g2, List.length_set]
    apply set_self
    rw [List.getElem?_take, if_pos (by omega)]; exact hf
end
section
variable {X : Cx} {ks kl : List Kd} {w : Whr} {js : List Nat} {i : Nat}
/-- one shared field set, the value at hand -/
theorem fldO_go (c j : Nat) {f : Str} (cl : Cls X.K (He.ga X.K (clsT c).1)) (na : NoAttr X.K (He.ga X.K (clsT c).1) f) {E : Ac} {L : List Addr} {γ : G} {σ : L2.St} {H : Hp} (hK : E.B.K = X.K) (R : Rel E L ks γ σ H) (hk : ks[i]? = some (.obj w js)) (hjs : j ∉ js)
    (hf : (clsT c).2[j]? = some f ∧ (clsT c).2.Nodup) {y : PV} {u : V} (ry : Rp E.B (av E L true true) H y u) {N : G → Prop} {T : L2.St → Hp → Prop}
    (q1 : getS γ i fun x => match x with | .ins c' fs => c' = c ∧ setF fs j y fun fs' => setS γ i (some (.ins c' fs')) N | _ => False)
    (nx : ∀ γ' H' b o, b ∈ L → (∀ vs, H b ≠ some (.tup vs)) → H' = upd H b o → Rel E L ks γ' σ H' → N γ' → T σ H') :
    ∃ v, σ[i]? = some (some v) ∧ ∃ a C dx fs, v = .ref a ∧ H a = some (.ins C dx fs) ∧ Cls X.K C ∧ NoAttr X.K C f ∧ fs.length < 1000 ∧ T σ (upd H a (.ins C dx (putF f u fs))) := by
  obtain ⟨x, hx, q⟩ := getS_of q1
  obtain ⟨a, c', fs, ws, dx, bs, rfl, hv, hw, haL, hbL, n1, n2, ha, g2, hfo, up⟩ := R.objAt hk hx
  obtain ⟨rfl, q⟩ := q
  obtain ⟨hj, q⟩ := setF_eq _ _ _ _ q
  rw [setS_eq] at q
  have nt : ∀ vs, H a ≠ some (.tup vs) := fun vs z => by rw [ha] at z; cases z
  have hl : fs.length = ws.length := by rw [hfo.len]; simp
  have hr : a ≠ E.B.r := fun z => R.ar (by rw [← z]; exact (R.lf a haL).1)
  have hnn : ws.length < 1000 := by
    have := congrArg List.length g2; simp at this
    have := cls_few c'; omega
  refine ⟨.ref a, hv, a, _, dx, ws, rfl, by rw [← hK]; exact ha, cl, na, hnn, ?_⟩
  rw [← hK]
  have hp2 := putF_at (v := u) (by rw [← hl]; exact g2) hf.2 hf.1 (by rw [← hl]; exact hj)
  rw [hp2]
  have f1 : Fw E.B L H L (upd H a (.ins (He.ga E.B.K (clsT c').1) dx (if j = ws.length then ws ++ [(f, u)] else ws.set j (f, u)))) := .upd haL nt
  refine nx _ _ a _ haL nt rfl (up L _ _ _ bs f1 (fun _ h => h) (fun _ h => .inl h) (fun b m => f1.nn b (R.lf b m).2) (fun b u n _ e => by rw [upd_ne (fun z => n (by simp [z]))]; exact e) (R.bag.stay (fun u e => by rw [upd_ne (R.lq haL).symm]; exact e) fun u e => by rw [upd_ne hr.symm]; exact e)
    upd_same (names_put hl g2 hf.1 hj y) ?_ (fun b m => .inl m) hbL (List.nodup_cons.mpr ⟨n1, n2⟩)) q
  by_cases hjl : j = ws.length
  · rw [if_pos hjl, if_pos (by omega), List.map_append]
    exact Fo.app_sh (ry.upL haL nt) (by rw [Nat.zero_add, hl, ← hjl]; exact hjs) (hfo.upL haL nt n1)
  · rw [if_neg hjl, if_neg (by omega), List.map_set]
    exact Fo.set_sh (ry.upL haL nt) (by rw [Nat.zero_add]; exact hjs) (hfo.upL haL nt n1)
def xFldO (i c j : Nat) (e : GE) : GS := fun D γ => e γ fun y => getS γ i fun x => match x with
  | .ins c' fs => c' = c ∧ setF fs j y fun fs' => setS γ i (some (.ins c' fs')) D.nx
  | _ => False
/-- x.f = e, a shared field -/
theorem xs_fldO (i c j : Nat) {f : Str} {st : Stmt} {e : Expr} {p : GE} (cl : Cls X.K (He.ga X.K (clsT c).1)) (na : NoAttr X.K (He.ga X.K (clsT c).1) f) (pe : ∀ {t : TE}, PE X e t → PS X st (sFld X.K (tVar i) t f)) (h : QE X ks true true e p)
    (hk : ks[i]? = some (.obj w js) := by rfl) (hjs : j ∉ js := by decide) (hf : (clsT c).2[j]? = some f ∧ (clsT c).2.Nodup := by decide +kernel) : QS X ks ks kl st (xFldO i c j p) :=
  PSi (pe h) fun D σ H ⟨E, L, γ, Dp, hK, R, hp, nx, rt, bk, ct⟩ => by
    refine ⟨E, L, γ, _, hK, R, hp, fun y u H1 q1 x1 ry => ?_⟩
    exact fldO_go (T := fun σ' H' => D.nx σ' H') c j cl na hK (R.ex x1) hk hjs hf ry q1 fun γ1 H3 b o hb nt e3 R3 q3 => by
      subst e3
      exact nx L _ _ _ (x1.fw.trans (Fw.upd hb nt)) R3 q3
def xFld3 (i c j1 j2 j3 : Nat) (pa : GA) : GS := fun D γ => pa γ fun xs => match xs with
  | [x, y, z] => xFldO i c j1 (fun _ Q => Q x) { D with nx := xFldO i c j2 (fun _ Q => Q y) { D with nx := xFldO i c j3 (fun _ Q => Q z) D } } γ
  | _ => False
/-- x.f, x.g, x.h = .., shared fields -/
theorem xs_fld3 (i c j1 j2 j3 : Nat) {f1 f2 f3 : Str} {st : Stmt} {es : List Expr} {pa : GA} (cl : Cls X.K (He.ga X.K (clsT c).1)) (na1 : NoAttr X.K (He.ga X.K (clsT c).1) f1) (na2 : NoAttr X.K (He.ga X.K (clsT c).1) f2) (na3 : NoAttr X.K (He.ga X.K (clsT c).1) f3)
    (pe : ∀ {t : TA}, PA X es t → PS X st (tAsg (tTup t) (gTup X.K 3 (gCons (gFldT X.K (tVar i) f1) (gCons (gFldT X.K (tVar i) f2) (gCons (gFldT X.K (tVar i) f3) gNil)))))) (h : QA X ks true true es pa) (hk : ks[i]? = some (.obj w js) := by rfl) (hjs : j1 ∉ js ∧ j2 ∉ js ∧ j3 ∉ js := by decide)
    (hf1 : (clsT c).2[j1]? = some f1 ∧ (clsT c).2.Nodup := by decide +kernel) (hf2 : (clsT c).2[j2]? = some f2 := by decide +kernel) (hf3 : (clsT c).2[j3]? = some f3 := by decide +kernel) : QS X ks ks kl st (xFld3 i c j1 j2 j3 pa) :=
  PSi (pe h) fun D σ H ⟨E, L, γ, Dp, hK, R, hp, nx, rt, bk, ct⟩ => by
    refine ⟨E, L, γ, _, hK, R, hp, fun xs vs H1 q1 x1 r1 l1 => ?_⟩
    obtain ⟨x, y, z, rfl⟩ : ∃ x y z, xs = [x, y, z] := by
      match xs, q1 with
      | [x, y, z], _ => exact ⟨x, y, z, rfl⟩
    obtain ⟨u, v, t, rfl, rx, ry, rz⟩ : ∃ u v t, vs = [u, v, t] ∧ Rp E.B (av E L true true) H1 x u ∧ Rp E.B (av E L true true) H1 y v ∧ Rp E.B (av E L true true) H1 z t := by
      cases r1 with
      | cons rx r2 => cases r2 with
        | cons ry r3 => cases r3 with
          | cons rz r4 => cases r4; exact ⟨_, _, _, rfl, rx, ry, rz⟩
    refine ⟨few (show 3 ≤ 1000 by decide), fun p np => ?_⟩
    have x2 : Ex E.B H1 (upd H1 p (.tup [u, v, t])) := .new np
    have R2 := (R.ex x1).ex x2
    refine ⟨p, [u, v, t], rfl, .inl (.inl upd_same), rfl, _, _, rfl, ?_⟩
    refine fldO_go (T := fun σ' H' => gCons (gFldT X.K (tVar i) f2) (gCons (gFldT X.K (tVar i) f3) gNil) [v, t] σ' H' D.nx) c j1 cl na1 hK R2 hk hjs.1 hf1 (rx.ex x2 av_q) q1 fun γ1 H3 b o hb nt e3 R3 q3 => ?_
    subst e3
    refine ⟨_, _, rfl, ?_⟩
    have rz3 := (rz.ex x2 av_q).upL (o := o) hb nt
    refine fldO_go (T := fun σ' H' => gCons (gFldT X.K (tVar i) f3) gNil [t] σ' H' D.nx) c j2 cl na2 hK R3 hk hjs.2.1 ⟨hf2, hf1.2⟩ ((ry.ex x2 av_q).upL hb nt) q3 fun γ2 H4 b2 o2 hb2 nt2 e4 R4 q4 => ?_
    subst e4
    refine ⟨_, _, rfl, ?_⟩
    refine fldO_go (T := fun σ' H' => gNil [] σ' H' D.nx) c j3 cl na3 hK R4 hk hjs.2.2 ⟨hf3, hf1.2⟩ (rz3.upL hb2 nt2) q4 fun γ3 H5 b3 o3 hb3 nt3 e5 R5 q5 => ?_
    subst e5
    exact ⟨rfl, nx L _ _ _ ((x1.trans x2).fw.trans ((Fw.upd hb nt).trans ((Fw.upd hb2 nt2).trans (Fw.upd hb3 nt3)))) R5 q5⟩
/-- x.f = a new list or dict, an own field -/
theorem xs_fldON (i c j : Nat) {f : Str} {st : Stmt} {e : Expr} {p : GE} (cl : Cls X.K (He.ga X.K (clsT c).1)) (na : NoAttr X.K (He.ga X.K (clsT c).1) f) (pe : ∀ {t : TE}, PE X e t → PS X st (sFld X.K (tVar i) t f)) (h : QN X ks e p)
    (hk : ks[i]? = some (.obj w js) := by rfl) (hjs : j ∈ js := by decide) (hf : (clsT c).2[j]? = some f ∧ (clsT c).2.Nodup := by decide +kernel) : QS X ks ks kl st (xFldO i c j p) :=
  PSi (pe h) fun D σ H ⟨E, L, γ, Dp, hK, R, hp, nx, rt, bk, ct⟩ => by
    refine ⟨E, L, γ, _, hK, R, hp, fun y d H1 q1 x1 nd ob => ?_⟩
    have hd : H1 d ≠ none := by cases y <;> first | exact (ob : False).elim | (obtain ⟨_, h, _⟩ := ob; rw [h]; exact nofun) | (obtain ⟨_, _, h, _⟩ := ob; rw [h]; exact nofun)
    have R1 := R.more x1 nd hd
    obtain ⟨x, hx, q⟩ := getS_of q1
    have nL : d ∉ L := fun z => (R.lf d z).2 nd
    obtain ⟨a, c', fs, ws, dx, bs, rfl, hv, hw, haL, hbL, n1, n2, ha, g2, hfo, up⟩ := R.objAt hk hx
    obtain ⟨rfl, q⟩ := q
    obtain ⟨hj, q⟩ := setF_eq _ _ _ _ q
    rw [setS_eq] at q
    have ha1 := x1.st _ _ ha (R.lq haL)
    have nt : ∀ vs, H1 a ≠ some (.tup vs) := fun vs z => by rw [ha1] at z; cases z
    have hl : fs.length = ws.length := by rw [hfo.len]; simp
    have hr : a ≠ E.B.r := fun z => R.ar (by rw [← z]; exact (R.lf a haL).1)
    have had : a ≠ d := fun z => nL (by rw [← z]; exact haL)
    have hdb : d ∉ bs := fun z => nL (hbL d z)
    have hnn : ws.length < 1000 := by
      have := congrArg List.length g2; simp at this
      have := cls_few c'; omega
    refine ⟨.ref a, hv, a, _, dx, ws, rfl, by rw [← hK]; exact ha1, cl, na, hnn, ?_⟩
    rw [← hK]
    have hp2 := putF_at (v := .ref d) (by rw [← hl]; exact g2) hf.2 hf.1 (by rw [← hl]; exact hj)
    rw [hp2]
    have haL1 : a ∈ d :: L := List.mem_cons_of_mem _ haL
    have hdL1 : d ∈ d :: L := List.mem_cons_self ..
    have g : ∀ b, av E (d :: L) true true b → H b ≠ none → av E L true true b := fun b z n => by
      rcases z with z | ⟨_, z⟩ | ⟨_, z⟩
      · exact .inl z
      · exact .inr (.inl ⟨rfl, z⟩)
      · rcases List.mem_cons.mp z with z | z
        · exact absurd nd (by rw [← z]; exact n)
        · exact .inr (.inr ⟨rfl, z⟩)
    have hfo1 : Fo E.B (av E (d :: L) true true) H1 js 0 fs (ws.map (·.2)) bs := hfo.mv (fun b u e n => x1.st b u e fun z => n (.inl z)) x1.tp g fun b m u e => x1.st b u e (R.lq (hbL b m))
    have obd : Ob E.B (av E (d :: L) true true) H1 d y := ob.mv (fun _ _ h _ => h) (fun _ _ h => h) (fun b z _ => by
      rcases z with z | z | ⟨_, z⟩
      · exact .inl (.inl z)
      · exact .inl (.inr (.inl z))
      · exact (List.mem_cons.mp z).elim .inr fun z => .inl (.inr (.inr ⟨rfl, z⟩))) fun _ h => h
    have upd_fo : ∀ (o : HO) {fs' : List PV} {vs' : List V} {bs' : List Addr}, a ∉ bs' → Fo E.B (av E (d :: L) true true) H1 js 0 fs' vs' bs' → Fo E.B (av E (d :: L) true true) (upd H1 a o) js 0 fs' vs' bs' := fun o {_} {_} {_} n h => Fo.upL h haL1 nt n
    have fin : ∀ (bs' : List Addr), Fo E.B (av E (d :: L) true true) H1 js 0 (if j = fs.length then fs ++ [y] else fs.set j y) ((if j = ws.length then ws ++ [(f, .ref d)] else ws.set j (f, .ref d)).map (·.2)) bs' → (∀ b ∈ bs', b ∈ bs ∨ b = d) → bs'.Nodup → D.nx σ (upd H1 a (.ins (He.ga E.B.K (clsT c').1) dx (if j = ws.length then ws ++ [(f, .ref d)] else ws.set j (f, .ref d)))) := fun bs' h hb hn => by
      have nb : a ∉ bs' := fun z => (hb a z).elim n1 had
      have f2 : Fw E.B L H (d :: L) (upd H1 a (.ins (He.ga E.B.K (clsT c').1) dx (if j = ws.length then ws ++ [(f, .ref d)] else ws.set j (f, .ref d)))) := Fw.trans (.more x1 nd) (.upd haL1 nt)
      refine nx (d :: L) _ _ _ f2 (up (d :: L) _ _ _ bs' f2 (fun _ h => List.mem_cons_of_mem _ h) (fun b m => (List.mem_cons.mp m).elim (fun z => .inr (by rw [z]; exact (R1.lf d (by simp)).1)) .inl) (fun b m => (Fw.upd (B := E.B) haL1 nt).nn b (R1.lf b m).2)
        (fun b u n nq e => by rw [upd_ne (fun z => n (by simp [z]))]; exact x1.st b u e nq) (R1.bag.stay (fun u e => by rw [upd_ne (R.lq haL).symm]; exact e) fun u e => by rw [upd_ne hr.symm]; exact e)
        upd_same (names_put hl g2 hf.1 hj y) (upd_fo _ nb h) (fun b m => (hb b m).imp id fun z => by rw [z]; exact nd) (fun b m => (hb b m).elim (fun z => List.mem_cons_of_mem _ (hbL b z)) fun z => by rw [z]; exact hdL1) (List.nodup_cons.mpr ⟨nb, hn⟩)) q
    by_cases hjl : j = ws.length
    · refine fin (bs ++ [d]) ?_ (fun b m => (List.mem_append.mp m).imp id fun z => by simpa using z) (List.nodup_append.mpr ⟨n2, by simp, fun b m c m' e => hdb (by simp at m'; rw [← m', ← e]; exact m)⟩)
      rw [if_pos hjl, if_pos (by omega), List.map_append]
      exact Fo.app_own obd (by rw [Nat.zero_add, hl, ← hjl]; exact hjs) hfo1
    · obtain ⟨bs', t, t1, t2⟩ := Fo.set_own obd (k := 0) (n := j) (by rw [Nat.zero_add]; exact hjs) (by omega) hfo1
      refine fin bs' ?_ t1 (t2 hdb n2)
      rw [if_neg hjl, if_neg (by omega), List.map_set]
      exact t
end
end Vl
namespace Vl
open PySem PySem.Spec L2 Lb PyProof.Rows
section
variable {E : Ac} {L : List Addr} {ks : List Kd} {γ : G} {σ : L2.St} {H : Hp} {i : Nat} {w : Whr} {js : List Nat} {x : PV}
theorem Rel.updO {j : Nat} {c : Nat} {fs : List PV} {y : PV} (R : Rel E L ks γ σ H) (hk : ks[i]? = some (.obj w js)) (hj : j ∈ js) (hx : γ[i]? = some (some (.ins c fs))) (hy : fs[j]? = some y) : ∃ a d ws dx, σ[i]? = some (some (.ref a)) ∧ a ∈ L ∧ d ∈ L ∧ a ≠ d ∧
    H a = some (.ins (He.ga E.B.K (clsT c).1) dx ws) ∧ ws.map (·.1) = (clsT c).2.take fs.length ∧ (ws.map (·.2))[j]? = some (.ref d) ∧ Ob E.B (av E L true true) H d y ∧
    ∀ o y', Ob E.B (av E L true true) (upd H d o) d y' → Rel E L ks (γ.set i (some (.ins c (fs.set j y')))) σ (upd H d o) := by
  obtain ⟨a, c', fs', ws, dx, bs, e, hv, hw, haL, hbL, n1, n2, ha, g2, hfo, up⟩ := R.objAt hk hx
  cases e
  obtain ⟨d, h1, h2, h3, h4⟩ := Fo.at_own (k := 0) (n := j) (by rw [Nat.zero_add]; exact hj) hy hfo n2
  have hdL := hbL d h2
  have had : a ≠ d := fun z => n1 (by rw [z]; exact h2)
  have nt := h3.nt
  refine ⟨a, d, ws, dx, hv, haL, hdL, had, ha, g2, h1, h3, fun o y' ob' => ?_⟩
  have hr : d ≠ E.B.r := fun z => R.ar (by rw [← z]; exact (R.lf d hdL).1)
  have f1 : Fw E.B L H L (upd H d o) := .upd hdL nt
  exact up L _ _ ws bs f1 (fun _ h => h) (fun _ h => .inl h) (fun b m => f1.nn b (R.lf b m).2) (fun b u n _ e => by rw [upd_ne (fun z => n (by rw [z]; simp [h2]))]; exact e) (R.bag.stay (fun u e => by rw [upd_ne (R.lq hdL).symm]; exact e) fun u e => by rw [upd_ne hr.symm]; exact e)
    (by rw [upd_ne had]; exact ha) (by rw [List.length_set]; exact g2) (h4 _ _ y' (fun x v r => r.upL hdL nt) (fun b x n ob => ob.mv (fun p u e z => by rw [upd_ne (fun q => z (by rw [q]; exact .inr (.inr ⟨rfl, hdL⟩)))]; exact e) (fun p u e => by rw [upd_ne (fun q => nt u (by rw [← q]; exact e))]; exact e) (fun _ z _ => z) fun u e => by rw [upd_ne n]; exact e) ob')
    (fun b m => .inl m) hbL (List.nodup_cons.mpr ⟨n1, n2⟩)
end
section
variable {X : Cx} {ks kl : List Kd} {w : Whr} {js : List Nat} {i : Nat} {a s : Bool}
/-- x.f[keys] = e -/
def xSetDO (i c j : Nat) (t : GA) (e : GE) : GS := fun D γ => e γ fun y => getS γ i fun x => match x with
  | .ins c' fs => c' = c ∧ getS (fs.map some) j fun d => t γ fun xs => (match d with
    | .dT kvs => (match keysOf xs with | some k => kvs.length < sizeLine ∧ setL fs j (.dT (putP kvs k y)) fun fs' => setS γ i (some (.ins c' fs')) D.nx | none => False)
    | _ => False)
  | _ => False
theorem xs_setDO (i c j : Nat) {f : Str} {st : Stmt} {e : Expr} {es : List Expr} {p : GE} {pa : GA} (cl : Cls X.K (He.ga X.K (clsT c).1)) (na : NoAttr X.K (He.ga X.K (clsT c).1) f) (pe : ∀ {t : TE} {t' : TA}, PE X e t → PA X es t' → PS X st (tAsg t (gSub (tFld X.K (tVar i) f) (tTup t') rSetD))) (h : QE X ks true true e p) (h3 : QA X ks a s es pa) (hn : es.length ≤ 1000 := by decide)
    (hk : ks[i]? = some (.obj w js) := by rfl) (hjs : j ∈ js := by decide) (hf : (clsT c).2[j]? = some f ∧ ((clsT c).2.take j).all (fun g => !decide (g = f)) = true := by decide +kernel) : QS X ks ks kl st (xSetDO i c j pa p) :=
  PSi (pe h h3) fun D σ H ⟨E, L, γ, Dp, hK, R, hp, nx, rt, bk, ct⟩ => by
    refine ⟨E, L, γ, _, hK, R, hp, fun y u H1 q1 x1 ry => ?_⟩
    obtain ⟨x, hx, q⟩ := getS_of q1
    have R1 := R.ex x1
    cases x <;> first | exact (q : False).elim | skip
    rename_i c' fs
    obtain ⟨rfl, q⟩ := q
    obtain ⟨y0, hy, q⟩ := getS_map q
    obtain ⟨b, d, ws, dx, hv, hbL, hdL, hbd, hb, g2, hd, ob, _⟩ := R1.updO hk hjs hx hy
    have f2 := fldn hf
    have hj : j < fs.length := (List.getElem?_eq_some_iff.mp hy).1
    refine ⟨.ref b, hv, b, _, dx, ws, .ref d, rfl, by rw [← hK]; exact hb, cl, na, lookup_at (j := j) g2 (by rw [List.getElem?_take, if_pos hj]; exact hf.1) (fun i hi => by rw [List.getElem?_take, if_pos (by omega)]; exact f2 i hi) hd, ?_⟩
    refine ⟨E, L, γ, _, hK, R1, q, fun xs vs H2 q2 x2 r2 l2 => ⟨by rw [← r2.length, l2]; exact few hn, fun t nt' => ?_⟩⟩
    have x3 : Ex E.B H2 (upd H2 t (.tup vs)) := .new nt'
    have R3 := (R1.ex x2).ex x3
    obtain ⟨b', d', ws', dx', hv', hbL', hdL', hbd', hb', g2', hd', ob', up⟩ := R3.updO hk hjs hx hy
    rw [hv] at hv'; cases hv'
    have hb2 : (upd H2 t (.tup vs)) b = some (.ins (He.ga E.B.K (clsT c').1) dx ws) := (x2.trans x3).st b _ hb (R1.lq hbL)
    rw [hb2] at hb'; cases hb'
    rw [hd] at hd'; cases hd'
    cases y0 <;> first | exact (q2 : False).elim | skip
    rename_i kvs
    obtain ⟨ws2, k1, k2, k3⟩ := ob'
    have q3 : (match keysOf xs with | some k => kvs.length < sizeLine ∧ setL fs j (.dT (putP kvs k y)) (fun fs' => setS γ i (some (.ins c' fs')) Dp.nx) | none => False) := q2
    cases hyk : keysOf xs with
    | none => rw [hyk] at q3; exact q3.elim
    | some kk =>
      rw [hyk] at q3
      obtain ⟨q4, q5⟩ := q3
      rw [setL_eq, setS_eq] at q5
      have ek := keys_rp r2 hyk
      have nt : ∀ vs', (upd H2 t (.tup vs)) d ≠ some (.tup vs') := fun z => by rw [k1]; exact nofun
      have hl : kvs.length = ws2.length := by have := congrArg List.length k2; simpa using this
      refine ⟨d, _, rfl, DPut.t (k := kk) k1 (by rw [upd_same, ek]) (by rw [← hl]; exact q4), ?_⟩
      have ryy : Rp E.B (av E L true true) (upd H2 t (.tup vs)) y u := (ry.ex x2 av_q).ex x3 av_q
      have pr := put_rp (k := kk) (ryy.upL (o := .dT (putK ws2 kk u)) hdL nt) k2 (k3.upL (o := .dT (putK ws2 kk u)) hdL nt)
      exact nx L _ _ _ (Fw.trans (x1.trans (x2.trans x3)).fw (.upd hdL nt)) (up _ (.dT (putP kvs kk y)) ⟨_, upd_same, pr.1, pr.2⟩) q5
end
end Vl
namespace Vl
open PySem PySem.Spec L2 Lb PyProof.Rows
inductive Lk where
  | own | obj (js : List Nat)
def Lk.at_ (t : Lk) (a : Addr) : Kd := match t with
  | .own => .ownA a
  | .obj js => .obj (.at_ a) js
def Kd.lk : Kd → Option Lk
  | .own => some .own
  | .ownA _ => some .own
  | .obj _ js => some (.obj js)
  | _ => none
section
variable {E E' : Ac} {L L' O O' : List Addr} {H H' : Hp} {k : Kd} {t : Lk} {x y : PV} {v : V} {a : Addr}
theorem Ob.care {B : Bg} {A A' : Addr → Prop} {H : Hp} {a : Addr} {x : PV} (g : ∀ z, A' z → H z ≠ none → A z) (h : Ob B A H a x) : Ob B A' H a x := h.mv (fun _ _ h _ => h) (fun _ _ h => h) g fun _ h => h
theorem Fo.care {B : Bg} {A A' : Addr → Prop} {H : Hp} {js : List Nat} {k : Nat} {xs : List PV} {vs : List V} {bs : List Addr} (g : ∀ z, A' z → H z ≠ none → A z) (h : Fo B A H js k xs vs bs) : Fo B A' H js k xs vs bs := h.mv (fun _ _ h _ => h) (fun _ _ h => h) g fun _ _ _ h => h
theorem Kr.lend (hB : E'.B = E.B) (g : ∀ z, av E' L' true true z → H z ≠ none → av E L true true z) (hk : k.lk = some t) (h : Kr E L H k x v O) : ∃ a, v = .ref a ∧ Kr E' L' H (t.at_ a) x v O := by
  cases k <;> cases hk
  · obtain ⟨a, rfl, rfl, h⟩ := h
    refine ⟨a, rfl, rfl, rfl, ?_⟩
    rw [hB]; exact h.care g
  · obtain ⟨a, c, fs, ws, dx, bs, rfl, rfl, rfl, _, h1, h2, h3⟩ := h
    refine ⟨a, rfl, a, c, fs, ws, dx, bs, rfl, rfl, rfl, rfl, ?_, h2, ?_⟩
    · rw [hB]; exact h1
    · rw [hB]; exact h3.care g
  · rename_i b
    obtain ⟨rfl, rfl, h⟩ := h
    refine ⟨b, rfl, rfl, rfl, ?_⟩
    rw [hB]; exact h.care g
theorem Kr.unlend (hB : E'.B = E.B) (g : ∀ z, av E L true true z → H' z ≠ none → av E' L' true true z) {L0 : List Addr} (hk : k.lk = some t) (h0 : Kr E L0 H k x (.ref a) O) (h : Kr E' L' H' (t.at_ a) y v O') : v = .ref a ∧ Kr E L H' k y v O' := by
  cases k <;> cases hk
  · obtain ⟨rfl, rfl, h⟩ := h
    refine ⟨rfl, a, rfl, rfl, ?_⟩
    rw [hB] at h; exact h.care g
  · obtain ⟨a0, c0, fs0, ws0, dx0, bs0, e1, e2, e3, hw, _⟩ := h0
    obtain ⟨b, c, fs, ws, dx, bs, rfl, rfl, rfl, e4, h1, h2, h3⟩ := h
    cases e2
    have e4 : b = a := e4
    subst e4
    refine ⟨rfl, b, c, fs, ws, dx, bs, rfl, rfl, rfl, hw, ?_, h2, ?_⟩
    · rw [hB] at h1; exact h1
    · rw [hB] at h3; exact h3.care g
  · obtain ⟨e1, _, _⟩ := h0
    cases e1
    obtain ⟨rfl, rfl, h⟩ := h
    refine ⟨rfl, rfl, rfl, ?_⟩
    rw [hB] at h; exact h.care g
end
/-- the arguments of a call: own slots lent, or values -/
inductive LArg (E : Ac) (L : List Addr) (ks : List Kd) (γ : G) (σ : L2.St) (H : Hp) : List (Option (Nat × Lk)) → List PV → List V → Prop
  | nil : LArg E L ks γ σ H [] [] []
  | lend {i : Nat} {t : Lk} {k : Kd} {x : PV} {v : V} {la : List (Option (Nat × Lk))} {xs : List PV} {vs : List V} : ks[i]? = some k → k.lk = some t → γ[i]? = some (some x) → σ[i]? = some (some v) → LArg E L ks γ σ H la xs vs → LArg E L ks γ σ H (some (i, t) :: la) (x :: xs) (v :: vs)
  | val {x : PV} {v : V} {la : List (Option (Nat × Lk))} {xs : List PV} {vs : List V} : Rp E.B (av E L true true) H x v → LArg E L ks γ σ H la xs vs → LArg E L ks γ σ H (none :: la) (x :: xs) (v :: vs)
def tkinds : List (Option Lk) → List V → List Kd
  | some t :: r, .ref a :: vs => t.at_ a :: tkinds r vs
  | _ :: r, _ :: vs => .sh :: tkinds r vs
  | _, _ => []
def lts (la : List (Option (Nat × Lk))) : List (Option Lk) := la.map (·.map (·.2))
section
variable {E : Ac} {L : List Addr} {ks : List Kd} {γ : G} {σ : L2.St} {H : Hp} {la : List (Option (Nat × Lk))} {xs : List PV} {vs : List V}
theorem LArg.ex {H' : Hp} (e : Ex E.B H H') (h : LArg E L ks γ σ H la xs vs) : LArg E L ks γ σ H' la xs vs := by
  induction h with
  | nil => exact .nil
  | lend a b c d _ ih => exact .lend a b c d ih
  | val r _ ih => exact .val (r.ex e av_q) ih
theorem LArg.len (h : LArg E L ks γ σ H la xs vs) : xs.length = la.length ∧ vs.length = la.length := by
  induction h with
  | nil => exact ⟨rfl, rfl⟩
  | lend a b c d _ ih => exact ⟨by simp [ih.1], by simp [ih.2]⟩
  | val r _ ih => exact ⟨by simp [ih.1], by simp [ih.2]⟩
theorem LArg.get (h : LArg E L ks γ σ H la xs vs) : ∀ {j : Nat} {x : PV}, xs[j]? = some x → (∃ i t k v, la[j]? = some (some (i, t)) ∧ ks[i]? = some k ∧ k.lk = some t ∧ γ[i]? = some (some x) ∧ σ[i]? = some (some v) ∧ vs[j]? = some v) ∨ (la[j]? = some none ∧ ∃ v, vs[j]? = some v ∧ Rp E.B (av E L true true) H x v) := by
  induction h with
  | nil => intro j x e; simp at e
  | lend a b c d _ ih =>
    intro j x e
    cases j with
    | zero => simp at e; subst e; exact .inl ⟨_, _, _, _, rfl, a, b, c, d, rfl⟩
    | succ j => simpa using ih (j := j) (by simpa using e)
  | val r _ ih =>
    intro j x e
    cases j with
    | zero => simp at e; subst e; exact .inr ⟨rfl, _, rfl, r⟩
    | succ j => simpa using ih (j := j) (by simpa using e)
theorem tkinds_at : ∀ {ts : List (Option Lk)} {vs : List V} {j : Nat} {t : Lk} {a : Addr}, ts[j]? = some (some t) → vs[j]? = some (.ref a) → (tkinds ts vs)[j]? = some (t.at_ a)
  | [], _, _, _, _, h, _ => by simp at h
  | _ :: _, [], _, _, _, _, h => by simp at h
  | some t0 :: ts, v :: vs, 0, t, a, h, h2 => by
    simp at h h2; subst h; subst h2; rfl
  | none :: ts, v :: vs, 0, t, a, h, h2 => by simp at h
  | some t0 :: ts, v :: vs, j + 1, t, a, h, h2 => by
    have := tkinds_at (ts := ts) (vs := vs) (j := j) (by simpa using h) (by simpa using h2)
    cases v <;> simpa [tkinds] using this
  | none :: ts, v :: vs, j + 1, t, a, h, h2 => by
    have := tkinds_at (ts := ts) (vs := vs) (j := j) (by simpa using h) (by simpa using h2)
    simpa [tkinds] using this
theorem tkinds_no : ∀ {ts : List (Option Lk)} {vs : List V} {j : Nat} {v : V}, ts[j]? = some none → vs[j]? = some v → (tkinds ts vs)[j]? = some .sh
  | [], _, _, _, h, _ => by simp at h
  | _ :: _, [], _, _, _, h => by simp at h
  | some t0 :: ts, v :: vs, 0, _, h, h2 => by simp at h
  | none :: ts, v :: vs, 0, _, h, h2 => by rfl
  | some t0 :: ts, v :: vs, j + 1, _, h, h2 => by
    have := tkinds_no (ts := ts) (vs := vs) (j := j) (by simpa using h) (by simpa using h2)
    cases v <;> simpa [tkinds] using this
  | none :: ts, v :: vs, j + 1, _, h, h2 => by
    have := tkinds_no (ts := ts) (vs := vs) (j := j) (by simpa using h) (by simpa using h2)
    simpa [tkinds] using this
/-- the slots of the lent ones, each with the place of its argument -/
def lpairs : Nat → List (Option (Nat × Lk)) → List (Nat × Nat)
  | _, [] => []
  | n, some (i, _) :: r => (i, n) :: lpairs (n + 1) r
  | n, none :: r => lpairs (n + 1) r
theorem lpairs_mem : ∀ {n : Nat} {la : List (Option (Nat × Lk))} {i j : Nat}, (i, j) ∈ lpairs n la ↔ ∃ m t, j = n + m ∧ la[m]? = some (some (i, t))
  | _, [], _, _ => by simp [lpairs]
  | n, some (i0, t0) :: r, i, j => by
    simp only [lpairs, List.mem_cons, Prod.mk.injEq]
    rw [lpairs_mem (n := n + 1) (la := r)]
    constructor
    · rintro (⟨rfl, rfl⟩ | ⟨m, t, rfl, h⟩)
      · exact ⟨0, t0, rfl, rfl⟩
      · exact ⟨m + 1, t, by omega, by simpa using h⟩
    · rintro ⟨m, t, rfl, h⟩
      cases m with
      | zero => simp at h; exact .inl ⟨h.1.symm, rfl⟩
      | succ m => exact .inr ⟨m, t, by omega, by simpa using h⟩
  | n, none :: r, i, j => by
    simp only [lpairs]
    rw [lpairs_mem (n := n + 1) (la := r)]
    constructor
    · rintro ⟨m, t, rfl, h⟩
      exact ⟨m + 1, t, by omega, by simpa using h⟩
    · rintro ⟨m, t, rfl, h⟩
      cases m with
      | zero => simp at h
      | succ m => exact ⟨m, t, by omega, by simpa using h⟩
/-- what a def has made of the lent objects, put back into the slots -/
def lendF (γ γ' : G) : List (Nat × Nat) → G
  | [] => γ
  | (i, j) :: r => lendF (γ.set i (γ'.getD j none)) γ' r
theorem lendF_len {γ' : G} : ∀ {S : List (Nat × Nat)} {γ : G}, (lendF γ γ' S).length = γ.length
  | [], _ => rfl
  | (i, j) :: r, γ => by rw [lendF, lendF_len, List.length_set]
theorem lendF_ne {γ' : G} {m : Nat} : ∀ {S : List (Nat × Nat)} {γ : G}, (∀ j, (m, j) ∉ S) → (lendF γ γ' S)[m]? = γ[m]?
  | [], _, _ => rfl
  | (i, j) :: r, γ, h => by
    rw [lendF, lendF_ne fun j' z => h j' (by simp [z]), List.getElem?_set_ne (fun z => h j (by simp [z]))]
theorem lendF_at {γ' : G} {i j : Nat} : ∀ {S : List (Nat × Nat)} {γ : G}, (S.map (·.1)).Nodup → (i, j) ∈ S → i < γ.length → (lendF γ γ' S)[i]? = some (γ'.getD j none)
  | [], _, _, h, _ => by simp at h
  | (i0, j0) :: r, γ, nd, h, hi => by
    simp only [List.map_cons, List.nodup_cons] at nd
    rw [lendF]
    rcases List.mem_cons.mp h with z | z
    · cases z
      rw [lendF_ne (fun j' q => nd.1 (List.mem_map.mpr ⟨_, q, rfl⟩)), List.getElem?_set_self hi]
    · exact lendF_at nd.2 z (by rw [List.length_set]; exact hi)
end
end Vl
namespace Vl
open PySem PySem.Spec L2 Lb PyProof.Rows
section
variable {E : Ac} {L : List Addr} {ks : List Kd} {γ : G} {σ : L2.St} {H : Hp} {la : List (Option (Nat × Lk))} {xs : List PV} {vs : List V}
theorem lts_at {j i : Nat} {t : Lk} (h : la[j]? = some (some (i, t))) : (lts la)[j]? = some (some t) := by unfold lts; rw [List.getElem?_map, h]; rfl
theorem lts_no {j : Nat} (h : la[j]? = some none) : (lts la)[j]? = some none := by unfold lts; rw [List.getElem?_map, h]; rfl
theorem some_get {l : List PV} {j : Nat} {x : PV} (h : (l.map some)[j]? = some (some x)) : l[j]? = some x := by
  rw [List.getElem?_map] at h
  cases e : l[j]? with
  | none => rw [e] at h; cases h
  | some y => rw [e] at h; simp at h; rw [h]
theorem Rel.lend (R : Rel E L ks γ σ H) (ha : LArg E L ks γ σ H la xs vs) (nd : ((lpairs 0 la).map (·.1)).Nodup) :
    ∃ (E' : Ac) (Ln : List Addr), E'.B = E.B ∧ Rel E' Ln (tkinds (lts la) vs) (xs.map some) (vs.map some) H ∧ (∀ (j i : Nat) (t : Lk), la[j]? = some (some (i, t)) → ∃ a : Addr, vs[j]? = some (V.ref a)) ∧
      ∀ (L' : List Addr) (ks' : List Kd) (γ' : G) (σ' : L2.St) (H' : Hp), Fw E.B Ln H L' H' → Rel E' L' ks' γ' σ' H' → (∀ (j i : Nat) (t : Lk), la[j]? = some (some (i, t)) → ks'[j]? = (tkinds (lts la) vs)[j]?) → (∀ (j i : Nat) (t : Lk), la[j]? = some (some (i, t)) → ∃ y : PV, γ'[j]? = some (some y)) →
        ∃ L1, Fw E.B L H L1 H' ∧ Rel E L1 ks (lendF γ γ' (lpairs 0 la)) σ H' ∧ ∀ x v, Rp E.B (av E' L' true true) H' x v → Rp E.B (av E L1 true true) H' x v := by
  obtain ⟨O, s1, s2, s3, s4⟩ := R.sl
  obtain ⟨Ln, hLn⟩ : ∃ Ln, ((lpairs 0 la).map (·.1)).flatMap O = Ln := ⟨_, rfl⟩
  have mLn : ∀ z, z ∈ Ln ↔ ∃ (j i : Nat) (t : Lk), la[j]? = some (some (i, t)) ∧ z ∈ O i := fun z => by
    rw [← hLn]
    simp only [List.mem_flatMap, List.mem_map]
    constructor
    · rintro ⟨i, ⟨⟨i', j⟩, hm, rfl⟩, hz⟩
      obtain ⟨m, t, _, h⟩ := lpairs_mem.mp hm
      exact ⟨m, _, t, h, hz⟩
    · rintro ⟨j, i, t, h, hz⟩
      exact ⟨i, ⟨(i, j), lpairs_mem.mpr ⟨j, t, by omega, h⟩, rfl⟩, hz⟩
  have LnL : ∀ z, z ∈ Ln → z ∈ L := fun z h => by
    obtain ⟨j, i, t, _, hz⟩ := (mLn z).mp h
    exact s2 i z hz
  have qn : E.B.q ∉ Ln := fun z => R.lq (LnL _ z) rfl
  have rn : E.B.r ∉ Ln := fun z => R.ar (R.lf _ (LnL _ z)).1
  have e0n : ∀ z, E.H0 z ≠ none → z ∉ Ln := fun z h m => h (R.lf z (LnL z m)).1
  have a0n : ∀ z, E.A0 z → z ∉ Ln := fun z h => e0n z (R.a0 z h)
  obtain ⟨H0', hH0⟩ : ∃ H0' : Hp, H0' = fun z => if z ∈ Ln then none else H z := ⟨_, rfl⟩
  have h0in : ∀ z, z ∈ Ln → H0' z = none := fun z m => by rw [hH0]; exact if_pos m
  have h0out : ∀ z, z ∉ Ln → H0' z = H z := fun z m => by rw [hH0]; exact if_neg m
  obtain ⟨E', hE⟩ : ∃ E' : Ac, E' = ⟨E.B, fun z => av E L true true z ∧ z ∉ Ln, H0', 0⟩ := ⟨_, rfl⟩
  have eB : E'.B = E.B := by rw [hE]
  have eA : ∀ z, E'.A0 z ↔ av E L true true z ∧ z ∉ Ln := fun z => by rw [hE]
  have eH : E'.H0 = H0' := by rw [hE]
  -- which argument a slot is
  have one : ∀ {j j' i : Nat} {t t' : Lk}, la[j]? = some (some (i, t)) → la[j']? = some (some (i, t')) → j = j' := by
    intro j j' i t t' h h'
    have m1 : (i, j) ∈ lpairs 0 la := lpairs_mem.mpr ⟨j, t, by omega, h⟩
    have m2 : (i, j') ∈ lpairs 0 la := lpairs_mem.mpr ⟨j', t', by omega, h'⟩
    have : ∀ {S : List (Nat × Nat)}, (S.map (·.1)).Nodup → (i, j) ∈ S → (i, j') ∈ S → j = j' := by
      intro S
      induction S with
      | nil => intro _ h; simp at h
      | cons p S ih =>
        intro nd h h'
        simp only [List.map_cons, List.nodup_cons] at nd
        rcases List.mem_cons.mp h with z | z <;> rcases List.mem_cons.mp h' with z' | z'
        · rw [← z] at z'; exact (Prod.mk.inj z').2.symm
        · exact absurd (List.mem_map.mpr ⟨_, z', by rw [← z]⟩) nd.1
        · exact absurd (List.mem_map.mpr ⟨_, z, by rw [← z']⟩) nd.1
        · exact ih nd.2 z z'
    exact this nd m1 m2
  have gIn : ∀ z, av E' Ln true true z → H z ≠ none → av E L true true z := fun z h _ => by
    rcases h with h | ⟨_, h⟩ | ⟨_, h⟩
    · rw [eB] at h; exact .inl h
    · exact ((eA z).mp h).1
    · exact .inr (.inr ⟨rfl, LnL z h⟩)
  refine ⟨E', Ln, eB, ?_, fun j i t h => ?_, fun L' ks' γ' σ' H' f R' hk' hy' => ?_⟩
  · refine ⟨fun a o h _ => ?_, fun a h => ?_, by rw [eB]; exact R.bag, fun a h => ?_, ?_, ?_, fun a m => ?_, by simp [ha.len.1, ha.len.2], ?_⟩
    · rw [eH] at h
      by_cases m : a ∈ Ln
      · rw [h0in a m] at h; cases h
      · rw [h0out a m] at h; exact h
    · rw [eH] at h
      by_cases m : a ∈ Ln
      · exact absurd (h0in a m) h
      · rw [h0out a m] at h; exact h
    · obtain ⟨h1, h2⟩ := (eA a).mp h
      rw [eH, h0out a h2]
      exact av_nn R h1
    · rw [eB]; exact (eA _).mpr ⟨av_q, qn⟩
    · rw [eB, eH, h0out _ rn]; exact R.onn _ R.ar
    · exact ⟨by rw [eH]; exact h0in a m, (R.lf a (LnL a m)).2⟩
    · obtain ⟨oA, oA1, oA2⟩ : ∃ oA : Nat → List Addr, (∀ (j i : Nat) (t : Lk), la[j]? = some (some (i, t)) → oA j = O i) ∧ ∀ (j : Nat) (a : Addr), a ∈ oA j → ∃ (i : Nat) (t : Lk), la[j]? = some (some (i, t)) := by
        refine ⟨fun j => match la[j]? with | some (some (i, _)) => O i | _ => [], fun j i t h => by simp only [h], fun j a m => ?_⟩
        have m : a ∈ (match la[j]? with | some (some (i, _)) => O i | _ => []) := m
        cases e : la[j]? with
        | none => rw [e] at m; simp at m
        | some y =>
          cases y with
          | none => rw [e] at m; simp at m
          | some p => exact ⟨p.1, p.2, rfl⟩
      refine ⟨oA, fun j x hx => ?_, fun j a m => ?_, fun j j' a m m' => ?_, fun j => ?_⟩
      · rcases ha.get (some_get hx) with ⟨i, t, k, v, hl, hk, ht, hg, hs, hv⟩ | ⟨hl, v, hv, rv⟩
        · obtain ⟨v', hv', kr⟩ := s1 i x hg
          rw [hs] at hv'; cases hv'
          rw [getElem?_kd hk] at kr
          obtain ⟨a, rfl, kr'⟩ := kr.lend (E' := E') (L' := Ln) eB gIn ht
          refine ⟨.ref a, by rw [List.getElem?_map, hv]; rfl, ?_⟩
          rw [getElem?_kd (tkinds_at (lts_at hl) hv), oA1 j i t hl]
          exact kr'
        · refine ⟨v, by rw [List.getElem?_map, hv]; rfl, ?_⟩
          rw [getElem?_kd (tkinds_no (lts_no hl) hv)]
          refine ⟨List.eq_nil_iff_forall_not_mem.mpr fun a m => ?_, ?_⟩
          · obtain ⟨i, t, h⟩ := oA2 j a m
            rw [hl] at h; cases h
          · rw [eB]
            exact rv.mv (fun _ _ h _ => h) (fun _ _ h => h) gIn
      · obtain ⟨i, t, hl⟩ := oA2 j a m
        rw [oA1 j i t hl] at m
        exact (mLn a).mpr ⟨j, i, t, hl, m⟩
      · obtain ⟨i, t, hl⟩ := oA2 j a m
        obtain ⟨i', t', hl'⟩ := oA2 j' a m'
        rw [oA1 j i t hl] at m
        rw [oA1 j' i' t' hl'] at m'
        have := s3 i i' a m m'
        subst this
        exact one hl hl'
      · by_cases h : ∃ a, a ∈ oA j
        · obtain ⟨a, m⟩ := h
          obtain ⟨i, t, hl⟩ := oA2 j a m
          rw [oA1 j i t hl]; exact s4 i
        · have : oA j = [] := List.eq_nil_iff_forall_not_mem.mpr fun a m => h ⟨a, m⟩
          rw [this]; exact List.nodup_nil
  · have : ∃ x, xs[j]? = some x := by
      have hj : j < la.length := (List.getElem?_eq_some_iff.mp h).1
      rw [← ha.len.1] at hj
      exact ⟨_, List.getElem?_eq_getElem hj⟩
    obtain ⟨x, hx⟩ := this
    rcases ha.get hx with ⟨i', t', k, v, hl, hk, ht, hg, hs, hv⟩ | ⟨hl, _⟩
    · obtain ⟨v', hv', kr⟩ := s1 i' x hg
      rw [hs] at hv'; cases hv'
      rw [getElem?_kd hk] at kr
      obtain ⟨a, rfl, _⟩ := kr.lend (E' := E') (L' := Ln) eB gIn ht
      exact ⟨a, hv⟩
    · rw [h] at hl; cases hl
  · obtain ⟨O', r1, r2, r3, r4⟩ := R'.sl
    obtain ⟨Lo, hLo⟩ : ∃ Lo, (L.filter (fun z => !decide (z ∈ Ln))) = Lo := ⟨_, rfl⟩
    have mLo : ∀ z, z ∈ Lo ↔ z ∈ L ∧ z ∉ Ln := fun z => by rw [← hLo]; simp [List.mem_filter]
    obtain ⟨Lr, hLr⟩ : ∃ Lr, ((lpairs 0 la).map (·.2)).flatMap O' = Lr := ⟨_, rfl⟩
    have mLr : ∀ z, z ∈ Lr ↔ ∃ (j i : Nat) (t : Lk), la[j]? = some (some (i, t)) ∧ z ∈ O' j := fun z => by
      rw [← hLr]
      simp only [List.mem_flatMap, List.mem_map]
      constructor
      · rintro ⟨j, ⟨⟨i, j'⟩, hm, rfl⟩, hz⟩
        obtain ⟨m, t, e, h⟩ := lpairs_mem.mp hm
        have e : j' = m := by omega
        subst e
        exact ⟨_, i, t, h, hz⟩
      · rintro ⟨j, i, t, h, hz⟩
        exact ⟨j, ⟨(i, j), lpairs_mem.mpr ⟨j, t, by omega, h⟩, rfl⟩, hz⟩
    have LrL' : ∀ z, z ∈ Lr → z ∈ L' := fun z m => by
      obtain ⟨j, i, t, _, hz⟩ := (mLr z).mp m
      exact r2 j z hz
    have stay : ∀ z o, H z = some o → z ∉ Ln → z ≠ E.B.q → H' z = some o := fun z o e n m => f.st z o e n m
    have nnLo : ∀ z, z ∈ Lo → H' z ≠ none := fun z m => f.nn z (R.lf z ((mLo z).mp m).1).2
    have Lr0 : ∀ z, z ∈ Lr → z ∈ Ln ∨ H z = none := fun z m => f.ls z (LrL' z m)
    have Lr00 : ∀ z, z ∈ Lr → E.H0 z = none := fun z m => (Lr0 z m).elim (fun m => (R.lf z (LnL z m)).1) fun e => Classical.byContradiction fun n => R.onn z n e
    have f1 : Fw E.B L H (Lo ++ Lr) H' := ⟨fun z o e n m => stay z o e (fun q => n (LnL z q)) m, f.tp, f.nn, fun z m => (List.mem_append.mp m).elim (fun m => .inl ((mLo z).mp m).1) fun m => (Lr0 z m).imp (LnL z) id⟩
    have gOut : ∀ z, av E (Lo ++ Lr) true true z → H' z ≠ none → av E' L' true true z := fun z h _ => by
      rcases h with h | ⟨_, h⟩ | ⟨_, h⟩
      · left; rw [eB]; exact h
      · exact .inr (.inl ⟨rfl, (eA z).mpr ⟨.inr (.inl ⟨rfl, h⟩), a0n z h⟩⟩)
      · rcases List.mem_append.mp h with m | m
        · obtain ⟨m1, m2⟩ := (mLo z).mp m
          exact .inr (.inl ⟨rfl, (eA z).mpr ⟨.inr (.inr ⟨rfl, m1⟩), m2⟩⟩)
        · exact .inr (.inr ⟨rfl, LrL' z m⟩)
    refine ⟨Lo ++ Lr, f1, ⟨fun z o e n => stay z o (R.old z o e n) (e0n z (by rw [e]; exact nofun)) n, fun z h => f.nn z (R.onn z h), by rw [← eB]; exact R'.bag, R.a0, R.aq, R.ar, fun z m => (List.mem_append.mp m).elim (fun m => ⟨(R.lf z ((mLo z).mp m).1).1, nnLo z m⟩) fun m => ⟨Lr00 z m, (R'.lf z (LrL' z m)).2⟩, by rw [lendF_len]; exact R.len, ?_⟩, fun x v r => r.mv (fun _ _ h _ => h) (fun _ _ h => h) gOut⟩
    have disj : ∀ (i j : Nat) (a : Addr), (∀ (jj : Nat) (t : Lk), la[jj]? ≠ some (some (i, t))) → a ∈ O i → (∃ (i' : Nat) (t : Lk), la[j]? = some (some (i', t))) → a ∈ O' j → False := fun i j a hn ho ⟨i', t, hl⟩ ho' => by
      rcases Lr0 a ((mLr a).mpr ⟨j, i', t, hl, ho'⟩) with m | m
      · obtain ⟨jj, i2, t2, hl2, ho2⟩ := (mLn a).mp m
        have := s3 i i2 a ho ho2
        subst this
        exact hn jj t2 hl2
      · exact (R.lf a (s2 i a ho)).2 m
    have dec : ∀ i : Nat, (∃ (j : Nat) (t : Lk), la[j]? = some (some (i, t))) ∨ ∀ (j : Nat) (t : Lk), la[j]? ≠ some (some (i, t)) := fun i => by
      by_cases h : ∃ (j : Nat) (t : Lk), la[j]? = some (some (i, t))
      · exact .inl h
      · exact .inr fun j t e => h ⟨j, t, e⟩
    have ex : ∀ i : Nat, ∃ o : List Addr, (∀ (j : Nat) (t : Lk), la[j]? = some (some (i, t)) → o = O' j) ∧ ((∀ (j : Nat) (t : Lk), la[j]? ≠ some (some (i, t))) → o = O i) := fun i => by
      rcases dec i with ⟨j, t, h⟩ | h
      · exact ⟨O' j, fun j' t' h' => by rw [one h h'], fun n => absurd h (n j t)⟩
      · exact ⟨O i, fun j t e => absurd e (h j t), fun _ => rfl⟩
    obtain ⟨O1, ho1⟩ : ∃ O1 : Nat → List Addr, ∀ i : Nat, (∀ (j : Nat) (t : Lk), la[j]? = some (some (i, t)) → O1 i = O' j) ∧ ((∀ (j : Nat) (t : Lk), la[j]? ≠ some (some (i, t))) → O1 i = O i) :=
      ⟨fun i => Classical.choose (ex i), fun i => Classical.choose_spec (ex i)⟩
    refine ⟨O1, fun i x hx => ?_, fun i a m => ?_, fun i i' a m m' => ?_, fun i => ?_⟩
    · rcases dec i with ⟨j, t, hl⟩ | hn
      · have hm : (i, j) ∈ lpairs 0 la := lpairs_mem.mpr ⟨j, t, by omega, hl⟩
        have hi : i < γ.length := by
          have := (List.getElem?_eq_some_iff.mp hx).1
          rw [lendF_len] at this; exact this
        rw [lendF_at nd hm hi] at hx
        obtain ⟨y, hy⟩ := hy' j i t hl
        have : γ'.getD j none = some y := by simp [List.getD, hy]
        rw [this] at hx
        cases hx
        -- the slot ahead of the call
        have : ∃ x0, xs[j]? = some x0 := by
          have hj : j < la.length := (List.getElem?_eq_some_iff.mp hl).1
          rw [← ha.len.1] at hj
          exact ⟨_, List.getElem?_eq_getElem hj⟩
        obtain ⟨x0, hx0⟩ := this
        rcases ha.get hx0 with ⟨i2, t2, k, v, hl2, hk, ht, hg, hs, hv⟩ | ⟨hl2, _⟩
        · rw [hl] at hl2; cases hl2
          obtain ⟨v', hv', kr⟩ := s1 i x0 hg
          rw [hs] at hv'; cases hv'
          rw [getElem?_kd hk] at kr
          obtain ⟨a, ea, _⟩ := kr.lend (E' := E') (L' := Ln) eB gIn ht
          subst ea
          obtain ⟨u, hu, kr'⟩ := r1 j _ hy
          have hkj := hk' j i _ hl
          rw [tkinds_at (lts_at hl) hv] at hkj
          rw [getElem?_kd hkj] at kr'
          obtain ⟨eu, kr2⟩ := kr.unlend (E' := E') (L := Lo ++ Lr) (L' := L') (H' := H') eB gOut ht kr'
          refine ⟨.ref a, hs, ?_⟩
          rw [getElem?_kd hk, (ho1 i).1 j _ hl]
          rw [← eu]; exact kr2
        · rw [hl] at hl2; cases hl2
      · rw [lendF_ne (fun j z => by obtain ⟨m, t, _, h⟩ := lpairs_mem.mp z; exact hn m t h)] at hx
        obtain ⟨v, hv, kr⟩ := s1 i x hx
        refine ⟨v, hv, ?_⟩
        rw [(ho1 i).2 hn]
        refine kr.mv (fun z o e n nl => stay z o e (fun q => nl (LnL z q)) n) f.tp (fun z m => f1.ls z m) fun z m o e => ?_
        refine stay z o e (fun q => ?_) (R.lq (s2 i z m))
        obtain ⟨j, i2, t, hl, hz⟩ := (mLn z).mp q
        have := s3 i i2 z m hz
        subst this
        exact hn j t hl
    · rcases dec i with ⟨j, t, hl⟩ | hn
      · rw [(ho1 i).1 j t hl] at m
        exact List.mem_append.mpr (.inr ((mLr a).mpr ⟨j, i, t, hl, m⟩))
      · rw [(ho1 i).2 hn] at m
        refine List.mem_append.mpr (.inl ((mLo a).mpr ⟨s2 i a m, fun q => ?_⟩))
        obtain ⟨j, i2, t, hl, hz⟩ := (mLn a).mp q
        have := s3 i i2 a m hz
        subst this
        exact hn j t hl
    · rcases dec i with ⟨j, t, hl⟩ | hn <;> rcases dec i' with ⟨j', t', hl'⟩ | hn'
      · rw [(ho1 i).1 j t hl] at m
        rw [(ho1 i').1 j' t' hl'] at m'
        have := r3 j j' a m m'
        subst this
        rw [hl] at hl'; cases hl'; rfl
      · rw [(ho1 i).1 j t hl] at m
        rw [(ho1 i').2 hn'] at m'
        exact (disj i' j a hn' m' ⟨i, t, hl⟩ m).elim
      · rw [(ho1 i).2 hn] at m
        rw [(ho1 i').1 j' t' hl'] at m'
        exact (disj i j' a hn m ⟨i', t', hl'⟩ m').elim
      · rw [(ho1 i).2 hn] at m
        rw [(ho1 i').2 hn'] at m'
        exact s3 i i' a m m'
    · rcases dec i with ⟨j, t, hl⟩ | hn
      · rw [(ho1 i).1 j t hl]; exact r4 j
      · rw [(ho1 i).2 hn]; exact s4 i
end
end Vl
namespace Vl
open PySem PySem.Spec L2 Lb PyProof.Rows
abbrev PWB := List PV → (PV → List PV → Prop) → Prop
def outS (γ : G) (js : List Nat) : (List PV → Prop) → Prop :=
  List.rec (motive := fun _ => (List PV → Prop) → Prop) (fun K => K []) (fun j _ ih K => getS γ j fun y => ih fun ys => K (y :: ys)) js
def putS : List Nat → List PV → G → (G → Prop) → Prop
  | i :: is, y :: ys, γ, K => setS γ i (some y) fun γ1 => putS is ys γ1 K
  | [], [], γ, K => K γ
  | _, _, _, _ => False
def lix : Nat → List (Option Lk) → List Nat
  | _, [] => []
  | n, some _ :: r => n :: lix (n + 1) r
  | n, none :: r => lix (n + 1) r
theorem lix_eq : ∀ {n : Nat} {la : List (Option (Nat × Lk))}, lix n (lts la) = (lpairs n la).map (·.2)
  | _, [] => rfl
  | n, some (i, t) :: r => by
    have := lix_eq (n := n + 1) (la := r)
    show n :: lix (n + 1) (lts r) = n :: _
    rw [this]
  | n, none :: r => lix_eq (n := n + 1) (la := r)
theorem out_put {γ' : G} : ∀ (S : List (Nat × Nat)) {γ : G} {K : G → Prop}, outS γ' (S.map (·.2)) (fun ys => putS (S.map (·.1)) ys γ K) → K (lendF γ γ' S) ∧ ∀ p ∈ S, ∃ y : PV, γ'[p.2]? = some (some y)
  | [], _, _, h => ⟨h, by simp⟩
  | (i, j) :: S, γ, K, h => by
    have h : getS γ' j fun y => outS γ' (S.map (·.2)) fun ys => setS γ i (some y) fun γ1 => putS (S.map (·.1)) ys γ1 K := h
    obtain ⟨y, hy, q⟩ := getS_of h
    have e : (fun ys => setS γ i (some y) fun γ1 => putS (S.map (·.1)) ys γ1 K) = fun ys => putS (S.map (·.1)) ys (γ.set i (some y)) K := funext fun ys => setS_eq ..
    rw [e] at q
    obtain ⟨h1, h2⟩ := out_put S q
    have g : γ'.getD j none = some y := by simp [List.getD, hy]
    refine ⟨by rw [lendF, g]; exact h1, fun p m => (List.mem_cons.mp m).elim (fun z => ⟨y, by rw [z]; exact hy⟩) (h2 p)⟩
/-- a def's promise: ts its parameters, those that are lent -/
def spB (ts : List (Option Lk)) (w : PWB) (K : Fg) : Sp := fun vs H Q _ => ∃ (E : Ac) (L : List Addr) (xs : List PV) (Qp : PV → List PV → Prop), E.B.K = K ∧ vs.length = ts.length ∧ xs.length = ts.length ∧ Rel E L (tkinds ts vs) (xs.map some) (vs.map some) H ∧
  (∀ (j : Nat) (t : Lk), ts[j]? = some (some t) → ∃ a : Addr, vs[j]? = some (V.ref a)) ∧ w xs Qp ∧
  ∀ (x : PV) (v : V) (L' : List Addr) (ks' : List Kd) (γ' : G) (σ' : L2.St) (H' : Hp), Fw E.B L H L' H' → Rel E L' ks' γ' σ' H' → (∀ (j : Nat) (t : Lk), ts[j]? = some (some t) → ks'[j]? = (tkinds ts vs)[j]?) → Rp E.B (av E L' true true) H' x v → outS γ' (lix 0 ts) (Qp x) → Q v H'
def RtB (E : Ac) (lk : List (Nat × Kd)) (L : List Addr) (H : Hp) (x : PV) (γ' : G) (v : V) (H' : Hp) : Prop :=
  ∃ (L' : List Addr) (ks' : List Kd) (σ' : L2.St), Fw E.B L H L' H' ∧ Rel E L' ks' γ' σ' H' ∧ (∀ p ∈ lk, ks'[p.1]? = some p.2) ∧ Rp E.B (av E L' true true) H' x v
theorem RtB.fw {E : Ac} {lk : List (Nat × Kd)} {L L1 : List Addr} {H H1 H' : Hp} {x : PV} {γ' : G} {v : V} (f : Fw E.B L H L1 H1) (h : RtB E lk L1 H1 x γ' v H') : RtB E lk L H x γ' v H' := by
  obtain ⟨L', ks', σ', h1, h2, h3, h4⟩ := h
  exact ⟨L', ks', σ', f.trans h1, h2, h3, h4⟩
def tSB (K : Fg) (lk : List (Nat × Kd)) (ks ks' kl : List Kd) (p : GS) : TS := fun D σ H => ∃ (E : Ac) (L : List Addr) (γ : G) (Dp : GD), E.B.K = K ∧ Rel E L ks γ σ H ∧ p Dp γ ∧
  (∀ L' γ' σ' H', Fw E.B L H L' H' → Rel E L' ks' γ' σ' H' → Dp.nx γ' → D.nx σ' H') ∧ (∀ x γ' v H', RtB E lk L H x γ' v H' → Dp.rt x γ' → D.rt v H') ∧
  (∀ L' γ' σ' H', Fw E.B L H L' H' → Rel E L' kl γ' σ' H' → Dp.bk γ' → D.bk σ' H') ∧ (∀ L' γ' σ' H', Fw E.B L H L' H' → Rel E L' kl γ' σ' H' → Dp.ct γ' → D.ct σ' H')
abbrev QSB (X : Cx) (lk : List (Nat × Kd)) (ks ks' kl : List Kd) (st : Stmt) (p : GS) : Prop := PS X st (tSB X.K lk ks ks' kl p)
abbrev QBB (X : Cx) (lk : List (Nat × Kd)) (ks ks' kl : List Kd) (sts : List Stmt) (p : GS) : Prop := PSs X sts (tSB X.K lk ks ks' kl p)
def tF2 (K : Fg) (ks : List Kd) (p : GF) : TE := fun σ H Q => ∃ (E : Ac) (L : List Addr) (γ : G) (Qp : PV → G → Prop), E.B.K = K ∧ Rel E L ks γ σ H ∧ p γ Qp ∧
  ∀ x v L' γ' H', Qp x γ' → Fw E.B L H L' H' → Rel E L' ks γ' σ H' → Rp E.B (av E L' true true) H' x v → Q v H'
abbrev QF2 (X : Cx) (ks : List Kd) (e : Expr) (p : GF) : Prop := PE X e (tF2 X.K ks p)
abbrev GTF := G → (Bool → G → Prop) → Prop
def tT2 (K : Fg) (ks : List Kd) (p : GTF) : TT := fun σ H Q => ∃ (E : Ac) (L : List Addr) (γ : G) (Qp : Bool → G → Prop), E.B.K = K ∧ Rel E L ks γ σ H ∧ p γ Qp ∧
  ∀ b L' γ' H', Qp b γ' → Fw E.B L H L' H' → Rel E L' ks γ' σ H' → Q b H'
abbrev QT2 (X : Cx) (ks : List Kd) (e : Expr) (p : GTF) : Prop := PT X e (tT2 X.K ks p)
abbrev GAF := G → (List PV → G → Prop) → Prop
def tA2 (K : Fg) (ks : List Kd) (n : Nat) (p : GAF) : TA := fun σ H Q => ∃ (E : Ac) (L : List Addr) (γ : G) (Qp : List PV → G → Prop), E.B.K = K ∧ Rel E L ks γ σ H ∧ p γ Qp ∧
  ∀ xs vs L' γ' H', Qp xs γ' → Fw E.B L H L' H' → Rel E L' ks γ' σ H' → RpL E.B (av E L' true true) H' xs vs → xs.length = n → Q vs H'
abbrev QA2 (X : Cx) (ks : List Kd) (es : List Expr) (p : GAF) : Prop := PA X es (tA2 X.K ks es.length p)
def fE (p : GE) : GF := fun γ Q => p γ fun x => Q x γ
def fT (p : GT) : GTF := fun γ Q => p γ fun b => Q b γ
def fNil : GAF := fun γ Q => Q [] γ
def fCons (a : GF) (t : GAF) : GAF := fun γ Q => a γ fun x γ1 => t γ1 fun xs γ2 => Q (x :: xs) γ2
def fTup (t : GAF) : GF := fun γ Q => t γ fun xs γ1 => Q (.tup xs) γ1
def pRetF (p : GF) : GS := fun D γ => p γ fun x γ1 => D.rt x γ1
def pIfF (t : GTF) (p q : GS) : GS := fun D γ => t γ fun b γ1 => bfi b (p D γ1) (q D γ1)
section
variable {X : Cx} {lk : List (Nat × Kd)} {ks ks' ks1 kl : List Kd} {a s a1 s1 a2 s2 : Bool} {e e1 e2 tg : Expr} {es : List Expr} {st : Stmt} {sts sts' : List Stmt} {p : GE} {pf pf1 pf2 : GF} {pa : GA} {pt : GT} {ptf ptf1 ptf2 : GTF} {paf : GAF} {ps q : GS} {g : GG} {pos : Pos} {js : List Nat} {i : Nat}
theorem qf2_of (h : QE X ks true true e p) : QF2 X ks e (fE p) :=
  PEi h fun σ H Q ⟨E, L, γ, Qp, hK, R, hp, k⟩ => ⟨E, L, γ, _, hK, R, hp, fun x v H' q x1 r => k x v L γ H' q x1.fw (R.ex x1) r⟩
theorem qt2_of (h : QT X ks e pt) : QT2 X ks e (fT pt) :=
  PTi h fun σ H Q ⟨E, L, γ, Qp, hK, R, hp, k⟩ => ⟨E, L, γ, _, hK, R, hp, fun b H' q x1 => k b L γ H' q x1.fw (R.ex x1)⟩
theorem qa2_nil : QA2 X ks [] fNil := PAi pa_nil fun σ H Q ⟨E, L, γ, Qp, hK, R, hp, k⟩ => k [] [] L γ H hp (.refl _ _ _) R .nil rfl
theorem qa2_cons (h : QF2 X ks e pf) (t : QA2 X ks es paf) (hs : starEach (e :: es) X.env = (false, eval e X.env) :: starEach es X.env := by rfl) : QA2 X ks (e :: es) (fCons pf paf) :=
  PAi (pa_cons h t hs) fun σ H Q ⟨E, L, γ, Qp, hK, R, hp, k⟩ => by
    refine ⟨E, L, γ, _, hK, R, hp, fun x v L1 γ1 H1 q1 f1 R1 r1 => ⟨E, L1, γ1, _, hK, R1, q1, fun xs vs L2 γ2 H2 q2 f2 R2 r2 l2 => ?_⟩⟩
    exact k _ _ L2 γ2 H2 q2 (f1.trans f2) R2 (.cons (r1.fw f2) r2) (by simp [l2])
theorem qf2_tup {x1} (h : QA2 X ks es paf) (hn : es.length ≤ 1000 := by decide) : QF2 X ks (.Tuple es x1 pos) (fTup paf) :=
  PEi (pe_tup h) fun σ H Q ⟨E, L, γ, Qp, hK, R, hp, k⟩ => by
    refine ⟨E, L, γ, _, hK, R, hp, fun xs vs L1 γ1 H1 q1 f1 R1 r1 l1 => ⟨by rw [← r1.length, l1]; exact few hn, fun b nb => ?_⟩⟩
    have x2 : Ex E.B H1 (upd H1 b (.tup vs)) := .new nb
    exact k _ _ L1 γ1 _ q1 (f1.trans x2.fw) (R1.ex x2) (Rp.newT r1 av_q nb)
theorem xs_setF2 {k : Kd} (pe : ∀ {t : TE}, PE X e t → PS X st (tAsg t (gName i))) (h : QF2 X ks e pf) (hk : ks[i]? = some k := by rfl) (ht : takes k true true = true := by rfl) : QS X ks ks kl st (xSetF i pf) :=
  PSi (pe h) fun D σ H ⟨E, L, γ, Dp, hK, R, hp, nx, rt, bk, ct⟩ => ⟨E, L, γ, _, hK, R, hp, fun x v L1 γ1 H1 q1 f1 R1 r1 => by
    rw [setS_eq] at q1
    refine nx L1 _ _ H1 f1 ?_ q1
    have := R1.set (i := i) (takes_ok ht r1) (List.getElem?_eq_some_iff.mp hk).1
    rw [set_same hk] at this; exact this⟩
theorem qs_asgF2 (pe : ∀ {t : TE} {g : TG}, PE X e t → PG X tg g → PS X st (tAsg t g)) (h : QF2 X ks e pf) (hg : QG X ks true true js tg g) : QS X ks ks kl st (pAsgF pf g) :=
  PSi (pe h hg) fun D σ H ⟨E, L, γ, Dp, hK, R, hp, nx, rt, bk, ct⟩ => ⟨E, L, γ, _, hK, R, hp, fun x v L1 γ1 H1 q1 f1 R1 r1 => ⟨E, L1, γ1, x, _, hK, R1, r1, q1, fun γ2 σ2 q2 R2 _ => nx L1 γ2 σ2 H1 f1 R2 q2⟩⟩
theorem qs_exprF2 (h : QF2 X ks e pf) (hs : swapsWith e none pos.line X.env = pure false := by rfl) : QS X ks ks kl (.Expr e pos) (pDropF pf) :=
  PSi (ps_expr h hs) fun D σ H ⟨E, L, γ, Dp, hK, R, hp, nx, rt, bk, ct⟩ => ⟨E, L, γ, _, hK, R, hp, fun x v L1 γ1 H1 q1 f1 R1 r1 => nx L1 γ1 σ H1 f1 R1 q1⟩
theorem qbb_of (h : QS X ks ks' kl st ps) (nr : NoRet ps := by intro _ _ h; exact h) : QSB X lk ks ks' kl st ps :=
  PSi h fun D σ H ⟨E, L, γ, Dp, hK, R, hp, nx, rt, bk, ct⟩ => ⟨E, L, γ, { Dp with rt := fun _ _ => False }, hK, R, nr _ _ hp, nx, fun _ _ _ _ _ z => z.elim, bk, ct⟩
theorem qbb_nil : QBB X lk ks ks kl [] pNext := PSsi pss_nil fun D σ H ⟨E, L, γ, Dp, hK, R, hp, nx, rt, bk, ct⟩ => nx L γ σ H (.refl _ _ _) R hp
theorem qbb_one (h : QSB X lk ks ks' kl st ps) : QBB X lk ks ks' kl [st] ps := pss_one h
theorem qbb_cons (h1 : QSB X lk ks ks1 kl st ps) (h2 : QBB X lk ks1 ks' kl sts q) : QBB X lk ks ks' kl (st :: sts) (pSeq ps q) :=
  PSsi (pss_cons h1 h2) fun D σ H ⟨E, L, γ, Dp, hK, R, hp, nx, rt, bk, ct⟩ =>
    ⟨E, L, γ, { Dp with nx := q Dp }, hK, R, hp, fun L1 γ1 σ1 H1 f1 R1 q1 => ⟨E, L1, γ1, Dp, hK, R1, q1, fun L2 γ2 σ2 H2 f2 R2 q2 => nx L2 γ2 σ2 H2 (f1.trans f2) R2 q2, fun x γ' v H' r q2 => rt x γ' v H' (r.fw f1) q2, fun L2 γ2 σ2 H2 f2 R2 q2 => bk L2 γ2 σ2 H2 (f1.trans f2) R2 q2, fun L2 γ2 σ2 H2 f2 R2 q2 => ct L2 γ2 σ2 H2 (f1.trans f2) R2 q2⟩, rt, bk, ct⟩
theorem qbb_ret (h : QE X ks true true e p) (hk : ∀ p ∈ lk, ks[p.1]? = some p.2 := by simp) : QSB X lk ks ks' kl (.Return (some e) pos) (pRet p) :=
  PSi (ps_ret h) fun D σ H ⟨E, L, γ, Dp, hK, R, hp, nx, rt, bk, ct⟩ => ⟨E, L, γ, _, hK, R, hp, fun x v H1 q1 x1 r1 =>
    rt x γ v H1 ⟨L, ks, σ, x1.fw, R.ex x1, hk, r1⟩ q1⟩
theorem qbb_retN (hk : ∀ p ∈ lk, ks[p.1]? = some p.2 := by simp) : QSB X lk ks ks' kl (.Return none pos) pRetN :=
  PSi ps_retN fun D σ H ⟨E, L, γ, Dp, hK, R, hp, nx, rt, bk, ct⟩ => rt .non γ .non H ⟨L, ks, σ, .refl _ _ _, R, hk, .non⟩ hp
theorem qbb_retF (h : QF2 X ks e pf) (hk : ∀ p ∈ lk, ks[p.1]? = some p.2 := by simp) : QSB X lk ks ks' kl (.Return (some e) pos) (pRetF pf) :=
  PSi (ps_ret h) fun D σ H ⟨E, L, γ, Dp, hK, R, hp, nx, rt, bk, ct⟩ => ⟨E, L, γ, _, hK, R, hp, fun x v L1 γ1 H1 q1 f1 R1 r1 =>
    rt x γ1 v H1 ⟨L1, ks, σ, f1, R1, hk, r1⟩ q1⟩
theorem qbb_ifF (ht : QT2 X ks e ptf) (h1 : QBB X lk ks ks' kl sts ps) (h2 : QBB X lk ks ks' kl sts' q) : QSB X lk ks ks' kl (.If e sts sts' pos) (pIfF ptf ps q) :=
  PSi (ps_if ht h1 h2) fun D σ H ⟨E, L, γ, Dp, hK, R, hp, nx, rt, bk, ct⟩ => by
    refine ⟨E, L, γ, _, hK, R, hp, fun b L1 γ1 H1 q1 f1 R1 => ?_⟩
    have go : ∀ {r : GS}, r Dp γ1 → tSB X.K lk ks ks' kl r D σ H1 := fun {r} q1 => ⟨E, L1, γ1, Dp, hK, R1, q1, fun L2 γ2 σ2 H2 f2 R2 q2 => nx L2 γ2 σ2 H2 (f1.trans f2) R2 q2, fun x γ' v H' r q2 => rt x γ' v H' (r.fw f1) q2, fun L2 γ2 σ2 H2 f2 R2 q2 => bk L2 γ2 σ2 H2 (f1.trans f2) R2 q2, fun L2 γ2 σ2 H2 f2 R2 q2 => ct L2 γ2 σ2 H2 (f1.trans f2) R2 q2⟩
    cases b with
    | true => show if true = true then _ else _; rw [if_pos rfl]; exact go q1
    | false => exact go q1
theorem qbb_if (ht : QT X ks e pt) (h1 : QBB X lk ks ks' kl sts ps) (h2 : QBB X lk ks ks' kl sts' q) : QSB X lk ks ks' kl (.If e sts sts' pos) (pIf pt ps q) := qbb_ifF (qt2_of ht) h1 h2
theorem qbb_for {iter : Expr} (pe : ∀ {wi : TI} {g : TG} {tb : TS}, PI X tg iter wi → PG X tg g → PSs X sts tb → PS X st (tFor wi g tb)) (hi : QI X ks a tg iter pa) (hg : QG X ks a true js tg g) (hb : QBB X lk ks ks ks sts ps) : QSB X lk ks ks kl st (yFor pa g ps) := by
  rw [yFor_eq]
  exact PSi (pe hi hg hb) fun D σ H ⟨E, L, γ, Dp, hK, R, hp, nx, rt, bk, ct⟩ => by
    refine ⟨E, L, γ, _, hK, R, hp, fun xs J H1 hq x1 ⟨P, p0, pf, pg, pst⟩ => ?_⟩
    refine ⟨fun i m σ H2 => m = xs.length - i ∧ ∃ L' γ', Fw E.B L H1 L' H2 ∧ Rel E L' ks γ' σ H2 ∧ forP g ps Dp (xs.drop i) γ', ⟨_, rfl, L, γ, .refl _ _ _, R.ex x1, hq⟩, ?_⟩
    rintro i m σ2 H2 ⟨rfl, L2, γ2, f2, R2, h2⟩
    by_cases hi : i < xs.length
    · right
      obtain ⟨go, yl⟩ := pg i L2 H2 (pf _ _ _ _ p0 f2) hi
      refine ⟨go, fun σ' H' => ∃ m', m' < xs.length - i ∧ (m' = xs.length - (i + 1) ∧ ∃ L' γ', Fw E.B L H1 L' H' ∧ Rel E L' ks γ' σ' H' ∧ forP g ps Dp (xs.drop (i + 1)) γ'), fun _ _ h => h, fun v H3 hy => ?_⟩
      obtain ⟨x3, y, hy, ry⟩ := yl v H3 hy
      have hd : xs.drop i = y :: xs.drop (i + 1) := by
        rw [List.drop_eq_getElem_cons hi]
        rw [List.getElem?_eq_getElem hi] at hy; cases hy; rfl
      rw [hd] at h2
      have f3 : Fw E.B L H L2 H3 := Fw.trans x1.fw (f2.trans x3.fw)
      refine ⟨E, L2, γ2, y, _, hK, R2.ex x3, ry, h2, fun γ3 σ3 q3 R3 _ => ⟨E, L2, γ3, _, hK, R3, q3, ?_, fun x γ' v H' r q2 => rt x γ' v H' (r.fw f3) q2, ?_, ?_⟩⟩
      · intro L4 γ4 σ4 H4 f4 R4 q4
        exact ⟨_, by omega, rfl, L4, γ4, f2.trans (Fw.trans x3.fw f4), R4, q4⟩
      · intro L4 γ4 σ4 H4 f4 R4 q4
        exact nx L4 γ4 σ4 H4 (f3.trans f4) R4 q4
      · intro L4 γ4 σ4 H4 f4 R4 q4
        exact ⟨_, by omega, rfl, L4, γ4, f2.trans (Fw.trans x3.fw f4), R4, q4⟩
    · left
      have hi := Nat.not_lt.mp hi
      refine ⟨pst i L2 H2 (pf _ _ _ _ p0 f2) hi, ?_⟩
      rw [List.drop_eq_nil_of_le hi] at h2
      exact nx L2 γ2 σ2 H2 (Fw.trans x1.fw f2) R2 h2
end
end Vl
namespace Vl
open PySem PySem.Spec L2 Lb PyProof.Rows
def wB (N : Nat) (js : List Nat) (p : GS) : PWB := fun xs Q => p ⟨fun γ => outS γ js (Q .non), fun x γ => outS γ js (Q x), fun _ => False, fun _ => False⟩ (startG N xs)
def xB (N : Nat) (js : List Nat) (p : GS) : PWB := fun xs Q => startS xs N fun γ => p ⟨fun γ => outS γ js (Q .non), fun x γ => outS γ js (Q x), fun _ => False, fun _ => False⟩ γ
theorem xB_eq (N : Nat) (js : List Nat) (p : GS) : xB N js p = wB N js p := by funext xs Q; rw [xB, startS_eq]; rfl
theorem Rel.start {E : Ac} {L : List Addr} {ks ks0 : List Kd} {xs : List PV} {vs : List V} {H : Hp} {N : List Str} (R : Rel E L ks0 (xs.map some) (vs.map some) H) (hk : ∀ i, i < xs.length → kd ks i = kd ks0 i) : Rel E L ks (startG N.length xs) (start N vs) H := by
  have hl : xs.length = vs.length := by have := R.len; simpa using this
  obtain ⟨O, h1, h2, h3, h4⟩ := R.sl
  refine ⟨R.old, R.onn, R.bag, R.a0, R.aq, R.ar, R.lf, start_len hl, O, fun i x h => ?_, h2, h3, h4⟩
  have hx := start_get h
  obtain ⟨v, hv, k⟩ := h1 i x (by rw [List.getElem?_map, hx]; rfl)
  refine ⟨v, start_at ?_, ?_⟩
  · rw [List.getElem?_map] at hv
    cases e : vs[i]? with
    | none => rw [e] at hv; cases hv
    | some u => rw [e] at hv; simp at hv; rw [hv]
  · rw [hk i (List.getElem?_eq_some_iff.mp hx).1]; exact k
theorem len_B {ts : List (Option Lk)} {w : PWB} {K : Fg} {vs : List V} {H : Hp} {Q : VK} {E : XK} (h : spB ts w K vs H Q E) : vs.length = ts.length := by obtain ⟨_, _, _, _, _, h, _⟩ := h; exact h
theorem refs_B {ts : List (Option Lk)} {w : PWB} {K : Fg} {vs : List V} {H : Hp} {Q : VK} {E : XK} (h : spB ts w K vs H Q E) : ∀ (j : Nat) (t : Lk), ts[j]? = some (some t) → ∃ a : Addr, vs[j]? = some (V.ref a) := by obtain ⟨_, _, _, _, _, _, _, _, h, _⟩ := h; exact h
theorem body_B {X : Cx} {N : List Str} {lk : List (Nat × Kd)} {ks ks' kl : List Kd} {sts : List Stmt} {p : GS} {ts : List (Option Lk)} {vs : List V} {H : Hp} {Q : VK} {E : XK} (h : QBB X lk ks ks' kl sts p) (hks : ks.take ts.length = tkinds ts vs)
    (hlk : ∀ (j : Nat) (t : Lk), ts[j]? = some (some t) → ∃ k, (tkinds ts vs)[j]? = some k ∧ (j, k) ∈ lk ∧ ks'[j]? = some k) (hs : spB ts (wB N.length (lix 0 ts) p) X.K vs H Q E) : ∃ t, PSs X sts t ∧ t { nx := fun _ H' => Q .non H', rt := Q } (start N vs) H := by
  obtain ⟨E', L, xs, Qp, hK, lv, lx, R, refs, w, k⟩ := hs
  have hkd : ∀ i, i < xs.length → kd ks i = kd (tkinds ts vs) i := fun i hi => by
    rw [← hks]
    unfold kd List.getD
    rw [List.getElem?_take, if_pos (by omega)]
  refine ⟨_, h, E', L, startG N.length xs, _, hK, R.start hkd, w, ?_, ?_, fun _ _ _ _ _ _ z => z.elim, fun _ _ _ _ _ _ z => z.elim⟩
  · intro L' γ' σ' H' f R' q1
    refine k .non .non L' ks' γ' σ' H' f R' (fun j t e => ?_) .non q1
    obtain ⟨kk, e1, _, e3⟩ := hlk j t e
    rw [e1, e3]
  · intro x γ' v H' ⟨L', k2, σ', f, R', hk, r⟩ q1
    refine k x v L' k2 γ' σ' H' f R' (fun j t e => ?_) r q1
    obtain ⟨kk, e1, e2, _⟩ := hlk j t e
    rw [e1]; exact hk _ e2
def tAL (K : Fg) (ks : List Kd) (la : List (Option (Nat × Lk))) (p : GA) : TA := fun σ H Q => ∃ (E : Ac) (L : List Addr) (γ : G) (Qp : List PV → Prop), E.B.K = K ∧ Rel E L ks γ σ H ∧ p γ Qp ∧
  ∀ xs vs H', Qp xs → Ex E.B H H' → LArg E L ks γ σ H' la xs vs → Q vs H'
abbrev QAL (X : Cx) (ks : List Kd) (la : List (Option (Nat × Lk))) (es : List Expr) (p : GA) : Prop := PA X es (tAL X.K ks la p)
def pCallB (is : List Nat) (w : PWB) (pa : GA) : GF := fun γ Q => pa γ fun xs => w xs fun x ys => putS is ys γ fun γ1 => Q x γ1
def pMethB (i c : Nat) (is : List Nat) (w : PWB) (pa : GA) : GF := fun γ Q => getS γ i fun o => match o with
  | .ins c' fs => c' = c ∧ pa γ fun xs => w (.ins c' fs :: xs) fun x ys => putS is ys γ fun γ1 => Q x γ1
  | _ => False
section
variable {X : Cx} {ks : List Kd} {e : Expr} {es : List Expr} {p : GE} {pa : GA} {la : List (Option (Nat × Lk))} {pos : Pos} {i c k : Nat} {w : PWB} {is : List Nat} {ts : List (Option Lk)}
theorem qal_nil : QAL X ks [] [] pNil := PAi pa_nil fun σ H Q ⟨E, L, γ, Qp, hK, R, hp, k⟩ => k [] [] H hp (.refl _ _) .nil
theorem qal_val (h : QE X ks true true e p) (t : QAL X ks la es pa) (hs : starEach (e :: es) X.env = (false, eval e X.env) :: starEach es X.env := by rfl) : QAL X ks (none :: la) (e :: es) (pCons p pa) :=
  PAi (pa_cons h t hs) fun σ H Q ⟨E, L, γ, Qp, hK, R, hp, k⟩ => by
    refine ⟨E, L, γ, _, hK, R, hp, fun x v H1 q1 x1 r1 => ⟨E, L, γ, _, hK, R.ex x1, q1, fun xs vs H2 q2 x2 r2 => ?_⟩⟩
    exact k _ _ H2 q2 (x1.trans x2) (.val (r1.ex x2 av_q) r2)
theorem qal_lend (i : Nat) {kk : Kd} {t : Lk} (h : PE X e (tVar i)) (h2 : QAL X ks la es pa) (hk : ks[i]? = some kk := by rfl) (ht : kk.lk = some t := by rfl) (hs : starEach (e :: es) X.env = (false, eval e X.env) :: starEach es X.env := by rfl) : QAL X ks (some (i, t) :: la) (e :: es) (pCons (pVar i) pa) :=
  PAi (pa_cons h h2 hs) fun σ H Q ⟨E, L, γ, Qp, hK, R, hp, k⟩ => by
    obtain ⟨x, hx, q⟩ := getS_of hp
    obtain ⟨O, s1, _, _, _⟩ := R.sl
    obtain ⟨v, hv, kr⟩ := s1 i x hx
    exact ⟨v, hv, E, L, γ, _, hK, R, q, fun xs vs H2 q2 x2 r2 => k _ _ H2 q2 x2 (.lend hk ht hx hv r2)⟩
/-- a call, its arguments there -/
theorem call_B {E : Ac} {L : List Addr} {γ : G} {σ : L2.St} {H : Hp} {Q : VK} {XE : XK} {Qc : PV → G → Prop} {xs : List PV} {vs : List V} (hK : E.B.K = X.K) (R : Rel E L ks γ σ H) (ha : LArg E L ks γ σ H la xs vs) (nd : ((lpairs 0 la).map (·.1)).Nodup)
    (hw : w xs fun x ys => putS ((lpairs 0 la).map (·.1)) ys γ fun γ1 => Qc x γ1) (k : ∀ x v L' γ' H', Qc x γ' → Fw E.B L H L' H' → Rel E L' ks γ' σ H' → Rp E.B (av E L' true true) H' x v → Q v H') : spB (lts la) w X.K vs H Q XE := by
  obtain ⟨E', Ln, eB, Rc, refs, back⟩ := R.lend ha nd
  have ll : (lts la).length = la.length := by simp [lts]
  refine ⟨E', Ln, xs, _, by rw [eB]; exact hK, by rw [ll]; exact ha.len.2, by rw [ll]; exact ha.len.1, Rc, fun j t e => ?_, hw, fun x v L' ks' γ' σ' H' f R' hk' r o => ?_⟩
  · unfold lts at e
    rw [List.getElem?_map] at e
    cases h : la[j]? with
    | none => rw [h] at e; cases e
    | some y =>
      cases y with
      | none => rw [h] at e; simp at e
      | some q => exact refs j q.1 q.2 (by rw [h])
  · rw [lix_eq] at o
    obtain ⟨o1, o2⟩ := out_put _ o
    rw [eB] at f r
    obtain ⟨L1, f1, R1, r1⟩ := back L' ks' γ' σ' H' f R' (fun j i t h => hk' j t (lts_at h)) fun j i t h => o2 (i, j) (lpairs_mem.mpr ⟨j, t, by omega, h⟩)
    exact k x v L1 _ H' o1 f1 R1 (r1 x v r)
theorem qf2_callB (pe : ∀ {t : TA}, PA X es t → PE X e (tCall (spB ts w X.K) [] E0 t)) (h : QAL X ks la es pa) (hts : lts la = ts := by rfl) (his : (lpairs 0 la).map (·.1) = is := by rfl) (nd : is.Nodup := by decide) : QF2 X ks e (pCallB is w pa) := by
  subst hts his
  exact PEi (pe h) fun σ H Q ⟨E, L, γ, Qp, hK, R, hp, k⟩ => by
    refine ⟨E, L, γ, _, hK, R, hp, fun xs vs H1 q1 x1 r1 => ?_⟩
    show spB (lts la) w X.K (vs ++ []) H1 Q E0
    rw [List.append_nil]
    exact call_B hK (R.ex x1) r1 nd q1 fun x v L' γ' H' q f R' r => k x v L' γ' H' q (Fw.trans x1.fw f) R' r
theorem qf2_calB {x : Str} {ps' : List Str} {p0 : Pos} (cc : Cal X.prog X.w X.K X.mg X.base x k ps' (spB ts w X.K) []) (hr : Room k X.A) (hg : Gl X x) (h : QAL X ks la (e :: es) pa) (hts : lts la = ts := by rfl) (his : (lpairs 0 la).map (·.1) = is := by rfl) (nd : is.Nodup := by decide) (hdb : (x == ("__debug__" : Str)) = false := by decide)
    (he : starEach (e :: es) X.env = (false, eval e X.env) :: starEach es X.env := by rfl) (hpl : (backTo pos (starEach es X.env)).any (·.1) = false := by rfl) : QF2 X ks (.Call (.Name x p0) (e :: es) [] pos) (pCallB is w pa) :=
  qf2_callB (fun t => pe_cal cc hr hg t hdb he hpl) h hts his nd
variable {js : List Nat} {wh : Whr} {f : Str} {ps' : List Str} {o : Expr} {apos : Pos}
theorem mthB_go (pe : ∀ {ta : TE} {t : TA}, PE X o ta → PA X es t → PE X e (tMeth (He.ga X.K (clsT c).1) f (spB ts w X.K) [] E0 ta t)) (i : Nat) (ho : PE X o (tVar i)) (h : QAL X ks la es pa) (hk : ks[i]? = some (.obj wh js)) (hts : lts (some (i, .obj js) :: la) = ts) (his : (lpairs 0 (some (i, .obj js) :: la)).map (·.1) = is) (nd : is.Nodup)
    (hm : (clsT c).2.all (fun g => !decide (g = f)) = true) : QF2 X ks e (pMethB i c is w pa) := by
  subst hts his
  exact PEi (pe ho h) fun σ H Q ⟨E, L, γ, Qp, hK, R, hp, k⟩ => by
    obtain ⟨x, hx, q⟩ := getS_of hp
    obtain ⟨a, c', fs, ws, dx, bs, rfl, hv, hw, haL, hbL, n1, n2, ha, g2, hfo, _⟩ := R.objAt hk hx
    obtain ⟨rfl, q⟩ := q
    refine ⟨.ref a, hv, a, dx, ws, rfl, by rw [← hK]; exact ha, no_lookup g2 hm, E, L, γ, _, hK, R, q, fun xs vs H2 q2 x2 r2 => ?_⟩
    show spB (lts (some (i, .obj js) :: la)) w X.K (V.ref a :: (vs ++ [])) H2 Q E0
    rw [List.append_nil]
    exact call_B hK (R.ex x2) (.lend hk rfl hx hv r2) nd q2 fun x v L' γ' H' q f R' r => k x v L' γ' H' q (Fw.trans x2.fw f) R' r
theorem qf2_mthB {pl : Sem Bool} (cc : CalM X.prog X.w X.K X.mg X.base (clsT c).1 f k ps' (spB ts w X.K) []) (hr : Room k X.A) (i : Nat) (ho : PE X o (tVar i)) (h : QAL X ks la (e :: es) pa) (hk : ks[i]? = some (.obj wh js) := by rfl) (hts : lts (some (i, .obj js) :: la) = ts := by rfl) (his : (lpairs 0 (some (i, .obj js) :: la)).map (·.1) = is := by rfl) (nd : is.Nodup := by decide)
    (hm : (clsT c).2.all (fun g => !decide (g = f)) = true := by decide +kernel) (hst : starEach (e :: es) X.env = (false, eval e X.env) :: starEach es X.env := by rfl) (hpl : (backTo pos (starEach es X.env)).any (·.1) = false := by rfl)
    (ht : eval (.Call (.Attribute o f apos) (e :: es) [] pos) X.env = (do
      let ov ← eval o X.env
      standAt apos.atName
      let (f, first) ← holding [ov] (getMethod ov f pl)
      callWith pos f first (backTo pos (starEach (e :: es) X.env)) (backToKw pos (keywordEach [] X.env))) := by rfl) :
    QF2 X ks (.Call (.Attribute o f apos) (e :: es) [] pos) (pMethB i c is w pa) := mthB_go (fun x y => pe_mth cc hr x y hst hpl ht) i ho h hk hts his nd hm
theorem qf2_mthB0 {pl : Sem Bool} (cc : CalM X.prog X.w X.K X.mg X.base (clsT c).1 f k ps' (spB ts w X.K) []) (hr : Room k X.A) (i : Nat) (ho : PE X o (tVar i)) (hk : ks[i]? = some (.obj wh js) := by rfl) (hts : [some (Lk.obj js)] = ts := by rfl)
    (hm : (clsT c).2.all (fun g => !decide (g = f)) = true := by decide +kernel)
    (ht : eval (.Call (.Attribute o f apos) [] [] pos) X.env = (do
      let ov ← eval o X.env
      standAt apos.atName
      let (f, first) ← holding [ov] (getMethod ov f pl)
      callWith pos f first (backTo pos (starEach [] X.env)) (backToKw pos (keywordEach [] X.env))) := by rfl) :
    QF2 X ks (.Call (.Attribute o f apos) [] [] pos) (pMethB i c [i] w pNil) := by
  subst hts
  exact PEi (pe_mth0 cc hr ho ht) fun σ H Q ⟨E, L, γ, Qp, hK, R, hp, k⟩ => by
    obtain ⟨x, hx, q⟩ := getS_of hp
    obtain ⟨a, c', fs, ws, dx, bs, rfl, hv, hw, haL, hbL, n1, n2, ha, g2, hfo, _⟩ := R.objAt hk hx
    obtain ⟨rfl, q⟩ := q
    refine ⟨.ref a, hv, a, dx, ws, rfl, by rw [← hK]; exact ha, no_lookup g2 hm, ?_⟩
    show spB (lts [some (i, Lk.obj js)]) w X.K [V.ref a] H Q E0
    exact call_B (la := [some (i, .obj js)]) hK R (.lend hk rfl hx hv .nil) (by simp [lpairs]) q fun x v L' γ' H' q f R' r => k x v L' γ' H' q f R' r
end
end Vl
namespace Vl
open PySem PySem.Spec L2 Lb PyProof.Rows
def immG (γ : G) : Bool := γ.all fun o => match o with | some x => imm x | none => true
theorem immG_at {γ : G} (h : immG γ = true) {i : Nat} {x : PV} (e : γ[i]? = some (some x)) : imm x = true := List.all_eq_true.mp h _ (List.mem_of_getElem? e)
theorem Rp.lk {B : Bg} {A : Addr → Prop} {H H' : Hp} {x : PV} {v : V} (h : Rp B A H x v) (im : imm x = true) (tp : ∀ b vs, H b = some (.tup vs) → H' b = some (.tup vs)) : ∀ A', Rp B A' H' x v := fun A' => by
  have h2 : Rp B (fun _ => True) H x v := h.im im
  have h3 : Rp B (fun _ => True) H' x v := h2.mv (fun b u e n => absurd trivial n) tp fun _ _ _ => trivial
  exact h3.anti fun _ _ => trivial
theorem Rel.bare2 {ks : List Kd} {E : Ac} {L : List Addr} {γ : G} {σ : L2.St} {H H' : Hp} (R : Rel E L ks γ σ H) (hq : H' E.B.q = H E.B.q) (hr : H' E.B.r = H E.B.r) (tp : ∀ b us, H b = some (.tup us) → H' b = some (.tup us)) (hn : ∀ (i : Nat) (x : PV), γ[i]? = some (some x) → (kd ks i = .sh ∨ kd ks i = .bor) ∧ imm x = true) : Rel (E.bare H') [] ks γ σ H' := by
  obtain ⟨x, y, z, cs, h1, h2, h3, h4⟩ := R.bag
  have bag' : BagOk E.B H' := ⟨x, y, z, cs, hq.trans h1, hr.trans h2, h3, h4⟩
  refine ⟨fun a o h n => ?_, fun a h => ?_, bag', fun a h => ?_, rfl, ?_, (fun _ z => nomatch z), R.len, ⟨fun _ => [], (fun i x h => ?_), (fun _ _ z => nomatch z), (fun _ _ _ z => nomatch z), fun _ => List.nodup_nil⟩⟩
  · have h : (if a = E.B.q then H' a else if a = E.B.r then H' a else none) = some o := h
    have n : a ≠ E.B.q := n
    rw [if_neg n] at h
    by_cases e : a = E.B.r
    · rw [if_pos e] at h; exact h
    · rw [if_neg e] at h; cases h
  · have h : (if a = E.B.q then H' a else if a = E.B.r then H' a else none) ≠ none := h
    by_cases e : a = E.B.q
    · rw [if_pos e] at h; exact h
    · rw [if_neg e] at h
      by_cases e : a = E.B.r
      · rw [if_pos e] at h; exact h
      · rw [if_neg e] at h; exact absurd rfl h
  · have h : a = E.B.q := h
    show (if a = E.B.q then H' a else if a = E.B.r then H' a else none) ≠ none
    rw [if_pos h, h, hq, h1]; exact nofun
  · show (if E.B.r = E.B.q then H' E.B.r else if E.B.r = E.B.r then H' E.B.r else none) ≠ none
    rw [if_neg h3, if_pos rfl, hr, h2]; exact nofun
  · obtain ⟨O, s1, _, _, _⟩ := R.sl
    obtain ⟨v, hv, kr⟩ := s1 i x h
    obtain ⟨hk, im⟩ := hn i x h
    refine ⟨v, hv, ?_⟩
    rcases hk with hk | hk <;> rw [hk] at kr ⊢
    · exact ⟨rfl, kr.2.lk im tp _⟩
    · exact ⟨rfl, kr.2.lk im tp _⟩
/-- an item as the walk makes it -/
def Itm (B : Bg) (v : V) (y : PV) (H : Hp) : Prop := ∃ (T q : Addr) (u : V) (kk : List Key) (x : PV), v = .ref T ∧ y = .tup [.tup (kk.map kP), x] ∧ H T = some (.tup [.ref q, u]) ∧ H q = some (.tup (kk.map kV)) ∧ ∀ A, Rp B A H x u
def LkP (B : Bg) (d : Addr) (od : Obj) (ws : List (List Key × V)) (kvs : List (List Key × PV)) (L : List Addr) (H' : Hp) : Prop := H' d = some (.frz od (.dT ws)) ∧ d ∉ L ∧ ∀ A, RpL B A H' (kvs.map (·.2)) (ws.map (·.2))
def gIt (i j : Nat) : GG := fun y γ Q => match y with | .tup [k, x] => Q ((γ.set i (some k)).set j (some x)) | _ => False
section
variable {ks : List Kd} {g : GG} {pt : GT} {js vs : List Nat} {b : GB} {D : Addr}
theorem clause_ok2 {K : Fg} {tg0 : TG} {tb : L2.St → Hp → (Hp → Prop) → Prop} {E : Ac} {L : List Addr} {H1 H : Hp} {γ0 : G} {σ0 : L2.St} {d : KVs} {Q : KVs → Prop} {xs : List PV} {J : It} (hK : E.B.K = K) (nD : H1 D = none) (bg : BagOk E.B H1) (R : Rel E (D :: L) ks (wipeG γ0 vs) (L2.wipe σ0 vs) H) (ds : DsT E L D H1 d H)
    (P : List Addr → Hp → Prop) (p0 : P (D :: L) H) (pf : ∀ L H L' H', P L H → Fw E.B L H L' H' → P L' H') (pg : ∀ i L H, P L H → i < xs.length → J.go i H ∧ ∀ v H', J.yld i H v H' → Ex E.B H H' ∧ ∃ x, xs[i]? = some x ∧ Rp E.B (av E L true true) H' x v ∧ Itm E.B v x H') (ps : ∀ i L H, P L H → xs.length ≤ i → J.stop i H)
    (hg : ∀ {L : List Addr} {γ : G} {σ : L2.St} {H : Hp} {v : V} {y : PV} {Qp : G → Prop} {Q : L2.St → Hp → Prop}, Rel E L ks γ σ H → Itm E.B v y H → Rp E.B (av E L true true) H y v → g y γ Qp → (∀ γ' σ', Qp γ' → Rel E L ks γ' σ' H → SameS js σ σ' → Q σ' H) → tg0 v σ H Q)
    (hj : ∀ j ∈ js, j ∈ vs) (hv : ∀ i, (kd ks i).kb = true ∨ i ∈ vs) (hb : BdOk K ks D tb b) (hp : ckP g pt b (wipeG γ0 vs) xs d Q) :
    tClause J tg0 (tT K ks pt) tb vs (L2.wipe σ0 vs) H fun H' => ∃ d', Fw E.B (D :: L) H (D :: L) H' ∧ DsT E L D H1 d' H' ∧ Q d' := by
  have pl : ∀ i x, (wipeG γ0 vs)[i]? = some (some x) → (kd ks i).kb = true := fun i x h => (hv i).resolve_right (wipeG_some h).2
  refine ⟨fun i m H' => m = xs.length - i ∧ ∃ d', Fw E.B (D :: L) H (D :: L) H' ∧ DsT E L D H1 d' H' ∧ ckP g pt b (wipeG γ0 vs) (xs.drop i) d' Q, ⟨_, rfl, d, .refl _ _ _, ds, hp⟩, ?_⟩
  rintro i m H2 ⟨rfl, d2, f2, ds2, hk⟩
  have R2 := R.again f2 (bg.dst ds2) pl
  have nq : D ≠ E.B.q := R2.lq (by simp)
  by_cases hi : i < xs.length
  · right
    obtain ⟨go, yl⟩ := pg i _ H2 (pf _ _ _ _ p0 f2) hi
    refine ⟨go, fun H' => ∃ d', Fw E.B (D :: L) H (D :: L) H' ∧ DsT E L D H1 d' H' ∧ ckP g pt b (wipeG γ0 vs) (xs.drop (i + 1)) d' Q, fun H' h => ⟨xs.length - (i + 1), by omega, rfl, h⟩, fun v H3 hy => ?_⟩
    obtain ⟨x3, y, hy, ry, iy⟩ := yl v H3 hy
    have hd : xs.drop i = y :: xs.drop (i + 1) := by
      rw [List.drop_eq_getElem_cons hi]
      rw [List.getElem?_eq_getElem hi] at hy; cases hy; rfl
    rw [hd, ckP_eq] at hk
    have R3 := R2.ex x3
    refine hg R3 iy ry hk fun γ2 σ2 q2 R4 ss => ⟨ss.wipe hj, E, D :: L, γ2, _, hK, R4, q2, fun c H4 q4 x4 => ?_⟩
    have ds4 := (ds2.ex x3 nq).ex x4 nq
    have f4 : Fw E.B (D :: L) H (D :: L) H4 := f2.trans (x3.trans x4).fw
    cases c with
    | false =>
      show if false = true then _ else _
      rw [if_neg (by simp)]
      exact ⟨d2, f4, ds4, by rw [ckP_eq]; exact q4⟩
    | true =>
      show if true = true then _ else _
      rw [if_pos rfl]
      exact hb E L H1 γ2 σ2 H4 d2 _ _ hK nD bg (R4.ex x4) ds4 q4 fun d' H' f5 ds5 q5 => ⟨d', f4.trans f5, ds5, by rw [ckP_eq]; exact q5⟩
  · left
    have hi := Nat.not_lt.mp hi
    rw [List.drop_eq_nil_of_le hi, ckP_eq] at hk
    exact ⟨ps i _ H2 (pf _ _ _ _ p0 f2) hi, d2, f2, ds2, hk⟩
end
def pDcI (vs : List Nat) (i j : Nat) (p : GE) (t : GT) : GE := fun γ Q => p γ fun x => match x with
  | .dT kvs => immL (kvs.map (·.2)) = true ∧ wipeS γ vs fun γw => immG γw = true ∧ ckP (gIt i j) t (bdK (kVar i) (pVar j)) γw (itemsP kvs) [] fun d => immL (d.map (·.2)) = true ∧ Q (.dT d)
  | _ => False
theorem hw_by {ks : List Kd} {vs : List Nat} (h : (List.range ks.length).all (fun i => (decide (kd ks i = .sh) || decide (kd ks i = .bor)) || decide (i ∈ vs)) = true) (i : Nat) : (kd ks i = .sh ∨ kd ks i = .bor) ∨ i ∈ vs := by
  by_cases hi : i < ks.length
  · have := List.all_eq_true.mp h i (List.mem_range.mpr hi)
    simpa using this
  · refine .inl (.inl ?_)
    unfold kd
    rw [List.getD_eq_getElem?_getD, List.getElem?_eq_none (by omega)]; rfl
section
variable {X : Cx} {ks : List Kd} {a s : Bool} {o : Expr} {ifs : List Expr} {p : GE} {pt : GT} {pos apos cpos : Pos} {js vs : List Nat} {i j : Nat}
theorem qn_dcI {scope : Scope} {own : List (Str × Nat)} {kx vx : Expr} {elts : List Expr} {kk : Nat} {tpos : Pos} (hc : X.calm = true) (hN : X.N.Nodup) (hu : X.A.units + 1 < cLine) (ok : BlkOk X.N X.env.scope scope own) (ho : QZ X ks a s o p)
    (hg : ∀ (s : Shared) (H : Hp) (C : Addr) (cl : List (Str × Addr)) (fp : List Addr), PG (X.blk s H scope (compEnvC scope cl C X.env) fp) (.Tuple elts kk tpos) (gTup X.K 2 (gCons (gName i) (gCons (gName j) gNil))))
    (ht : ∀ (s : Shared) (H : Hp) (C : Addr) (cl : List (Str × Addr)) (fp : List Addr), QTs (X.blk s H scope (compEnvC scope cl C X.env) fp) ks ifs pt)
    (hk : ∀ (s : Shared) (H : Hp) (C : Addr) (cl : List (Str × Addr)) (fp : List Addr), PE (X.blk s H scope (compEnvC scope cl C X.env) fp) kx (tVar i)) (he : ∀ (s : Shared) (H : Hp) (C : Addr) (cl : List (Str × Addr)) (fp : List Addr), PE (X.blk s H scope (compEnvC scope cl C X.env) fp) vx (tVar j))
    (hvs : ∀ l ∈ own.map (·.2), l ∈ vs) (hv : ∀ l, (kd ks l = .sh ∨ kd ks l = .bor) ∨ l ∈ vs) (hi : i ∈ own.map (·.2) := by decide) (hj : j ∈ own.map (·.2) := by decide) (hki : ks[i]? = some .tt := by rfl) (hkj : ks[j]? = some .sh := by rfl) (hbase : attributeBase o "items" X.env (eval o X.env) = eval o X.env := by rfl) (hline : (apos.endLine == cpos.line) = true := by rfl) (hs : ∀ x, foldedSetIterable (.Call (.Attribute o "items" apos) [] [] cpos) X.env x = pure x := by intro _; rfl) :
    QN X ks (.DictComp kx vx [⟨.Tuple elts kk tpos, .Call (.Attribute o "items" apos) [] [] cpos, ifs, 0⟩] scope pos) (pDcI vs i j p pt) :=
  PEi (pe_unl (dictc_run hc hN (tb := fun D => tbK D (tK X.K ks (kVar i)) (tE X.K ks true true (pVar j))) (vs := vs) (B := fun env D it => bodyK (.compLoop (.DictComp kx vx [⟨.Tuple elts kk tpos, .Call (.Attribute o "items" apos) [] [] cpos, ifs, 0⟩] scope pos) 0 it (.ref D) env) kx vx env D) (pi_itemsT ho hbase hline) ok hg ht (fun s H C cl fp D it => bodyK_run (X := X.blk s H scope (compEnvC scope cl C X.env) fp) rfl hu (qk_var i (hk s H C cl fp) hki) (qe_v j (he s H C cl fp) (by rw [getElem?_kd hkj]; rfl) (by rw [getElem?_kd hkj]; rfl) (by rw [getElem?_kd hkj]; rfl))) (fun _ _ _ _ => clauseD) hvs hs)) fun σ H Q ⟨E, L, γ, Qp, hK, R, hp, k⟩ => by
    refine ⟨E, L, γ, _, hK, R, hp, fun x v q1 r1 => ?_⟩
    cases r1 <;> first | exact q1.elim | skip
    rename_i d ws kvs ks1 xs1 vs1 nA hd e1 e2 e3 e4 rl
    subst e1; subst e3; subst e4
    obtain ⟨im, q1⟩ := q1
    rw [wipeS_eq] at q1
    obtain ⟨nn, q1⟩ := q1
    refine ⟨d, ws, rfl, hd, fun od D nD => ?_⟩
    obtain ⟨bx, by_, bz, bcs, b1, b2, b3, b4⟩ := id R.bag
    have dq : E.B.q ≠ d := fun z => by rw [z, hd] at b1; cases b1
    have dr : E.B.r ≠ d := fun z => by rw [z, hd] at b2; cases b2
    have tp1 : ∀ b us, H b = some (.tup us) → upd H d (.frz od (.dT ws)) b = some (.tup us) := fun b us e => by rw [upd_ne (fun z => by rw [z, hd] at e; cases e)]; exact e
    have R1 : Rel (E.bare (upd H d (.frz od (.dT ws)))) [] ks (wipeG γ vs) (L2.wipe σ vs) (upd H d (.frz od (.dT ws))) := (R.wipe vs).bare2 (upd_ne dq) (upd_ne dr) tp1 fun i x e => ⟨(hv i).resolve_right (wipeG_some e).2, immG_at nn e⟩
    have x2 : Ex E.B (upd H d (.frz od (.dT ws))) (upd (upd H d (.frz od (.dT ws))) D (.dT [])) := .new nD
    have R2 : Rel (E.bare (upd H d (.frz od (.dT ws)))) [D] ks (wipeG γ vs) (L2.wipe σ vs) (upd (upd H d (.frz od (.dT ws))) D (.dT [])) := R1.more x2 nD (by rw [upd_same]; exact nofun)
    have hl : kvs.length = ws.length := by have := congrArg List.length e2; simpa using this.symm
    obtain ⟨W, w0, turn⟩ := clause_ok2 (E := E.bare (upd H d (.frz od (.dT ws)))) (L := []) (H1 := upd H d (.frz od (.dT ws))) (js := own.map (·.2)) (J := ItiT d od ws) (tg0 := gTup X.K 2 (gCons (gName i) (gCons (gName j) gNil))) (xs := itemsP kvs) (g := gIt i j) hK nD R1.bag (vs := vs) (γ0 := γ) (σ0 := σ) R2 (d := []) ⟨x2, [], upd_same, rfl, .nil⟩
      (LkP E.B d od ws kvs) ⟨x2.st _ _ upd_same dq.symm, (by
        simp only [List.mem_singleton]
        exact fun z => by rw [← z, upd_same] at nD; cases nD), rl.lk im (fun b us e => x2.tp _ _ (tp1 b us e))⟩
      (fun L1 H1 L2 H2 ⟨g1, g2, g3⟩ f => ⟨f.st _ _ g1 g2 dq.symm, fun z => (f.ls d z).elim g2 (fun e => by rw [g1] at e; cases e), fun A => RpL.lk (g3 fun _ => True) im f.tp A⟩)
      (fun i L2 H2 ⟨g1, g2, g3⟩ hi => by
        have hi2 : i < kvs.length := by simpa [itemsP] using hi
        refine ⟨⟨g1, by omega⟩, fun v H3 hy => ?_⟩
        obtain ⟨T, k2, v', q, f1, rfl, nT, hq, rfl⟩ := hy
        have same : (kvs[i]).1 = k2 := by
          have : (kvs.map (·.1))[i]? = (ws.map (·.1))[i]? := by rw [e2]
          rw [List.getElem?_map, List.getElem?_map, f1, List.getElem?_eq_getElem hi2] at this
          exact Option.some.inj this
        have qT : q ≠ T := fun z => by rw [z, nT] at hq; cases hq
        refine ⟨.new nT, .tup [.tup ((kvs[i]).1.map kP), (kvs[i]).2], ?_, ?_, T, q, v', k2, (kvs[i]).2, rfl, by rw [same], upd_same, by rw [upd_ne qT]; exact hq, fun A => ?_⟩
        · unfold itemsP
          rw [List.getElem?_map, List.getElem?_eq_getElem hi2]; rfl
        · obtain ⟨u, hu2, ru⟩ := (g3 (av (E.bare (upd H d (.frz od (.dT ws)))) L2 true true)).get (i := i) (p := (kvs[i]).2) (by rw [List.getElem?_map, List.getElem?_eq_getElem hi2]; rfl)
          rw [List.getElem?_map, f1] at hu2
          have e5 := Option.some.inj hu2
          subst e5
          rw [same]
          exact Rp.newT (.cons (.tup (.inl hq) (rp_keys k2)) (.cons ru .nil)) av_q nT
        · obtain ⟨u, hu2, ru⟩ := (g3 (fun _ => True)).get (i := i) (p := (kvs[i]).2) (by rw [List.getElem?_map, List.getElem?_eq_getElem hi2]; rfl)
          rw [List.getElem?_map, f1] at hu2
          have e5 := Option.some.inj hu2
          subst e5
          have := ru.mv (H' := upd H2 T (.tup [.ref q, v'])) (A' := fun _ => True) (fun b u e n => absurd trivial n) (fun b us e => by rw [upd_ne (ne_of_none e nT)]; exact e) fun _ _ _ => trivial
          exact this.anti fun _ _ => trivial)
      (fun i L2 H2 ⟨g1, g2, g3⟩ hi => by
        have hi2 : kvs.length ≤ i := by simpa [itemsP] using hi
        exact ⟨g1, by omega⟩)
      (fun {L γ σ H v y Qp Q} R3 iy ry q nx => by
        obtain ⟨T, q0, u, kk, x, rfl, rfl, hT, hq, ru⟩ := iy
        have q : Qp ((γ.set i (some (.tup (kk.map kP)))).set j (some x)) := q
        refine ⟨T, _, rfl, .inl (.inl hT), rfl, _, _, rfl, _, _, rfl, rfl, nx _ _ q ?_ ?_⟩
        · · have R4 := R3.set (i := i) (k := .tt) (x := .tup (kk.map kP)) (v := .ref q0) ⟨rfl, q0, _, _, rfl, rfl, hq, rp_keys kk⟩ (List.getElem?_eq_some_iff.mp hki).1
            rw [set_same hki] at R4
            have R5 := R4.set (i := j) (k := .sh) (x := x) (v := u) ⟨rfl, ru _⟩ (List.getElem?_eq_some_iff.mp hkj).1
            rw [set_same hkj] at R5
            exact R5
        · exact (SameS.set hi).trans (.set hj))
      hvs (fun l => (hv l).imp (fun z => by rcases z with z | z <;> rw [z] <;> rfl) id) (bodyK_ok (D := D) rfl) q1
    refine ⟨W, w0, fun j m H' w => ?_⟩
    rcases turn j m H' w with ⟨st, d', f', ⟨xb, ws', h1, h2, h3⟩, im', q'⟩ | r
    · refine .inl ⟨st, d, od, .dT ws, hd, trivial, xb.st _ _ upd_same dq.symm, ?_⟩
      have nDd : D ≠ d := fun z => by rw [z, upd_same] at nD; cases nD
      have nH : H D = none := by rw [upd_ne nDd] at nD; exact nD
      refine k _ D _ q' ?_ nH ⟨ws', by rw [upd_ne nDd]; exact h1, h2, h3.lk im' (fun b us e => by rw [upd_ne (fun z => by rw [z, xb.st _ _ upd_same dq.symm] at e; cases e)]; exact e) _⟩
      refine ⟨fun b o e n => ?_, fun b us e => ?_, fun b n => ?_, fun _ => ?_⟩
      · by_cases z : b = d
        · rw [z, upd_same, ← hd, ← z]; exact e
        · rw [upd_ne z]; exact xb.st _ _ (by rw [upd_ne z]; exact e) n
      · have z : b ≠ d := fun z => by rw [z, hd] at e; cases e
        rw [upd_ne z]; exact xb.tp _ _ (tp1 _ _ e)
      · by_cases z : b = d
        · rw [z, upd_same]; exact nofun
        · rw [upd_ne z]; exact xb.nn _ (by rw [upd_ne z]; exact n)
      · exact (xb.bg R1.bag).stay (fun o e => by show upd H' d _ E.B.q = _; rw [upd_ne dq]; exact e) fun o e => by show upd H' d _ E.B.r = _; rw [upd_ne dr]; exact e
    · exact .inr r
end
end Vl
namespace Vl
open PySem PySem.Spec L2 Lb PyProof.Rows
theorem Ob.here {B : Bg} {A : Addr → Prop} {H : Hp} {a : Addr} {x : PV} (o : Ob B A H a x) : H a ≠ none := by
  cases x <;> first | exact (o : False).elim | (obtain ⟨_, h, _⟩ := o; rw [h]; exact nofun) | (obtain ⟨_, _, h, _⟩ := o; rw [h]; exact nofun)
def NewO (B : Bg) (A : Addr → Prop) (js : List Nat) (H1 H' : Hp) (x0 : Addr) (y : PV) : Prop := ∃ (c : Nat) (fs : List PV) (ws : List (Str × V)) (dx : Addr) (bs : List Addr), y = .ins c fs ∧ H' x0 = some (.ins (He.ga B.K (clsT c).1) dx ws) ∧ ws.map (·.1) = (clsT c).2.take fs.length ∧
  Fo B (fun b => A b ∨ b ∈ x0 :: bs) H' js 0 fs (ws.map (·.2)) bs ∧ (∀ b ∈ x0 :: bs, H1 b = none) ∧ (x0 :: bs).Nodup
def spIB (c n : Nat) (js : List Nat) (w : Vl.PW) (K : Fg) : Sp := fun vs H Q _ => ∃ (q r : Addr) (A : Addr → Prop) (xs : List PV) (Qp : PV → Prop) (x0 dx : Addr) (H1 : Hp) (us : List V), vs = .ref x0 :: us ∧ us.length = n ∧ H1 x0 = none ∧ H1 dx = none ∧ dx ≠ x0 ∧
  H = upd (upd H1 dx (.own x0)) x0 (.ins (He.ga K (clsT c).1) dx []) ∧ A q ∧ (∀ a, A a → H1 a ≠ none) ∧ BagOk ⟨K, q, r⟩ H1 ∧ RpL ⟨K, q, r⟩ A H1 xs us ∧ w xs Qp ∧ ∀ y H', Qp y → Ex ⟨K, q, r⟩ H1 H' → NewO ⟨K, q, r⟩ A js H1 H' x0 y → Q .non H'
theorem len_IB {c n : Nat} {js : List Nat} {w : Vl.PW} {K : Fg} {vs : List V} {H : Hp} {Q : VK} {E : XK} (h : spIB c n js w K vs H Q E) : vs.length = n + 1 := by obtain ⟨_, _, _, _, _, _, _, _, _, rfl, h, _⟩ := h; simp [h]
theorem rel_initO {B : Bg} {A0 : Addr → Prop} {H1 : Hp} {N : List Str} {xs : List PV} {vs : List V} {ks : List Kd} {x0 dx : Addr} {c : Nat} {js : List Nat} (aq : A0 B.q) (an : ∀ a, A0 a → H1 a ≠ none) (bg : BagOk B H1) (n1 : H1 x0 = none) (n2 : H1 dx = none) (n3 : dx ≠ x0)
    (r : RpL B A0 H1 xs vs) (hk0 : kd ks 0 = .obj .me js) (hk : ∀ i, i < xs.length → kd ks (i + 1) = .sh) :
    Rel ⟨B, A0, H1, x0⟩ [x0] ks (startG N.length (.ins c [] :: xs)) (start N (.ref x0 :: vs)) (upd (upd H1 dx (.own x0)) x0 (.ins (He.ga B.K (clsT c).1) dx [])) := by
  have x1 : Ex B H1 (upd H1 dx (.own x0)) := .new n2
  have nx0 : upd H1 dx (.own x0) x0 = none := by rw [upd_ne (fun z => n3 z.symm)]; exact n1
  have x2 : Ex B H1 (upd (upd H1 dx (.own x0)) x0 (.ins (He.ga B.K (clsT c).1) dx [])) := x1.trans (.new nx0)
  have st : ∀ a o, H1 a = some o → upd (upd H1 dx (.own x0)) x0 (.ins (He.ga B.K (clsT c).1) dx []) a = some o := fun a o e => by
    rw [upd_ne (ne_of_none e n1), upd_ne (ne_of_none e n2)]; exact e
  refine ⟨fun a o h _ => st a o h, x2.nn, x2.bg bg, an, aq, ?_, fun a h => ?_, start_len (by simp [r.length]), ?_⟩
  · obtain ⟨_, _, _, _, _, h, _⟩ := bg; show H1 B.r ≠ none; rw [h]; exact nofun
  · simp at h; subst h; exact ⟨n1, by rw [upd_same]; exact nofun⟩
  · refine ⟨fun i => if i = 0 then [x0] else [], fun i y h => ?_, fun i a h => ?_, fun i j a h h' => ?_, fun i => ?_⟩
    · have h1 := start_get h
      cases i with
      | zero =>
        simp at h1; subst h1
        refine ⟨.ref x0, start_at rfl, ?_⟩
        rw [hk0]
        exact ⟨x0, c, [], [], dx, [], rfl, rfl, rfl, rfl, upd_same, by simp, .nil⟩
      | succ i =>
        simp at h1
        obtain ⟨v, hv, rv⟩ := r.get h1
        refine ⟨v, start_at (by simpa using hv), ?_⟩
        rw [hk i (List.getElem?_eq_some_iff.mp h1).1]
        refine ⟨by simp, rv.mv (fun a o e _ => st a o e) (fun a o e => st a _ e) fun b z n => ?_⟩
        rcases z with z | ⟨_, z⟩ | ⟨_, z⟩
        · rw [z]; exact aq
        · exact z
        · simp at z; rw [z] at n; exact absurd n1 n
    · by_cases hi : i = 0
      · simp [hi] at h; simp [h]
      · simp [hi] at h
    · by_cases hi : i = 0 <;> by_cases hj : j = 0
      · rw [hi, hj]
      · simp [hj] at h'
      · simp [hi] at h
      · simp [hi] at h
    · by_cases hi : i = 0 <;> simp [hi]
section
variable {X : Cx} {N : List Str} {ks ks' kl : List Kd} {sts : List Stmt} {p : GS} {n c : Nat} {js : List Nat} {vs : List V} {H : Hp} {Q : VK} {E : XK}
theorem body_IB (h : QB X ks ks' kl sts p) (hk0 : kd ks 0 = .obj .me js) (hk1 : kd ks' 0 = .obj .me js) (hk : ((ks.drop 1).take n).all (fun x => decide (x = Kd.sh)) = true) (hn : n + 1 ≤ ks.length) (hs : spIB c n js (wI N.length c p) X.K vs H Q E) : ∃ t, PSs X sts t ∧ t { nx := fun _ H' => Q .non H', rt := Q } (start N vs) H := by
  obtain ⟨q, r, A, xs, Qp, x0, dx, H1, us, rfl, hl, n1, n2, n3, rfl, aq, an, bg, rx, w, k⟩ := hs
  refine ⟨_, h, ⟨⟨X.K, q, r⟩, A, H1, x0⟩, [x0], startG N.length (.ins c [] :: xs), ⟨fun γ => getS γ 0 Qp, fun _ _ => False, fun _ => False, fun _ => False⟩, rfl, rel_initO aq an bg n1 n2 n3 rx hk0 (fun i hi => ?_), w, ?_, ?_, fun _ _ _ _ _ _ z => z.elim, fun _ _ _ _ _ _ z => z.elim⟩
  · have := ksh hk (by simp; omega) i (by rw [rx.length, hl] at hi; exact hi)
    unfold kd at this ⊢; simpa [List.getD, Nat.add_comm] using this
  · intro L' γ' σ' H' _ R q1
    obtain ⟨y, hy, q2⟩ := getS_of q1
    obtain ⟨O, h1, h2, h3, h4⟩ := R.sl
    obtain ⟨v, hv, kr⟩ := h1 0 y hy
    rw [hk1] at kr
    obtain ⟨a, c', fs, ws, dx', bs, rfl, rfl, ho, hw, ha, hm, hf⟩ := kr
    have hw : a = x0 := hw
    subst hw
    have inL : ∀ b ∈ a :: bs, b ∈ L' := fun b m => h2 0 b (by rw [ho]; exact m)
    refine k _ H' q2 (ex_of bg R.old R.onn R.bag) ⟨c', fs, ws, dx', bs, rfl, ha, hm, hf.care fun z h _ => ?_, fun b m => (R.lf b (inL b m)).1, by have := h4 0; rw [ho] at this; exact this⟩
    rcases h with h | h
    · exact .inr (.inl ⟨rfl, h⟩)
    · exact .inr (.inr ⟨rfl, inL z h⟩)
  · intro _ _ _ _ _ z; exact z.elim
end
def tNO (K : Fg) (ks : List Kd) (js : List Nat) (p : GE) : TE := fun σ H Q => ∃ (E : Ac) (L : List Addr) (γ : G) (Qp : PV → Prop), E.B.K = K ∧ Rel E L ks γ σ H ∧ p γ Qp ∧
  ∀ x a H', Qp x → Ex E.B H H' → NewO E.B (av E L true true) js H H' a x → Q (.ref a) H'
abbrev QNO (X : Cx) (ks : List Kd) (js : List Nat) (e : Expr) (p : GE) : Prop := PE X e (tNO X.K ks js p)
section
variable {X : Cx} {ks kl : List Kd} {a s : Bool} {e ek : Expr} {es : List Expr} {p p3 : GE} {pa : GA} {pos p0 : Pos} {n c k : Nat} {w : Vl.PW} {ds : List PV} {dvs : List V} {js : List Nat} {ps' : List Str} {st : Stmt}
theorem NewO.back {B : Bg} {A : Addr → Prop} {H0 H1 H' : Hp} {x0 : Addr} {y : PV} (h : NewO B A js H1 H' x0 y) (x : Ex B H0 H1) : NewO B A js H0 H' x0 y := by
  obtain ⟨c, fs, ws, dx, bs, h1, h2, h3, h4, h5, h6⟩ := h
  exact ⟨c, fs, ws, dx, bs, h1, h2, h3, h4, fun b m => x.free (h5 b m), h6⟩
theorem qno_mk (cc : CalI X.prog X.w X.K X.mg X.base (clsT c).1 k ps' (spIB c n js w X.K) dvs) (hd : Dfl X.K ds dvs) (hr : Room (k + 1) X.A) (hg : Gl X (clsT c).1) (h : QA X ks true true (e :: es) pa) (hn : (e :: es).length + dvs.length = n := by rfl) (hdb : ((clsT c).1 == ("__debug__" : Str)) = false := by decide)
    (he : starEach (e :: es) X.env = (false, eval e X.env) :: starEach es X.env := by rfl) (hpl : (backTo pos (starEach es X.env)).any (·.1) = false := by rfl) : QNO X ks js (.Call (.Name (clsT c).1 p0) (e :: es) [] pos) (pCall w ds pa) :=
  PEi (pe_mak cc hr hg h hdb he hpl) fun σ H Q ⟨E, L, γ, Qp, hK, R, hp, k⟩ => by
    refine ⟨E, L, γ, _, hK, R, hp, fun xs vs H1 q1 x1 r1 l1 x0 dx n1 n2 n3 => ?_⟩
    have R1 := R.ex x1
    have rr : RpL E.B (av E L true true) H1 (xs ++ ds) (vs ++ dvs) := r1.append (hd.b hK _ _)
    have hl : (vs ++ dvs).length = n := by rw [List.length_append, ← r1.length, l1]; exact hn
    have nn : ∀ b, av E L true true b → H1 b ≠ none := fun b z => av_nn R1 z
    have bg := R1.bag
    have aq : av E L true true E.B.q := av_q
    clear R R1 r1
    obtain ⟨⟨K, q, r0⟩, A0, H0, me⟩ := E
    cases hK
    exact ⟨q, r0, _, xs ++ ds, Qp, x0, dx, H1, vs ++ dvs, rfl, hl, n1, n2, n3, rfl, aq, nn, bg, rr, q1, fun y H' qy x2 no => ⟨rfl, k y x0 H' qy (x1.trans x2) (no.back x1)⟩⟩
theorem xs_setNO {i : Nat} (pe : ∀ {t : TE}, PE X e t → PS X st (tAsg t (gName i))) (h : QNO X ks js e p) (hi : i < ks.length := by decide) : QS X ks (ks.set i (.obj .any js)) kl st (xSet i p) :=
  PSi (pe h) fun D σ H ⟨E, L, γ, Dp, hK, R, hp, nx, rt, bk, ct⟩ => ⟨E, L, γ, _, hK, R, hp, fun x b H1 q1 x1 no => by
    obtain ⟨c, fs, ws, dx, bs, rfl, hb, hm, hf, hn, nd⟩ := no
    rw [setS_eq] at q1
    have bn : ∀ d ∈ b :: bs, H1 d ≠ none := by
      have go : ∀ {A : Addr → Prop} {m : Nat} {xs : List PV} {vs : List V} {cs : List Addr}, Fo E.B A H1 js m xs vs cs → ∀ d ∈ cs, H1 d ≠ none := by
        intro A m xs vs cs h
        induction h with
        | nil => intro d m; simp at m
        | sh _ _ _ ih => exact ih
        | own _ o _ ih =>
          intro d m
          rcases List.mem_cons.mp m with rfl | m
          · exact o.here
          · exact ih d m
      intro d m
      rcases List.mem_cons.mp m with rfl | m
      · rw [hb]; exact nofun
      · exact go hf d m
    have dn : ∀ d ∈ b :: bs, H d = none ∧ H1 d ≠ none := fun d m => ⟨hn d m, bn d m⟩
    have R1 := R.moreL x1 _ dn
    have f1 : Fw E.B L H (b :: bs ++ L) H1 := .moreL x1 fun d m => (dn d m).1
    refine nx _ _ _ H1 f1 (R.put (i := i) (k := .obj .any js) (x := .ins c fs) (v := .ref b) (O' := b :: bs) f1 (fun c m _ o e => x1.st c o e (R.lq m)) R1.old R1.bag (fun c m => ?_) (fun c m => (R1.lf c m).2) (fun _ h => List.mem_append.mpr (.inr h)) ⟨b, c, fs, ws, dx, bs, rfl, rfl, rfl, trivial, hb, hm, hf.care fun z h n => ?_⟩ (fun c m => List.mem_append.mpr (.inl m)) nd ?_ hi) q1
    · rcases List.mem_append.mp m with m | m
      · exact .inr (R1.lf c (List.mem_append.mpr (.inl m))).1
      · exact .inl m
    · rcases h with h | ⟨_, h⟩ | ⟨_, h⟩
      · exact .inl (.inl h)
      · exact .inl (.inr (.inl ⟨rfl, h⟩))
      · rcases List.mem_append.mp h with m | m
        · exact .inr m
        · exact .inl (.inr (.inr ⟨rfl, m⟩))
    · intro O g2 g3 g1 j c hj hc m
      exact (R.lf c (g2 j c m)).2 (dn c hc).1⟩
theorem qn_dict {keys : List (Option Expr)} {values : List Expr} {l : List (Str × GE)} {t : List (TE × TE)} (h : QPs X ks true true keys values l t) (h0 : keys ≠ [] := by exact nofun) (h15 : keys.length ≤ 15 := by decide) (hd : (l.map (·.1)).Nodup := by decide +kernel) : QN X ks (.Dict keys values pos) (pDict l) :=
  PEi (pe_disp h.pps h.len.2.1 h.len.1 h0 h15) fun σ H Q ⟨E, L, γ, Qp, hK, R, hp, k⟩ => by
    intro p np
    have R1 := R.more (D := p) (Ex.new (B := E.B) (o := .dK []) np) np (by rw [upd_same]; exact nofun)
    refine h.run hK R1 hp fun kvs ws H2 q x2 e1 e2 r2 => ?_
    have hp2 : H2 p = some (.dK []) := x2.st p _ upd_same fun z => by
      have := R.bag.q; rw [← z] at this; exact this np
    have hl : ws.length = l.length := by
      have := congrArg List.length (e1.symm.trans e2); simpa using this
    refine ⟨hp2, ws, rfl, by rw [hl, h.len.2.2, ← h.len.1]; exact h15, ?_⟩
    have nd : (ws.map (·.1)).Nodup := by
      rw [← e1, e2]
      have : (l.map fun y => (Sum.inr y.1 : Key)) = (l.map (·.1)).map Sum.inr := by rw [List.map_map]; rfl
      rw [this]
      exact List.Pairwise.map _ (fun _ _ h e => h (Sum.inr.inj e)) hd
    rw [merge_new (kvs := []) (by simpa using nd), List.nil_append]
    have xx : Ex E.B H (upd H2 p (.dK ws)) := by
      refine ⟨fun b o hb nb => ?_, fun b vs hb => ?_, fun b hb => ?_, fun hbg => ?_⟩
      · have hne : b ≠ p := fun z => by rw [z] at hb; rw [np] at hb; cases hb
        rw [upd_ne hne]
        exact x2.st b o (by rw [upd_ne hne]; exact hb) nb
      · have hne : b ≠ p := fun z => by rw [z] at hb; rw [np] at hb; cases hb
        rw [upd_ne hne]
        exact x2.tp b vs (by rw [upd_ne hne]; exact hb)
      · have hne : b ≠ p := fun z => hb (by rw [z]; exact np)
        rw [upd_ne hne]
        exact x2.nn b (by rw [upd_ne hne]; exact hb)
      · have b1 : BagOk E.B H2 := x2.bg (hbg.stay (fun o e => by rw [upd_ne (fun z => by rw [z] at e; rw [np] at e; cases e)]; exact e) fun o e => by rw [upd_ne (fun z => by rw [z] at e; rw [np] at e; cases e)]; exact e)
        refine b1.stay (fun o e => ?_) fun o e => ?_
        · rw [upd_ne (fun z => by rw [z] at e; have := hbg.q; rw [z] at this; exact this np)]; exact e
        · rw [upd_ne (fun z => by
            obtain ⟨_, _, _, _, _, hr, _⟩ := hbg
            rw [z] at hr; rw [np] at hr; cases hr)]; exact e
    refine k _ p _ q xx np ⟨ws, upd_same, e1, ?_⟩
    exact r2.mv (fun b o hb nb => by
      have hbp : b ≠ p := fun z => nb (.inr (.inr ⟨rfl, by rw [z]; exact List.mem_cons_self ..⟩))
      rw [upd_ne hbp]; exact hb) (fun b vs hb => by
      have hne : b ≠ p := fun z => by rw [z] at hb; rw [hp2] at hb; cases hb
      rw [upd_ne hne]; exact hb) fun b z _ => by
        rcases z with (z | z | ⟨z1, z⟩) | z
        · exact .inl z
        · exact .inr (.inl z)
        · exact .inr (.inr ⟨z1, List.mem_cons_of_mem _ z⟩)
        · exact .inr (.inr ⟨rfl, by rw [z]; exact List.mem_cons_self ..⟩)
theorem Rel.upd1g {E : Ac} {L : List Addr} {γ : G} {σ : L2.St} {H : Hp} {i : Nat} {x : PV} {kk : Kd} (R : Rel E L ks γ σ H) (hk : ks[i]? = some kk) (ho : kk.lk = some .own) (hx : γ[i]? = some (some x)) : ∃ b, σ[i]? = some (some (.ref b)) ∧ b ∈ L ∧ Ob E.B (av E L true true) H b x ∧
    ∀ o x', Ob E.B (av E L true true) (upd H b o) b x' → Rel E L ks (γ.set i (some x')) σ (upd H b o) := by
  cases kk <;> cases ho
  · exact R.upd1 hk hx
  · rename_i b0
    obtain ⟨O, h1, h2, h3, h4⟩ := R.sl
    obtain ⟨v, hv, k⟩ := h1 i x hx
    rw [getElem?_kd hk] at k
    obtain ⟨rfl, ho, ob⟩ := k
    have hb : b0 ∈ L := h2 i b0 (by rw [ho]; simp)
    refine ⟨b0, hv, hb, ob, fun o x' ob' => ?_⟩
    have hr : b0 ≠ E.B.r := fun z => R.ar (by rw [← z]; exact (R.lf b0 hb).1)
    have := R.put (i := i) (k := .ownA b0) (x := x') (v := .ref b0) (O' := [b0]) (.upd (o := o) hb ob.nt) (fun c m n u e => by rw [upd_ne (fun z => n (by simp [z]))]; exact e)
      (fun c u e n => by rw [upd_ne (fun z => by rw [z, (R.lf b0 hb).1] at e; cases e)]; exact R.old c u e n) (R.bag.stay (fun u e => by rw [upd_ne (R.lq hb).symm]; exact e) fun u e => by rw [upd_ne hr.symm]; exact e)
      (fun c m => .inl m) (fun c m => (Fw.upd (B := E.B) hb ob.nt).nn c (R.lf c m).2) (fun _ h => h) ⟨rfl, rfl, ob'⟩ (fun c m => by simp at m; rw [m]; exact hb) (by simp) (fun O' g2 g3 g1 j c hj hc m => by
        simp at hc; subst hc
        obtain ⟨w, hw, kw⟩ := g1 i x hx
        rw [getElem?_kd hk] at kw
        obtain ⟨_, e2, _⟩ := kw
        exact hj (g3 j i c m (by rw [e2]; simp))) (List.getElem?_eq_some_iff.mp hk).1
    rw [set_same hk, set_self hv] at this
    exact this
def xSetDX (i : Nat) (k e : GE) : GS := fun D γ => e γ fun y => getS γ i fun d => k γ fun z => match d with
  | .dK kvs => (match kOf z with | some kk => kvs.length < sizeLine ∧ setS γ i (some (.dK (putP kvs kk y))) D.nx | none => False)
  | _ => False
/-- d[text] = v -/
theorem xs_setDX {i : Nat} {kk : Kd} {a s : Bool} (pe : ∀ {t : TE} {t' : TE}, PE X e t → PE X ek t' → PS X st (tAsg t (gSub (tVar i) t' rSetD))) (h : QE X ks true true e p) (h3 : QE X ks a s ek p3) (hk : ks[i]? = some kk := by rfl) (ho : kk.lk = some .own := by rfl) : QS X ks ks kl st (xSetDX i p3 p) :=
  PSi (pe h h3) fun D σ H ⟨E, L, γ, Dp, hK, R, hp, nx, rt, bk, ct⟩ => by
    refine ⟨E, L, γ, _, hK, R, hp, fun y u H1 q1 x1 ry => ?_⟩
    obtain ⟨x, hx, q⟩ := getS_of q1
    obtain ⟨b, hv, hb, -, -⟩ := (R.ex x1).upd1g hk ho hx
    refine ⟨.ref b, hv, E, L, γ, _, hK, R.ex x1, q, fun z t H2 q2 x2 rz => ?_⟩
    cases x <;> first | exact (q2 : False).elim | skip
    rename_i kvs
    have q2 : (match kOf z with | some kk => kvs.length < sizeLine ∧ setS γ i (some (.dK (putP kvs kk y))) Dp.nx | none => False) := q2
    cases hz : kOf z with
    | none => rw [hz] at q2; exact q2.elim
    | some k1 =>
      rw [hz] at q2
      obtain ⟨q4, q5⟩ := q2
      rw [setS_eq] at q5
      have ek := kOf_rp rz hz
      have R3 := (R.ex x1).ex x2
      obtain ⟨b', hv', hb', ob', up⟩ := R3.upd1g hk ho hx
      rw [hv] at hv'; cases hv'
      obtain ⟨ws, g1, g2, g3⟩ := ob'
      have nt : ∀ vs', H2 b ≠ some (.tup vs') := fun z => by rw [g1]; exact nofun
      have hl : kvs.length = ws.length := by have := congrArg List.length g2; simpa using this
      refine ⟨b, _, rfl, by rw [ek]; exact DPut.k (k := k1) g1 (by rw [← hl]; exact q4), ?_⟩
      have ryy : Rp E.B (av E L true true) H2 y u := ry.ex x2 av_q
      have pr := put_rp (k := k1) (ryy.upL (o := .dK (putK ws k1 u)) hb nt) g2 (g3.upL (o := .dK (putK ws k1 u)) hb nt)
      exact nx L _ _ _ (Fw.trans (x1.trans x2).fw (.upd hb nt)) (up _ (.dK (putP kvs k1 y)) ⟨_, upd_same, pr.1, pr.2⟩) q5
end
end Vl
namespace Vl
open PySem PySem.Spec L2 Lb PyProof.Rows
def unw (γ : G) (γ' : G) : List Nat → G
  | [] => γ'
  | v :: vs => (unw γ γ' vs).set v (γ.getD v none)
def unwS (γ : G) (vs : List Nat) : G → (G → Prop) → Prop :=
  List.rec (motive := fun _ => G → (G → Prop) → Prop) (fun γ' K => K γ') (fun v _ ih γ' K => ih γ' fun γ1 => setS γ1 v (γ.getD v none) K) vs
theorem unwS_eq (γ : G) : ∀ (vs : List Nat) (γ' : G) (K : G → Prop), unwS γ vs γ' K = K (unw γ γ' vs)
  | [], _, _ => rfl
  | v :: vs, γ', K => (unwS_eq γ vs γ' fun γ1 => setS γ1 v (γ.getD v none) K).trans (setS_eq _ _ _ _)
theorem unw_len {γ γ' : G} : ∀ {vs : List Nat}, (unw γ γ' vs).length = γ'.length
  | [] => rfl
  | v :: vs => by rw [unw, List.length_set, unw_len]
theorem unw_some {γ γ' : G} {i : Nat} {x : PV} : ∀ {vs : List Nat}, (unw γ γ' vs)[i]? = some (some x) → (i ∈ vs ∧ γ[i]? = some (some x)) ∨ (i ∉ vs ∧ γ'[i]? = some (some x))
  | [], h => .inr ⟨by simp, h⟩
  | v :: vs, h => by
    rw [unw] at h
    by_cases e : i = v
    · subst e
      left
      rw [List.getElem?_set] at h
      by_cases hl : i < (unw γ γ' vs).length
      · simp [hl] at h
        refine ⟨by simp, ?_⟩
        cases q : γ[i]? with
        | none => rw [q] at h; simp at h
        | some y => rw [q] at h; simp at h; rw [h]
      · simp [hl] at h
    · rw [List.getElem?_set_ne (fun z => e z.symm)] at h
      rcases unw_some h with ⟨m, q⟩ | ⟨m, q⟩
      · exact .inl ⟨by simp [m], q⟩
      · exact .inr ⟨by simp [m, e], q⟩
def lcfQ (g : GG) (e : GF) (vs : List Nat) : List PV → G → (List PV → G → Prop) → Prop
  | [], γ, Q => Q [] γ
  | x :: xs, γ, Q => g x γ fun γ2 => e γ2 fun y γ3 => wipeS γ3 vs fun γ4 => lcfQ g e vs xs γ4 fun ys γ5 => Q (y :: ys) γ5
@[irreducible] def lcfP (g : GG) (e : GF) (vs : List Nat) (xs : List PV) (γ : G) (Q : List PV → G → Prop) : Prop := lcfQ g e vs xs γ Q
section
variable {g : GG} {e : GF} {vs : List Nat} {γ : G} {x : PV} {xs : List PV} {Q : List PV → G → Prop}
theorem lcf_eq : lcfP g e vs xs γ Q = lcfQ g e vs xs γ Q := by unfold lcfP; rfl
theorem lcf_nil (h : Q [] γ) : lcfP g e vs [] γ Q := by rw [lcf_eq]; exact h
theorem lcf_cons (h : g x γ fun γ2 => e γ2 fun y γ3 => wipeS γ3 vs fun γ4 => lcfP g e vs xs γ4 fun ys γ5 => Q (y :: ys) γ5) : lcfP g e vs (x :: xs) γ Q := by
  rw [lcf_eq]
  simp only [lcf_eq] at h
  exact h
theorem lcf_nil' (h : lcfP g e vs [] γ Q) : Q [] γ := by rw [lcf_eq] at h; exact h
theorem lcf_cons' (h : lcfP g e vs (x :: xs) γ Q) : g x γ fun γ2 => e γ2 fun y γ3 => lcfP g e vs xs (wipeG γ3 vs) fun ys γ5 => Q (y :: ys) γ5 := by
  rw [lcf_eq] at h
  have h : g x γ fun γ2 => e γ2 fun y γ3 => wipeS γ3 vs fun γ4 => lcfQ g e vs xs γ4 fun ys γ5 => Q (y :: ys) γ5 := h
  simp only [wipeS_eq] at h
  simp only [lcf_eq]
  exact h
end
def pLcF (vs : List Nat) (it : GA) (g : GG) (e : GF) : GF := fun γ Q => it γ fun xs => (xs.length ≤ sizeLine ∧ immL xs = true) ∧ wipeS γ vs fun γw => lcfP g e vs xs γw fun ys γ5 => unwS γ vs γ5 fun γ6 => Q (.lst ys) γ6
def Ac.kp (E : Ac) (D : Addr) (o : HO) : Ac := ⟨E.B, fun a => E.A0 a ∨ a = D, upd E.H0 D o, E.me⟩
section
variable {E : Ac} {L L' : List Addr} {ks : List Kd} {γ : G} {σ : L2.St} {H H' : Hp} {D : Addr} {o : HO}
theorem av_kp {a s : Bool} {z : Addr} (h : av E L a s z) : av (E.kp D o) L a s z := by
  rcases h with h | ⟨e, h⟩ | h
  · exact .inl h
  · exact .inr (.inl ⟨e, .inl h⟩)
  · exact .inr (.inr h)
theorem Kr.an {E' : Ac} {k : Kd} {x : PV} {v : V} {O : List Addr} (hB : E'.B = E.B) (hm : E'.me = E.me) (g : ∀ (b : Bool) (z : Addr), av E L' b true z → H z ≠ none → av E' L b true z) (h : Kr E' L H k x v O) : Kr E L' H k x v O := by
  have gg := fun z => g true z
  cases k with
  | sh => exact ⟨h.1, by have := h.2; rw [hB] at this; exact this.mv (fun _ _ h _ => h) (fun _ _ h => h) gg⟩
  | bor => exact ⟨h.1, by have := h.2; rw [hB] at this; exact this.mv (fun _ _ h _ => h) (fun _ _ h => h) (g false)⟩
  | own => obtain ⟨a, e1, rfl, h⟩ := h; exact ⟨a, e1, rfl, by rw [hB] at h; exact h.care gg⟩
  | own2 =>
    obtain ⟨a, xs, as, e1, rfl, e2, h1, h2⟩ := h
    exact ⟨a, xs, as, e1, rfl, e2, h1, by rw [hB] at h2; exact h2.mv (fun _ _ h _ => h) (fun _ _ h => h) gg fun _ _ _ h => h⟩
  | slf => obtain ⟨a, e1, rfl, ⟨e2, e3⟩, h⟩ := h; exact ⟨a, e1, rfl, ⟨e2, by rw [e3, hm]⟩, by rw [hB] at h; exact h.care gg⟩
  | slfD fl =>
    obtain ⟨a, b, c, fs, ws, dx, y, e1, rfl, ⟨e2, e3⟩, h1, h2, h3, h4, h5, h6⟩ := h
    rw [hB] at h1 h5 h6
    exact ⟨a, b, c, fs, ws, dx, y, e1, rfl, ⟨e2, by rw [e3, hm]⟩, h1, h2, h3, h4, h5.care gg, h6.mv (fun _ _ h _ => h) (fun _ _ h => h) gg⟩
  | tt =>
    obtain ⟨e0, a, xs, vs, e1, e2, h1, h2⟩ := h
    rw [hB] at h2
    exact ⟨e0, a, xs, vs, e1, e2, h1, h2.mv (fun _ _ h _ => h) (fun _ _ h => h) gg⟩
  | deep =>
    have h : RpO E'.B (av E' L true true) H x v O := h
    rw [hB] at h
    exact RpO.mv (fun _ _ h _ => h) (fun _ _ h => h) gg (fun _ _ _ h => h) h
  | exc a d f =>
    obtain ⟨e0, e1, e2, h⟩ := h
    refine ⟨e0, e1, e2, fun b e => ?_⟩
    obtain ⟨n, u, h1, h2⟩ := h b e
    rw [hB] at h2
    exact ⟨fun z => n (gg b z (by rw [h1]; exact nofun)), u, h1, h2.mv (fun _ _ h _ => h) (fun _ _ h => h) gg⟩
  | fz =>
    obtain ⟨e0, a, od, kvs, ws, e1, e2, n, h1, h2, h3⟩ := h
    rw [hB] at h3
    exact ⟨e0, a, od, kvs, ws, e1, e2, fun z => n (g false a z (by rw [h1]; exact nofun)), h1, h2, h3.mv (fun _ _ h _ => h) (fun _ _ h => h) (g false)⟩
  | obj w js =>
    obtain ⟨a, c, fs, ws, dx, bs, e1, e2, rfl, e3, h1, h2, h3⟩ := h
    rw [hB] at h1 h3
    exact ⟨a, c, fs, ws, dx, bs, e1, e2, rfl, by rw [hm] at e3; exact e3, h1, h2, h3.care gg⟩
  | ownA b => obtain ⟨e1, rfl, h⟩ := h; exact ⟨e1, rfl, by rw [hB] at h; exact h.care gg⟩
/-- D comes in -/
theorem Rel.kp_in (R : Rel E L ks γ σ H) (n : H D = none) (nq : D ≠ E.B.q) : Rel (E.kp D o) L ks γ σ (upd H D o) := by
  have x : Ex E.B H (upd H D o) := .new n
  have R1 := R.ex x
  have nL : D ∉ L := fun z => (R.lf D z).2 n
  refine ⟨fun a u h m => ?_, fun a h => ?_, R1.bag, fun a h => ?_, .inl R.aq, ?_, fun a m => ⟨?_, (R1.lf a m).2⟩, R1.len, ?_⟩
  · by_cases z : a = D
    · subst z
      have h : upd E.H0 a o a = some u := h
      rw [upd_same] at h ⊢; exact h
    · have h : upd E.H0 D o a = some u := h
      rw [upd_ne z] at h; exact R1.old a u h m
  · by_cases z : a = D
    · rw [z, upd_same]; exact nofun
    · have h : upd E.H0 D o a ≠ none := h
      rw [upd_ne z] at h; exact R1.onn a h
  · show upd E.H0 D o a ≠ none
    by_cases z : a = D
    · rw [z, upd_same]; exact nofun
    · rw [upd_ne z]; exact R1.a0 a (h.resolve_right z)
  · show upd E.H0 D o E.B.r ≠ none
    by_cases z : E.B.r = D
    · rw [z, upd_same]; exact nofun
    · rw [upd_ne z]; exact R1.ar
  · show upd E.H0 D o a = none
    rw [upd_ne (fun z => nL (by rw [← z]; exact m))]; exact (R.lf a m).1
  · obtain ⟨O, h1, h2, h3, h4⟩ := R.sl
    refine ⟨O, fun i y hy => ?_, h2, h3, h4⟩
    obtain ⟨v, hv, k⟩ := h1 i y hy
    refine ⟨v, hv, ?_⟩
    have k2 : Kr (E.kp D o) L H (kd ks i) y v (O i) := Kr.an (E := E.kp D o) (E' := E) (h := k) rfl rfl fun b z h hz => by
      rcases h with h | ⟨e, h⟩ | h
      · exact .inl h
      · have h : E.A0 z ∨ z = D := h
        exact h.elim (fun h => .inr (.inl ⟨e, h⟩)) fun h => absurd (by rw [h]; exact n) hz
      · exact .inr (.inr h)
    exact Kr.mv (E := E.kp D o) (L := L) (L' := L) (fun a u e m _ => x.st a u e m) x.tp (fun a m => .inl m) (fun a m u e => x.st a u e (R.lq (h2 i a m))) k2
def Kd.kpo : Kd → Bool
  | .sh => true
  | .own => true
  | .own2 => true
  | .tt => true
  | .obj _ _ => true
  | .ownA _ => true
  | _ => false
theorem Kr.kp_put {o' : HO} {k : Kd} {x : PV} {v : V} {O : List Addr} (hk : k.kpo = true) (e0 : H D = some o) (nt : ∀ vs, o ≠ .tup vs) (nO : D ∉ O) (h : Kr (E.kp D o) L H k x v O) : Kr (E.kp D o') L (upd H D o') k x v O := by
  have f : ∀ a u, H a = some u → ¬ av (E.kp D o) L true true a → upd H D o' a = some u := fun a u e n => by rw [upd_ne (fun z => n (.inr (.inl ⟨rfl, .inr z⟩)))]; exact e
  have ft : ∀ a vs, H a = some (.tup vs) → upd H D o' a = some (.tup vs) := fun a vs e => by rw [upd_ne (fun z => by rw [z, e0] at e; exact nt vs (Option.some.inj e))]; exact e
  have g : ∀ a, av (E.kp D o') L true true a → H a ≠ none → av (E.kp D o) L true true a := fun a h _ => h
  have fo : ∀ a ∈ O, ∀ u, H a = some u → upd H D o' a = some u := fun a m u e => by rw [upd_ne (fun z => nO (by rw [← z]; exact m))]; exact e
  cases k <;> cases hk
  · exact ⟨h.1, h.2.mv f ft g⟩
  · obtain ⟨a, e1, rfl, h⟩ := h; exact ⟨a, e1, rfl, h.mv f ft g (fo a (by simp))⟩
  · obtain ⟨a, xs, as, e1, rfl, e2, h1, h2⟩ := h
    exact ⟨a, xs, as, e1, rfl, e2, fo a (by simp) _ h1, h2.mv f ft g fun b m => fo b (by simp [m])⟩
  · obtain ⟨e0, a, xs, vs, e1, e2, h1, h2⟩ := h
    exact ⟨e0, a, xs, vs, e1, e2, ft a vs h1, h2.mv f ft g⟩
  · obtain ⟨a, c, fs, ws, dx, bs, e1, e2, rfl, e3, h1, h2, h3⟩ := h
    exact ⟨a, c, fs, ws, dx, bs, e1, e2, rfl, e3, fo a (by simp) _ h1, h2, h3.mv f ft g fun b m => fo b (by simp [m])⟩
  · obtain ⟨e1, rfl, h⟩ := h; exact ⟨e1, rfl, h.mv f ft g (fo _ (by simp))⟩
/-- D goes on -/
theorem Rel.kp_put {o' : HO} (R : Rel (E.kp D o) L ks γ σ H) (hv : ∀ i x, γ[i]? = some (some x) → (kd ks i).kpo = true) (e0 : H D = some o) (nt : ∀ vs, o ≠ .tup vs) (nq : D ≠ E.B.q) (nr : D ≠ E.B.r) : Rel (E.kp D o') L ks γ σ (upd H D o') := by
  have nL : D ∉ L := fun z => by have := (R.lf D z).1; have this : upd E.H0 D o D = none := this; rw [upd_same] at this; cases this
  have tp : ∀ a vs, H a = some (.tup vs) → upd H D o' a = some (.tup vs) := fun a vs e => by
    rw [upd_ne (fun z => by rw [z, e0] at e; exact nt vs (Option.some.inj e))]; exact e
  refine ⟨fun a u h m => ?_, fun a h => ?_, ?_, fun a h => ?_, R.aq, ?_, fun a m => ⟨?_, ?_⟩, R.len, ?_⟩
  · have h : upd E.H0 D o' a = some u := h
    by_cases z : a = D
    · subst z
      rw [upd_same] at h ⊢; exact h
    · rw [upd_ne z] at h ⊢
      exact R.old a u (by show upd E.H0 D o a = _; rw [upd_ne z]; exact h) m
  · have h : upd E.H0 D o' a ≠ none := h
    by_cases z : a = D
    · rw [z, upd_same]; exact nofun
    · rw [upd_ne z] at h ⊢
      exact R.onn a (by show upd E.H0 D o a ≠ _; rw [upd_ne z]; exact h)
  · exact R.bag.stay (fun u e => by show upd H D o' E.B.q = _; rw [upd_ne nq.symm]; exact e) fun u e => by show upd H D o' E.B.r = _; rw [upd_ne nr.symm]; exact e
  · show upd E.H0 D o' a ≠ none
    by_cases z : a = D
    · rw [z, upd_same]; exact nofun
    · have := R.a0 a h
      have this : upd E.H0 D o a ≠ none := this
      rw [upd_ne z] at this ⊢; exact this
  · have := R.ar
    have this : upd E.H0 D o E.B.r ≠ none := this
    show upd E.H0 D o' E.B.r ≠ none
    rw [upd_ne nr.symm] at this ⊢; exact this
  · have := (R.lf a m).1
    have this : upd E.H0 D o a = none := this
    show upd E.H0 D o' a = none
    have z : a ≠ D := fun z => nL (by rw [← z]; exact m)
    rw [upd_ne z] at this ⊢; exact this
  · have z : a ≠ D := fun z => nL (by rw [← z]; exact m)
    rw [upd_ne z]; exact (R.lf a m).2
  · obtain ⟨O, h1, h2, h3, h4⟩ := R.sl
    refine ⟨O, fun i y hy => ?_, h2, h3, h4⟩
    obtain ⟨v, hv', k⟩ := h1 i y hy
    exact ⟨v, hv', k.kp_put (hv i y hy) e0 nt fun m => nL (h2 i D m)⟩
/-- D is forgotten -/
theorem Rel.kp_out {L0 : List Addr} {ks0 : List Kd} {γ0 : G} {σ0 : L2.St} {H0 : Hp} (R0 : Rel E L0 ks0 γ0 σ0 H0) (R : Rel (E.kp D o) L ks γ σ H) (n0 : E.H0 D = none) : Rel E L ks γ σ H := by
  have up : ∀ a, a ≠ D → upd E.H0 D o a = E.H0 a := fun a z => upd_ne z
  refine ⟨fun a u h m => R.old a u (by show upd E.H0 D o a = _; rw [up a (fun z => by rw [z, n0] at h; cases h)]; exact h) m, fun a h => R.onn a (by show upd E.H0 D o a ≠ _; rw [up a (fun z => h (by rw [z]; exact n0))]; exact h), R.bag, R0.a0, R0.aq, R0.ar, fun a m => ⟨?_, (R.lf a m).2⟩, R.len, ?_⟩
  · have := (R.lf a m).1
    have this : upd E.H0 D o a = none := this
    by_cases z : a = D
    · rw [z, upd_same] at this; cases this
    · rw [upd_ne z] at this; exact this
  · obtain ⟨O, h1, h2, h3, h4⟩ := R.sl
    refine ⟨O, fun i y hy => ?_, h2, h3, h4⟩
    obtain ⟨v, hv, k⟩ := h1 i y hy
    exact ⟨v, hv, Kr.an (E := E) (E' := E.kp D o) (h := k) rfl rfl fun b z h _ => av_kp h⟩
theorem wipeG_no {γ : G} {i : Nat} : ∀ {vs : List Nat}, i ∉ vs → (wipeG γ vs)[i]? = γ[i]?
  | [], _ => rfl
  | v :: vs, h => by
    simp only [List.mem_cons, not_or] at h
    unfold wipeG
    rw [List.getElem?_set_ne (fun z => h.1 z.symm)]
    exact wipeG_no h.2
theorem Rel.sub {γ' : G} (R : Rel E L ks γ σ H) (h : ∀ (i : Nat) (x : PV), γ'[i]? = some (some x) → γ[i]? = some (some x)) (hl : γ'.length = γ.length) : Rel E L ks γ' σ H := by
  obtain ⟨O, s1, s2, s3, s4⟩ := R.sl
  exact ⟨R.old, R.onn, R.bag, R.a0, R.aq, R.ar, R.lf, hl.trans R.len, O, fun i x e => s1 i x (h i x e), s2, s3, s4⟩
theorem wipeG_len {γ : G} : ∀ {vs : List Nat}, (wipeG γ vs).length = γ.length
  | [] => rfl
  | v :: vs => by unfold wipeG; rw [List.length_set, wipeG_len]
theorem wipeG_sub {γ : G} {js ws : List Nat} (s : ∀ j ∈ js, j ∈ ws) : ∀ (i : Nat) (x : PV), (wipeG γ ws)[i]? = some (some x) → (wipeG γ js)[i]? = some (some x) := fun i x h => by
  obtain ⟨h1, h2⟩ := wipeG_some h
  rw [wipeG_no fun z => h2 (s i z)]; exact h1
/-- the block's slots are the outer ones again -/
theorem Rel.unwipe {L1 : List Addr} {γ1 : G} {H1 : Hp} {js vs : List Nat} (sj : ∀ j ∈ js, j ∈ vs) (R : Rel E L ks γ σ H) (f : Fw E.B L H L1 H1) (R1 : Rel E L1 ks γ1 (L2.wipe σ js) H1) (hv : ∀ i ∈ vs, kd ks i = .sh ∨ kd ks i = .bor ∨ kd ks i = .tt) : Rel E L1 ks (unw γ γ1 vs) σ H1 := by
  obtain ⟨O, s1, s2, s3, s4⟩ := R.sl
  obtain ⟨O', r1, r2, r3, r4⟩ := R1.sl
  obtain ⟨O2, q1, q2⟩ : ∃ O2 : Nat → List Addr, (∀ i, i ∈ vs → O2 i = []) ∧ ∀ i, i ∉ vs → O2 i = O' i := ⟨fun i => if i ∈ vs then [] else O' i, fun i h => if_pos h, fun i h => if_neg h⟩
  refine ⟨R1.old, R1.onn, R1.bag, R1.a0, R1.aq, R1.ar, R1.lf, by rw [unw_len, R1.len, wipe_length], O2, fun i x h => ?_, fun i a m => ?_, fun i j a m m' => ?_, fun i => ?_⟩
  · rcases unw_some h with ⟨m, h⟩ | ⟨m, h⟩
    · obtain ⟨v, hv', k⟩ := s1 i x h
      refine ⟨v, hv', ?_⟩
      rw [q1 i m]
      have o0 : O i = [] := by
        rcases hv i m with e | e | e <;> rw [e] at k <;> exact k.1
      rw [o0] at k
      exact k.mv (fun a o e n nl => f.st a o e (fun z => nl z) n) f.tp (fun a z => f.ls a z) fun a z => nomatch z
    · obtain ⟨v, hv', k⟩ := r1 i x h
      rw [wipe_at (fun z => m (sj i z))] at hv'
      refine ⟨v, hv', ?_⟩
      rw [q2 i m]; exact k
  · by_cases q : i ∈ vs
    · rw [q1 i q] at m; cases m
    · rw [q2 i q] at m; exact r2 i a m
  · by_cases q : i ∈ vs
    · rw [q1 i q] at m; cases m
    · rw [q2 i q] at m
      by_cases q' : j ∈ vs
      · rw [q1 j q'] at m'; cases m'
      · rw [q2 j q'] at m'; exact r3 i j a m m'
  · by_cases q : i ∈ vs
    · rw [q1 i q]; exact List.nodup_nil
    · rw [q2 i q]; exact r4 i
end
section
variable {X : Cx} {ks : List Kd} {a1 : Bool} {e elt tg iter : Expr} {pa : GA} {g : GG} {pf : GF}
theorem hl_by {ks : List Kd} {vs : List Nat} (h : (List.range ks.length).all (fun i => (kd ks i).kpo || decide (i ∈ vs)) = true) (i : Nat) : (kd ks i).kpo = true ∨ i ∈ vs := by
  by_cases hi : i < ks.length
  · have := List.all_eq_true.mp h i (List.mem_range.mpr hi)
    simpa using this
  · refine .inl ?_
    unfold kd
    rw [List.getD_eq_getElem?_getD, List.getElem?_eq_none (by omega)]; rfl
theorem hw3_by {ks : List Kd} {vs : List Nat} (h : vs.all (fun i => (decide (kd ks i = .sh) || decide (kd ks i = .bor)) || decide (kd ks i = .tt)) = true) (i : Nat) (m : i ∈ vs) : kd ks i = .sh ∨ kd ks i = .bor ∨ kd ks i = .tt := by
  have := List.all_eq_true.mp h i m
  simp at this
  rcases this with (h | h) | h
  · exact .inl h
  · exact .inr (.inl h)
  · exact .inr (.inr h)
theorem lcF_ok {K : Fg} {js vs : List Nat} (hvs : ∀ j ∈ js, j ∈ vs) (hv : ∀ i, (kd ks i).kpo = true ∨ i ∈ vs) (hw : ∀ i ∈ vs, kd ks i = .sh ∨ kd ks i = .bor ∨ kd ks i = .tt) {σ : L2.St} {H : Hp} {Q : VK} (h : tF2 K ks (pLcF vs pa g pf) σ H Q) : tLc (tI K ks a1 pa) (tG K ks true true js g) (tT K ks pYes) (tF2 K ks pf) js σ H Q := by
  obtain ⟨E, L, γ, Qp, hK, R, hp, k⟩ := h
  refine ⟨E, L, γ, _, hK, R, hp, fun xs J H1 ⟨⟨hz, im⟩, hq⟩ x1 ⟨P, p0, pf', pg, ps⟩ D nD => ?_⟩
  rw [wipeS_eq] at hq
  have R1 := R.ex x1
  have nH : H D = none := x1.free nD
  have nL : D ∉ L := fun z => (R1.lf D z).2 nD
  have hDq : D ≠ E.B.q := fun z => R1.bag.q (by rw [← z]; exact nD)
  have hDr : D ≠ E.B.r := fun z => bag_r R1.bag (by rw [← z]; exact nD)
  have n0 : E.H0 D = none := Classical.byContradiction fun z => R1.onn D z nD
  have x1' : Ex E.B H1 (upd H1 D (.lst [])) := .new nD
  refine ⟨fun n m H2 => m = xs.length - n ∧ ∃ acc ys M γ2 Qk, Fw E.B L H1 M H2 ∧ D ∉ M ∧ H2 D = some (.lst acc) ∧ Rel (E.kp D (.lst acc)) M ks γ2 (L2.wipe σ js) H2 ∧ (∀ i x, γ2[i]? = some (some x) → i ∉ vs) ∧ RpL E.B (av (E.kp D (.lst acc)) M true true) H2 ys acc ∧ ys.length ≤ n ∧ lcfP g pf vs (xs.drop n) γ2 Qk ∧ ∀ y2 z, Qk y2 z → unwS γ vs z fun γ6 => Qp (.lst (ys ++ y2)) γ6,
    ⟨_, rfl, [], [], L, wipeG γ vs, _, x1'.fw, nL, upd_same, ((R1.wipe js).sub (wipeG_sub hvs) (by rw [wipeG_len, wipeG_len])).kp_in nD hDq, fun i x h => (wipeG_some h).2, .nil, by simp, hq, fun y2 z q => q⟩, ?_⟩
  rintro n m H2 ⟨rfl, acc, ys, M, γ2, Qk, f2, nM, hD, R2, hs, ra, hl, hc, hQ⟩
  have m0 : ∀ {H3 : Hp}, Ex E.B H2 H3 → H3 D = some (.lst acc) := fun x => x.st D _ hD hDq
  by_cases hn : n < xs.length
  · right
    obtain ⟨go, yl⟩ := pg n M H2 (pf' _ _ _ _ p0 f2) hn
    refine ⟨go, fun H' => ∃ m', m' < xs.length - n ∧ (m' = xs.length - (n + 1) ∧ ∃ acc ys M γ2 Qk, Fw E.B L H1 M H' ∧ D ∉ M ∧ H' D = some (.lst acc) ∧ Rel (E.kp D (.lst acc)) M ks γ2 (L2.wipe σ js) H' ∧ (∀ i x, γ2[i]? = some (some x) → i ∉ vs) ∧ RpL E.B (av (E.kp D (.lst acc)) M true true) H' ys acc ∧ ys.length ≤ n + 1 ∧ lcfP g pf vs (xs.drop (n + 1)) γ2 Qk ∧ ∀ y2 z, Qk y2 z → unwS γ vs z fun γ6 => Qp (.lst (ys ++ y2)) γ6), fun H' h => h, fun v H3 hy => ?_⟩
    obtain ⟨x3, y, hy, ry⟩ := yl v H3 hy
    have hd : xs.drop n = y :: xs.drop (n + 1) := by
      rw [List.drop_eq_getElem_cons hn]
      rw [List.getElem?_eq_getElem hn] at hy; cases hy; rfl
    rw [hd] at hc
    have hc := lcf_cons' hc
    have imy : imm y = true := by
      have : ∀ {l : List PV}, immL l = true → ∀ z ∈ l, imm z = true := by
        intro l
        induction l with
        | nil => intro _ z m; cases m
        | cons a l ih =>
          intro h z m
          simp only [immL, Bool.and_eq_true] at h
          exact (List.mem_cons.mp m).elim (fun e => e ▸ h.1) (ih h.2 z)
      exact this im y (List.mem_of_getElem? hy)
    have R3 : Rel (E.kp D (.lst acc)) M ks γ2 (L2.wipe σ js) H3 := R2.ex x3
    refine ⟨E.kp D (.lst acc), M, γ2, y, _, hK, R3, ry.im imy, hc, fun γ3 σ3 q3 R4 ss => ⟨ss.wipe (fun _ h => h), E.kp D (.lst acc), M, γ3, fun c => c = true, hK, R4, rfl, fun c H4 q4 x4 => ?_⟩⟩
    subst q4
    rw [if_pos rfl]
    refine ⟨E.kp D (.lst acc), M, γ3, _, hK, R4.ex x4, q3, fun w u M' γ4 H5 q5 f5 R5 rw_ => ?_⟩
    have hD5 : H5 D = some (.lst acc) := f5.st D _ (x4.st D _ (x3.st D _ hD hDq) hDq) nM hDq
    have nM' : D ∉ M' := fun z => (f5.ls D z).elim nM fun e => by rw [x4.st D _ (x3.st D _ hD hDq) hDq] at e; cases e
    have f35 : Fw E.B L H1 M' H5 := f2.trans (Fw.trans (x3.trans x4).fw f5)
    have ra5 : RpL E.B (av (E.kp D (.lst acc)) M' true true) H5 ys acc := RpL.fw (E := E.kp D (.lst acc)) ((ra.ex x3 av_q).ex x4 av_q) f5
    have nt5 : ∀ vs, (HO.lst acc) ≠ .tup vs := fun _ => nofun
    have R6 : Rel (E.kp D (.lst (acc ++ [u]))) M' ks (wipeG γ4 vs) (L2.wipe σ js) (upd H5 D (.lst (acc ++ [u]))) := by
      have := (R5.wipe js).sub (wipeG_sub hvs) (by rw [wipeG_len, wipeG_len])
      rw [show L2.wipe σ3 js = L2.wipe σ js from ss.wipe (fun _ h => h)] at this
      exact this.kp_put (fun i x h => (hv i).resolve_right (wipeG_some h).2) hD5 nt5 hDq hDr
    have up : ∀ {l : List PV} {us : List V}, RpL E.B (av (E.kp D (.lst acc)) M' true true) H5 l us → RpL E.B (av (E.kp D (.lst (acc ++ [u]))) M' true true) (upd H5 D (.lst (acc ++ [u]))) l us := fun {l us} h => h.mv (fun a o e n => by rw [upd_ne (fun z => n (.inr (.inl ⟨rfl, .inr z⟩)))]; exact e) (fun a us e => by rw [upd_ne (fun z => by rw [z, hD5] at e; cases e)]; exact e) fun a h _ => h
    refine ⟨acc, hD5, ?_, _, by omega, rfl, acc ++ [u], ys ++ [w], M', wipeG γ4 vs, _, ⟨fun a o e n m => ?_, fun a us e => ?_, fun a h => ?_, f35.ls⟩, nM', upd_same, R6, fun i x h => (wipeG_some h).2, up (RpL.append ra5 (.cons rw_ .nil)), by simp; omega, q5, fun y2 z q => by simpa using hQ _ _ q⟩
    · rw [← ra.length]; omega
    · rw [upd_ne (fun z => by rw [z, nD] at e; cases e)]; exact f35.st a o e n m
    · have := f35.tp a us e
      rw [upd_ne (fun z => by rw [z, hD5] at this; cases this)]; exact this
    · by_cases z : a = D
      · rw [z, upd_same]; exact nofun
      · rw [upd_ne z]; exact f35.nn a h
  · left
    have hn := Nat.not_lt.mp hn
    refine ⟨ps n M H2 (pf' _ _ _ _ p0 f2) hn, ?_⟩
    rw [List.drop_eq_nil_of_le hn] at hc
    have hc := lcf_nil' hc
    have q := hQ _ _ hc
    rw [List.append_nil, unwS_eq] at q
    have fR : Fw E.B L H M H2 := Fw.trans x1.fw f2
    have Rw : Rel E M ks γ2 (L2.wipe σ js) H2 := Rel.kp_out R R2 n0
    refine k _ _ M _ H2 q fR (Rel.unwipe hvs R fR Rw hw) (.lst (fun z => ?_) hD (ra.anti fun c z => av_kp z))
    rcases z with z | ⟨_, z⟩ | ⟨_, z⟩
    · exact hDq z
    · exact R1.a0 D z n0
    · exact nM z
theorem qf2_lc {scope : Scope} {own : List (Str × Nat)} {vs : List Nat}
    (pe : ∀ {wi : TI} {g : TG} {tt : TT} {te : TE}, PI X tg iter wi → (∀ (s : Shared) (H : Hp) (C : Addr) (cl : List (Str × Addr)) (fp : List Addr), PG (X.blk s H scope (compEnvC scope cl C X.env) fp) tg g) →
      (∀ (s : Shared) (H : Hp) (C : Addr) (cl : List (Str × Addr)) (fp : List Addr), PTs (X.blk s H scope (compEnvC scope cl C X.env) fp) [] tt) → (∀ (s : Shared) (H : Hp) (C : Addr) (cl : List (Str × Addr)) (fp : List Addr), PE (X.blk s H scope (compEnvC scope cl C X.env) fp) elt te) → PE X e (tLc wi g tt te (own.map (·.2))))
    (hi : QI X ks a1 tg iter pa) (hg : ∀ (s : Shared) (H : Hp) (C : Addr) (cl : List (Str × Addr)) (fp : List Addr), QG (X.blk s H scope (compEnvC scope cl C X.env) fp) ks true true (own.map (·.2)) tg g)
    (he : ∀ (s' : Shared) (H : Hp) (C : Addr) (cl : List (Str × Addr)) (fp : List Addr), QF2 (X.blk s' H scope (compEnvC scope cl C X.env) fp) ks elt pf)
    (hvs : ∀ j ∈ own.map (·.2), j ∈ vs) (hv : ∀ i, (kd ks i).kpo = true ∨ i ∈ vs) (hw : ∀ i ∈ vs, kd ks i = .sh ∨ kd ks i = .bor ∨ kd ks i = .tt) : QF2 X ks e (pLcF vs pa g pf) :=
  PEi (pe (g := tG X.K ks true true (own.map (·.2)) g) (tt := tT X.K ks pYes) (te := tF2 X.K ks pf) hi hg (fun s' H C cl fp => qts_nil) he) fun σ H Q h => lcF_ok hvs hv hw h
end
end Vl
namespace Vl
open PySem PySem.Spec L2 Lb PyProof.Rows
def xSetDE (i : Nat) (t : GA) (e : GF) : GS := fun D γ0 => e γ0 fun y γ => getS γ i fun d => t γ fun xs => match d with
  | .dT kvs => (match keysOf xs with | some k => kvs.length < sizeLine ∧ setS γ i (some (.dT (putP kvs k y))) D.nx | none => False)
  | _ => False
section
variable {X : Cx} {lk : List (Nat × Kd)} {ks ks' kl : List Kd} {a s : Bool} {e : Expr} {es : List Expr} {pf : GF} {pa : GA} {st : Stmt} {sts : List Stmt} {q : GS}
theorem xs_setDE {i : Nat} (pe : ∀ {t : TE} {t' : TA}, PE X e t → PA X es t' → PS X st (tAsg t (gSub (tVar i) (tTup t') rSetD))) (h : QF2 X ks e pf) (h3 : QA X ks a s es pa) (hn : es.length ≤ 1000 := by decide) (hk : ks[i]? = some .own := by rfl) : QS X ks ks kl st (xSetDE i pa pf) :=
  PSi (pe h h3) fun D σ H ⟨E, L, γ, Dp, hK, R, hp, nx, rt, bk, ct⟩ => by
    refine ⟨E, L, γ, _, hK, R, hp, fun y u L1 γ1 H1 q1 f1 R1 ry => ?_⟩
    obtain ⟨x, hx, q⟩ := getS_of q1
    obtain ⟨b, hv, hb, -, -⟩ := R1.upd1 hk hx
    refine ⟨.ref b, hv, E, L1, γ1, _, hK, R1, q, fun xs vs H2 q2 x2 r2 l2 => ⟨by rw [← r2.length, l2]; exact few hn, fun d nd => ?_⟩⟩
    have x3 : Ex E.B H2 (upd H2 d (.tup vs)) := .new nd
    have R3 := (R1.ex x2).ex x3
    obtain ⟨b', hv', hb', ob', up⟩ := R3.upd1 hk hx
    rw [hv] at hv'; cases hv'
    cases x <;> first | exact (q2 : False).elim | skip
    rename_i kvs
    obtain ⟨ws, g1, g2, g3⟩ := ob'
    have q3 : (match keysOf xs with | some k => kvs.length < sizeLine ∧ setS γ1 i (some (.dT (putP kvs k y))) Dp.nx | none => False) := q2
    cases hy : keysOf xs with
    | none => rw [hy] at q3; exact q3.elim
    | some kk =>
      rw [hy] at q3
      obtain ⟨q4, q5⟩ := q3
      rw [setS_eq] at q5
      have ek := keys_rp r2 hy
      have nt : ∀ vs', (upd H2 d (.tup vs)) b ≠ some (.tup vs') := fun z => by rw [g1]; exact nofun
      have hl : kvs.length = ws.length := by have := congrArg List.length g2; simpa using this
      refine ⟨b, _, rfl, DPut.t (k := kk) g1 (by rw [upd_same, ek]) (by rw [← hl]; exact q4), ?_⟩
      have ryy : Rp E.B (av E L1 true true) (upd H2 d (.tup vs)) y u := (ry.ex x2 av_q).ex x3 av_q
      have pr := put_rp (k := kk) (ryy.upL (o := .dT (putK ws kk u)) hb nt) g2 (g3.upL (o := .dT (putK ws kk u)) hb nt)
      exact nx L1 _ _ _ (f1.trans (Fw.trans (x2.trans x3).fw (.upd hb nt))) (up _ (.dT (putP kvs kk y)) ⟨_, upd_same, pr.1, pr.2⟩) q5
theorem qbb_frz (i : Nat) (h : QBB X lk (ks.set i .sh) ks' kl sts q) (hk : ks[i]? = some .own := by rfl) : QBB X lk ks ks' kl sts q :=
  PSsi h fun D σ H ⟨E, L, γ, Dp, hK, R, hp, nx, rt, bk, ct⟩ => by
    obtain ⟨L1, f1, R1⟩ := R.freeze hk
    exact ⟨E, L1, γ, Dp, hK, R1, hp, fun L2 γ2 σ2 H2 f2 R2 q2 => nx L2 γ2 σ2 H2 (f1.trans f2) R2 q2, fun x γ' v H' r q2 => rt x γ' v H' (r.fw f1) q2, fun L2 γ2 σ2 H2 f2 R2 q2 => bk L2 γ2 σ2 H2 (f1.trans f2) R2 q2, fun L2 γ2 σ2 H2 f2 R2 q2 => ct L2 γ2 σ2 H2 (f1.trans f2) R2 q2⟩
end
end Vl
namespace Vl
open PySem PySem.Spec L2 Lb PyProof.Rows
section
variable {E : Ac} {L L' : List Addr} {ks : List Kd} {γ : G} {σ : L2.St} {H H' : Hp} {k : Kd} {y : PV} {v : V} {o : Option PV} {ov : Option V}
theorem kd_app {i : Nat} (h : i < ks.length) : kd (ks ++ [k]) i = kd ks i := by unfold kd List.getD; rw [List.getElem?_append_left h]
theorem kd_last : kd (ks ++ [k]) ks.length = k := by unfold kd List.getD; simp
/-- one slot more, at the end -/
theorem Rel.snoc {H0 : Hp} (R : Rel E L ks γ σ H0) (x : Ex E.B H0 H) (ds : List Addr) (dn : ∀ d ∈ ds, H0 d = none ∧ H d ≠ none) (nd : ds.Nodup) (hl : γ.length = ks.length) (hk : Kr E (ds ++ L) H k y v ds) : Rel E (ds ++ L) (ks ++ [k]) (γ ++ [some y]) (σ ++ [some v]) H := by
  have R1 := R.moreL x ds dn
  obtain ⟨O, s1, s2, s3, s4⟩ := R.sl
  have len := R.len
  obtain ⟨O2, q1, q2⟩ : ∃ O2 : Nat → List Addr, O2 γ.length = ds ∧ ∀ i, i ≠ γ.length → O2 i = if i < γ.length then O i else [] := ⟨fun i => if i = γ.length then ds else if i < γ.length then O i else [], by simp, fun i h => by simp [h]⟩
  have q3 : ∀ i a, a ∈ O2 i → (i = γ.length ∧ a ∈ ds) ∨ (i < γ.length ∧ a ∈ O i) := fun i a m => by
    by_cases e : i = γ.length
    · rw [e, q1] at m; exact .inl ⟨e, m⟩
    · rw [q2 i e] at m
      by_cases h : i < γ.length
      · rw [if_pos h] at m; exact .inr ⟨h, m⟩
      · rw [if_neg h] at m; cases m
  refine ⟨R1.old, R1.onn, R1.bag, R1.a0, R1.aq, R1.ar, R1.lf, by simp [len], O2, fun i z h => ?_, fun i a m => ?_, fun i j a m m' => ?_, fun i => ?_⟩
  · by_cases hi : i < γ.length
    · rw [List.getElem?_append_left hi] at h
      obtain ⟨u, hu, kr⟩ := s1 i z h
      refine ⟨u, by rw [List.getElem?_append_left (by omega)]; exact hu, ?_⟩
      rw [kd_app (by omega), q2 i (by omega), if_pos hi]
      refine kr.mv (fun a u e n _ => x.st a u e n) x.tp (fun c m => ?_) fun c m u e => x.st c u e (R.lq (s2 i c m))
      exact (List.mem_append.mp m).elim (fun m => .inr (dn c m).1) .inl
    · have e : i = γ.length := by
        have := (List.getElem?_eq_some_iff.mp h).1
        simp at this; omega
      subst e
      simp at h
      subst h
      refine ⟨v, by rw [len]; simp, ?_⟩
      rw [q1, hl, kd_last]; exact hk
  · rcases q3 i a m with ⟨_, m⟩ | ⟨_, m⟩
    · exact List.mem_append.mpr (.inl m)
    · exact List.mem_append.mpr (.inr (s2 i a m))
  · rcases q3 i a m with ⟨e, m⟩ | ⟨h, m⟩ <;> rcases q3 j a m' with ⟨e', m'⟩ | ⟨h', m'⟩
    · rw [e, e']
    · exact absurd (dn a m).1 (R.lf a (s2 j a m')).2
    · exact absurd (dn a m').1 (R.lf a (s2 i a m)).2
    · exact s3 i j a m m'
  · by_cases e : i = γ.length
    · rw [e, q1]; exact nd
    · rw [q2 i e]
      by_cases h : i < γ.length
      · rw [if_pos h]; exact s4 i
      · rw [if_neg h]; exact List.nodup_nil
theorem Rel.init_ (R : Rel E L (ks ++ [k]) (γ ++ [o]) (σ ++ [ov]) H) (hl : γ.length ≤ ks.length) : Rel E L ks γ σ H := by
  obtain ⟨O, s1, s2, s3, s4⟩ := R.sl
  have len : γ.length = σ.length := by have := R.len; simpa using this
  refine ⟨R.old, R.onn, R.bag, R.a0, R.aq, R.ar, R.lf, len, O, fun i y h => ?_, s2, s3, s4⟩
  have hi : i < γ.length := (List.getElem?_eq_some_iff.mp h).1
  obtain ⟨u, hu, kr⟩ := s1 i y (by rw [List.getElem?_append_left hi]; exact h)
  rw [List.getElem?_append_left (by omega)] at hu
  rw [kd_app (by omega)] at kr
  exact ⟨u, hu, kr⟩
theorem LArg.snoc {la : List (Option (Nat × Lk))} {xs : List PV} {vs : List V} (h : LArg E L ks γ σ H la xs vs) : LArg E L (ks ++ [k]) (γ ++ [o]) (σ ++ [ov]) H la xs vs := by
  induction h with
  | nil => exact .nil
  | lend a b c d _ ih =>
    exact .lend (by rw [List.getElem?_append_left (List.getElem?_eq_some_iff.mp a).1]; exact a) b (by rw [List.getElem?_append_left (List.getElem?_eq_some_iff.mp c).1]; exact c) (by rw [List.getElem?_append_left (List.getElem?_eq_some_iff.mp d).1]; exact d) ih
  | val r _ ih => exact .val r ih
end
theorem putS_snoc {o : Option PV} {K : G → Prop} : ∀ {is : List Nat} {ys : List PV} {γ : G}, (∀ i ∈ is, i < γ.length) → putS is ys (γ ++ [o]) (fun g => K g.dropLast) = putS is ys γ K
  | [], [], γ, _ => by show K (γ ++ [o]).dropLast = K γ; rw [List.dropLast_concat]
  | [], _ :: _, _, _ => rfl
  | _ :: _, [], _, _ => rfl
  | i :: is, y :: ys, γ, h => by
    show setS (γ ++ [o]) i (some y) (fun γ1 => putS is ys γ1 fun g => K g.dropLast) = setS γ i (some y) fun γ1 => putS is ys γ1 K
    rw [setS_eq, setS_eq, List.set_append_left _ _ (h i (by simp))]
    exact putS_snoc fun j m => by rw [List.length_set]; exact h j (by simp [m])
theorem Fo.here {B : Bg} {A : Addr → Prop} {H : Hp} {js : List Nat} {m : Nat} {xs : List PV} {vs : List V} {cs : List Addr} (h : Fo B A H js m xs vs cs) : ∀ d ∈ cs, H d ≠ none := by
  induction h with
  | nil => intro d m; simp at m
  | sh _ _ _ ih => exact ih
  | own _ o _ ih =>
    intro d m
    rcases List.mem_cons.mp m with rfl | m
    · exact o.here
    · exact ih d m
def pCallBn (n : Nat) (is : List Nat) (w : PWB) (pn : GE) (pa : GA) : GF := fun γ Q => γ.length = n ∧ pn γ fun x => pa γ fun xs => w (x :: xs) fun r ys => match ys with
  | _ :: ys' => putS is ys' γ fun γ1 => Q r γ1
  | [] => False
section
variable {X : Cx} {ks : List Kd} {e : Expr} {es : List Expr} {pn : GE} {pa : GA} {la : List (Option (Nat × Lk))} {pos p0 : Pos} {k n : Nat} {w : PWB} {is js : List Nat} {ts : List (Option Lk)} {x : Str} {ps' : List Str}
theorem qf2_calBn (cc : Cal X.prog X.w X.K X.mg X.base x k ps' (spB ts w X.K) []) (hr : Room k X.A) (hg : Gl X x) (hn : QNO X ks js e pn) (h : QAL X ks la es pa) (hn' : ks.length = n := by rfl) (hts : some (.obj js) :: lts la = ts := by rfl) (his : (lpairs 1 la).map (·.1) = is := by rfl) (nd : is.Nodup := by decide) (hlt : ∀ i ∈ is, i < n := by decide) (hdb : (x == ("__debug__" : Str)) = false := by decide)
    (he : starEach (e :: es) X.env = (false, eval e X.env) :: starEach es X.env := by rfl) (hpl : (backTo pos (starEach es X.env)).any (·.1) = false := by rfl) : QF2 X ks (.Call (.Name x p0) (e :: es) [] pos) (pCallBn n is w pn pa) := by
  subst hts his hn'
  exact PEi (pe_cal cc hr hg (pa_cons hn h he) hdb he hpl) fun σ H Q ⟨E, L, γ, Qp, hK, R, ⟨hl, hp⟩, k⟩ => by
    refine ⟨E, L, γ, _, hK, R, hp, fun y a H1 q1 x1 no => ?_⟩
    obtain ⟨c, fs, ws, dx, bs, rfl, hb, hm, hf, hfr, ndb⟩ := no
    have dn : ∀ d ∈ a :: bs, H d = none ∧ H1 d ≠ none := fun d m => ⟨hfr d m, (List.mem_cons.mp m).elim (fun z => by rw [z, hb]; exact nofun) (hf.here d)⟩
    have R1 := R.moreL x1 (a :: bs) dn
    have Rx := R.snoc (k := .obj .any js) (y := .ins c fs) (v := .ref a) x1 (a :: bs) dn ndb hl ⟨a, c, fs, ws, dx, bs, rfl, rfl, rfl, trivial, hb, hm, hf.care fun z h n => by
      rcases h with h | ⟨_, h⟩ | ⟨_, h⟩
      · exact .inl (.inl h)
      · exact .inl (.inr (.inl ⟨rfl, h⟩))
      · rcases List.mem_append.mp h with m | m
        · exact .inr m
        · exact .inl (.inr (.inr ⟨rfl, m⟩))⟩
    refine ⟨E, a :: bs ++ L, γ, _, hK, R1, q1, fun xs vs H2 q2 x2 r2 => ?_⟩
    show spB (some (.obj js) :: lts la) w X.K ((V.ref a :: vs) ++ []) H2 Q E0
    rw [List.append_nil]
    have len := R.len
    have ee : (fun (r : PV) (ys : List PV) => putS ((lpairs 0 (some (ks.length, Lk.obj js) :: la)).map (·.1)) ys (γ ++ [some (.ins c fs)]) fun g => Qp r g.dropLast) = fun r ys => (match ys with
        | _ :: ys' => putS ((lpairs 1 la).map (·.1)) ys' γ fun γ1 => Qp r γ1
        | [] => False) := by
      funext r ys
      cases ys with
      | nil => rfl
      | cons z ys =>
        show setS (γ ++ [some (.ins c fs)]) ks.length (some z) (fun γ1 => putS ((lpairs 1 la).map (·.1)) ys γ1 fun g => Qp r g.dropLast) = putS ((lpairs 1 la).map (·.1)) ys γ fun γ1 => Qp r γ1
        rw [setS_eq, ← hl, List.set_append_right _ _ (Nat.le_refl _), Nat.sub_self]
        exact putS_snoc fun i m => by rw [hl]; exact hlt i m
    refine call_B (la := some (ks.length, .obj js) :: la) (Qc := fun r g => Qp r g.dropLast) hK (Rx.ex x2) (.lend (k := .obj .any js) (x := .ins c fs) (v := .ref a) List.getElem?_concat_length rfl (by rw [← hl]; exact List.getElem?_concat_length) (by rw [← hl, len]; exact List.getElem?_concat_length) r2.snoc) (List.nodup_cons.mpr ⟨fun m => Nat.lt_irrefl _ (hlt _ m), nd⟩) (by rw [ee]; exact q2) fun r u L' γ' H' q f R' rr => ?_
    have l' := R'.len
    have ne : γ' ≠ [] := fun z => by rw [z] at l'; simp at l'
    have e' := List.dropLast_concat_getLast ne
    rw [← e'] at R'
    have ld : γ'.dropLast.length = γ.length := by rw [List.length_dropLast, l']; simp [len]
    exact k r u L' _ H' q (Fw.trans (.moreL x1 fun d m => (dn d m).1) (Fw.trans x2.fw f)) (R'.init_ (by rw [ld, hl]; exact Nat.le_refl _)) rr
end
end Vl
namespace Vl
open PySem PySem.Spec L2 Lb PyProof.Rows
section
variable {X : Cx} {ks ks2 kl : List Kd} {E : Ac} {L : List Addr} {γ : G} {σ : L2.St} {H : Hp} {d : Addr} {ws : List (List Key × V)} {i m : Nat} {k : Kd} {x : PV} {v : V} {O : List Addr}
theorem Rel.lock2 {kvs kv2 : List (List Key × PV)} (R : Rel E L ks γ σ H) (hn : m ≠ i) (hik : ks[i]? = some .bor ∨ ks[i]? = some .sh) (him : ks[m]? = some .bor) (hx : γ[i]? = some (some (.dT kvs))) (hy : γ[m]? = some (some (.dT kv2))) (hv : ndL (kvs.map (·.2)) = true) (hw : ndL (kv2.map (·.2)) = true)
    (ho : ∀ j x, j ≠ i → j ≠ m → γ[j]? = some (some x) → (kd ks j).okz = true ∧ nd x = true) :
    ∃ d ws, H d = some (.dT ws) ∧ d ∉ L ∧ d ≠ E.B.q ∧ d ≠ E.B.r ∧ ((∀ od, Rel (E.fz d (.frz od (.dT ws))) L (ks.set i .fz) γ σ (upd H d (.frz od (.dT ws)))) ∨ ∀ od, Rel (E.fz d (.frz od (.dT ws))) L ((ks.set i .fz).set m .fz) γ σ (upd H d (.frz od (.dT ws)))) := by
  obtain ⟨O, h1, h2, h3, h4⟩ := R.sl
  obtain ⟨v, hv', k⟩ := h1 i _ hx
  obtain ⟨v2, hm', km⟩ := h1 m _ hy
  have hi : i < ks.length := by rcases hik with h | h <;> exact (List.getElem?_eq_some_iff.mp h).1
  have hm : m < (ks.set i .fz).length := by rw [List.length_set]; exact (List.getElem?_eq_some_iff.mp him).1
  have kk : O i = [] ∧ Rp E.B (av E L false true) H (.dT kvs) v := by
    rcases hik with h | h
    · rw [getElem?_kd h] at k; exact k
    · rw [getElem?_kd h] at k; exact ⟨k.1, k.2.anti fun c z => av_mono (a' := false) (s' := true) (fun z => nomatch z) (fun _ => rfl) z⟩
  obtain ⟨o0, rp⟩ := kk
  have km2 : O m = [] ∧ Rp E.B (av E L false true) H (.dT kv2) v2 := by rw [getElem?_kd him] at km; exact km
  obtain ⟨o02, rp2⟩ := km2
  cases rp with
  | dT n hd e1 e2 e3 e4 rl =>
  rename_i a ws ks' xs vs
  subst e1; subst e3; subst e4
  cases rp2 with
  | dT n2 hd2 f1 f2 f3 f4 rl2 =>
  rename_i b ws2 ks2' xs2 vs2
  subst f1; subst f3; subst f4
  have nL : a ∉ L := fun m => n (.inr (.inr ⟨rfl, m⟩))
  have nq : a ≠ E.B.q := fun z => n (.inl z)
  have nr : a ≠ E.B.r := fun z => by
    obtain ⟨_, _, _, _, b1, b2, _⟩ := R.bag
    rw [← z, hd] at b2
    cases b2
  have nt : ∀ vs, H a ≠ some (.tup vs) := fun vs => by rw [hd]; exact nofun
  refine ⟨a, ws, hd, nL, nq, nr, ?_⟩
  have base : ∀ od ks3, (∀ j x, γ[j]? = some (some x) → ∃ v, σ[j]? = some (some v) ∧ Kr (E.fz a (.frz od (.dT ws))) L (upd H a (.frz od (.dT ws))) (kd ks3 j) x v (O j)) → Rel (E.fz a (.frz od (.dT ws))) L ks3 γ σ (upd H a (.frz od (.dT ws))) := fun od ks3 hs => by
    refine ⟨fun b o h m => ?_, fun b h => ?_, R.bag.stay (fun u e => by rw [upd_ne nq.symm]; exact e) (fun u e => by rw [upd_ne nr.symm]; exact e), fun b h => ?_, R.aq, ?_, fun b m => ?_, R.len, O, hs, h2, h3, h4⟩
    · have h : upd E.H0 a (.frz od (.dT ws)) b = some o := h
      by_cases z : b = a
      · rw [z, upd_same] at h ⊢; exact h
      · rw [upd_ne z] at h ⊢; exact R.old b o h m
    · have h : upd E.H0 a (.frz od (.dT ws)) b ≠ none := h
      by_cases z : b = a
      · rw [z, upd_same]; exact nofun
      · rw [upd_ne z] at h ⊢; exact R.onn b h
    · show upd E.H0 a (.frz od (.dT ws)) b ≠ none
      by_cases z : b = a
      · rw [z, upd_same]; exact nofun
      · rw [upd_ne z]; exact R.a0 b h
    · show upd E.H0 a (.frz od (.dT ws)) E.B.r ≠ none
      rw [upd_ne nr.symm]; exact R.ar
    · show upd E.H0 a (.frz od (.dT ws)) b = none ∧ _
      have z : b ≠ a := fun z => nL (by rw [← z]; exact m)
      rw [upd_ne z, upd_ne z]
      exact R.lf b m
  by_cases z : b = a
  · subst z
    refine .inr fun od => base od _ fun j x hj => ?_
    by_cases zi : j = i
    · subst zi
      rw [hx] at hj
      cases hj
      refine ⟨_, hv', ?_⟩
      rw [kd_set_ne (fun z => hn z.symm), kd_set_at hi]
      exact ⟨o0, b, od, kvs, ws, rfl, rfl, n, upd_same, e2.symm, (rl.lkd hd hv).at_ nt fun c z => z⟩
    · by_cases zm : j = m
      · subst zm
        rw [hy] at hj
        cases hj
        refine ⟨_, hm', ?_⟩
        rw [kd_set_at hm]
        have ew : ws2 = ws := by rw [hd] at hd2; cases hd2; rfl
        subst ew
        exact ⟨o02, b, od, kv2, ws2, rfl, rfl, n2, upd_same, f2.symm, (rl2.lkd hd hw).at_ nt fun c z => z⟩
      · obtain ⟨v2, hv2, k2⟩ := h1 j x hj
        obtain ⟨g1, g2⟩ := ho j x zi zm hj
        refine ⟨v2, hv2, ?_⟩
        rw [kd_set_ne zm, kd_set_ne zi]
        exact k2.lock g1 hd g2
  · refine .inl fun od => base od _ fun j x hj => ?_
    by_cases zi : j = i
    · subst zi
      rw [hx] at hj
      cases hj
      refine ⟨_, hv', ?_⟩
      rw [kd_set_at hi]
      exact ⟨o0, a, od, kvs, ws, rfl, rfl, n, upd_same, e2.symm, (rl.lkd hd hv).at_ nt fun c z => z⟩
    · rw [kd_set_ne zi]
      by_cases zm : j = m
      · subst zm
        rw [hy] at hj
        cases hj
        refine ⟨_, hm', ?_⟩
        rw [getElem?_kd him]
        have rr : Rp E.B (fun c => av E L false true c ∨ c = a) H (.dT kv2) (.ref b) := .dT (fun y => y.elim n2 z) hd2 rfl f2 rfl rfl (rl2.lkd hd hw)
        exact ⟨o02, rr.at_ nt fun c z => z⟩
      · obtain ⟨v2, hv2, k2⟩ := h1 j x hj
        obtain ⟨g1, g2⟩ := ho j x zi zm hj
        exact ⟨v2, hv2, k2.lock g1 hd g2⟩
theorem Rel.unlock2 {L' : List Addr} {γ' : G} {σ' : L2.St} {H' : Hp} {od : Obj} (R : Rel E L ks γ σ H) (hd : H d = some (.dT ws)) (nq : d ≠ E.B.q) (nr : d ≠ E.B.r) (ho : ∀ j, j ≠ i → j ≠ m → kd ks2 j = kd ks j ∧ (kd ks j).okz = true)
    (R' : Rel (E.fz d (.frz od (.dT ws))) L' ks2 γ' σ' H') : H' d = some (.frz od (.dT ws)) ∧ Rel E L' ks ((γ'.set i none).set m none) σ' (upd H' d (.dT ws)) := by
  have hd' : H' d = some (.frz od (.dT ws)) := R'.old d _ (by show upd E.H0 d _ d = _; rw [upd_same]) nq
  refine ⟨hd', fun b o h m => ?_, fun b h => ?_, BagOk.stay (B := E.B) R'.bag (fun u e => by rw [upd_ne nq.symm]; exact e) (fun u e => by rw [upd_ne nr.symm]; exact e), R.a0, R.aq, R.ar, fun b m => ?_, by rw [List.length_set, List.length_set]; exact R'.len, ?_⟩
  · by_cases z : b = d
    · rw [z] at h ⊢
      have := R.old d o h nq
      rw [hd] at this
      cases this
      exact upd_same
    · rw [upd_ne z]
      exact R'.old b o (by show upd E.H0 d _ b = _; rw [upd_ne z]; exact h) m
  · by_cases z : b = d
    · rw [z, upd_same]; exact nofun
    · rw [upd_ne z]
      exact R'.onn b (by show upd E.H0 d _ b ≠ _; rw [upd_ne z]; exact h)
  · obtain ⟨g1, g2⟩ := R'.lf b m
    have g1 : upd E.H0 d (.frz od (.dT ws)) b = none := g1
    have z : b ≠ d := fun z => by rw [z, upd_same] at g1; cases g1
    rw [upd_ne z] at g1
    exact ⟨g1, by rw [upd_ne z]; exact g2⟩
  · obtain ⟨O, h1, h2, h3, h4⟩ := R'.sl
    refine ⟨O, fun j x hj => ?_, h2, h3, h4⟩
    by_cases zm : m = j
    · subst zm
      rw [List.getElem?_set, if_pos rfl] at hj
      split at hj <;> cases hj
    · rw [List.getElem?_set_ne zm] at hj
      by_cases z : i = j
      · subst z
        rw [List.getElem?_set, if_pos rfl] at hj
        split at hj <;> cases hj
      · rw [List.getElem?_set_ne z] at hj
        obtain ⟨v, hv, k⟩ := h1 j x hj
        obtain ⟨e1, e2⟩ := ho j (fun e => z e.symm) fun e => zm e.symm
        rw [e1] at k
        exact ⟨v, hv, k.unlock e2 hd'⟩
theorem PSi2 {st : Stmt} {t t1 t2 : TS} (h : PS X st t1) (h' : PS X st t2) (i : ∀ D σ H, t D σ H → t1 D σ H ∨ t2 D σ H) : PS X st t := ⟨fun pins s σ H D I q => (i _ _ _ q).elim (fun z => h.run pins s σ H D I z) fun z => h'.run pins s σ H D I z⟩
/-- the i-th slot's dict is locked while the m-th may be the very same dict; both are forgotten behind it -/
def pLocked2 (i m : Nat) (p : GS) : GS := fun D γ => getS γ i fun x => getS γ m fun y => match x, y with
  | .dT kvs, .dT kv2 => ndL (kvs.map (·.2)) = true ∧ ndL (kv2.map (·.2)) = true ∧ ndG i (γ.set m none) = true ∧ p { nx := fun γ' => D.nx ((γ'.set i none).set m none), rt := D.rt, bk := fun _ => False, ct := fun _ => False } γ
  | _, _ => False
theorem qs_locked2 {st : Stmt} {p : GS} (i m : Nat) (h : QS X (ks.set i .fz) (ks.set i .fz) (ks.set i .fz) st p) (h' : QS X ((ks.set i .fz).set m .fz) ((ks.set i .fz).set m .fz) ((ks.set i .fz).set m .fz) st p) (hik : ks[i]? = some .bor ∨ ks[i]? = some .sh) (him : ks[m]? = some .bor) (hn : m ≠ i := by decide) (ho : (ks.set i .sh).all Kd.okz = true := by rfl) : QS X ks ks kl st (pLocked2 i m p) :=
  PSi2 (ps_lock h) (ps_lock h') fun D σ H ⟨E, L, γ, Dp, hK, R, hp, nx, rt, bk, ct⟩ => by
    obtain ⟨x, hx, q⟩ := getS_of hp
    obtain ⟨y, hy, q⟩ := getS_of q
    cases x <;> first | exact (q : False).elim | skip
    rename_i kvs
    cases y <;> first | exact (q : False).elim | skip
    rename_i kv2
    obtain ⟨q1, q2, q3, q⟩ := q
    have ok := okz_kd ho
    obtain ⟨d, ws, hd, nL, nq, nr, hR⟩ := R.lock2 hn hik him hx hy q1 q2 fun j x n n2 hj => ⟨ok j n, ndG_at q3 j x n (by rw [List.getElem?_set_ne n2.symm]; exact hj)⟩
    rcases hR with hR | hR
    · refine .inl ⟨d, .dT ws, hd, trivial, fun od => ⟨E.fz d (.frz od (.dT ws)), L, γ, _, hK, hR od, q, fun L' γ' σ' H' f R' q' => ?_, fun x γ' v H' r q' => ?_, fun _ _ _ _ _ _ z => z.elim, fun _ _ _ _ _ _ z => z.elim⟩⟩
      · obtain ⟨e, R2⟩ := R.unlock2 (i := i) (m := m) hd nq nr (fun j n n2 => ⟨kd_set_ne n, ok j n⟩) R'
        refine ⟨e, nx L' _ σ' _ ⟨fun b o h m n => ?_, fun b vs h => ?_, fun b h => ?_, fun b m => ?_⟩ R2 q'⟩
        · by_cases z : b = d
          · rw [z] at h ⊢; rw [upd_same, ← h, hd]
          · rw [upd_ne z]; exact f.st b o (by rw [upd_ne z]; exact h) m n
        · have z : b ≠ d := fun z => by rw [z, hd] at h; cases h
          rw [upd_ne z]; exact f.tp b vs (by rw [upd_ne z]; exact h)
        · by_cases z : b = d
          · rw [z, upd_same]; exact nofun
          · rw [upd_ne z]; exact f.nn b (by rw [upd_ne z]; exact h)
        · refine (f.ls b m).imp id fun h => ?_
          have z : b ≠ d := fun z => by rw [z, upd_same] at h; cases h
          rw [upd_ne z] at h
          exact h
      · obtain ⟨r1, r2, r3, r4⟩ := r
        have e : H' d = some (.frz od (.dT ws)) := r2 d _ (by show upd E.H0 d _ d = _; rw [upd_same]) nq
        have nt : ∀ vs, H' d ≠ some (.tup vs) := fun vs => by rw [e]; exact nofun
        refine ⟨e, rt x γ' v _ ⟨(r1.ul e).at_ nt fun c z => z, fun b o h n => ?_, fun b h => ?_, BagOk.stay (B := E.B) r4 (fun u e => by rw [upd_ne nq.symm]; exact e) fun u e => by rw [upd_ne nr.symm]; exact e⟩ q'⟩
        · by_cases z : b = d
          · rw [z] at h ⊢
            have := R.old d o h nq
            rw [hd] at this
            cases this
            exact upd_same
          · rw [upd_ne z]
            exact r2 b o (by show upd E.H0 d _ b = _; rw [upd_ne z]; exact h) n
        · by_cases z : b = d
          · rw [z, upd_same]; exact nofun
          · rw [upd_ne z]
            exact r3 b (by show upd E.H0 d _ b ≠ _; rw [upd_ne z]; exact h)
    · refine .inr ⟨d, .dT ws, hd, trivial, fun od => ⟨E.fz d (.frz od (.dT ws)), L, γ, _, hK, hR od, q, fun L' γ' σ' H' f R' q' => ?_, fun x γ' v H' r q' => ?_, fun _ _ _ _ _ _ z => z.elim, fun _ _ _ _ _ _ z => z.elim⟩⟩
      · obtain ⟨e, R2⟩ := R.unlock2 (i := i) (m := m) hd nq nr (fun j n n2 => ⟨by rw [kd_set_ne n2, kd_set_ne n], ok j n⟩) R'
        refine ⟨e, nx L' _ σ' _ ⟨fun b o h m n => ?_, fun b vs h => ?_, fun b h => ?_, fun b m => ?_⟩ R2 q'⟩
        · by_cases z : b = d
          · rw [z] at h ⊢; rw [upd_same, ← h, hd]
          · rw [upd_ne z]; exact f.st b o (by rw [upd_ne z]; exact h) m n
        · have z : b ≠ d := fun z => by rw [z, hd] at h; cases h
          rw [upd_ne z]; exact f.tp b vs (by rw [upd_ne z]; exact h)
        · by_cases z : b = d
          · rw [z, upd_same]; exact nofun
          · rw [upd_ne z]; exact f.nn b (by rw [upd_ne z]; exact h)
        · refine (f.ls b m).imp id fun h => ?_
          have z : b ≠ d := fun z => by rw [z, upd_same] at h; cases h
          rw [upd_ne z] at h
          exact h
      · obtain ⟨r1, r2, r3, r4⟩ := r
        have e : H' d = some (.frz od (.dT ws)) := r2 d _ (by show upd E.H0 d _ d = _; rw [upd_same]) nq
        have nt : ∀ vs, H' d ≠ some (.tup vs) := fun vs => by rw [e]; exact nofun
        refine ⟨e, rt x γ' v _ ⟨(r1.ul e).at_ nt fun c z => z, fun b o h n => ?_, fun b h => ?_, BagOk.stay (B := E.B) r4 (fun u e => by rw [upd_ne nq.symm]; exact e) fun u e => by rw [upd_ne nr.symm]; exact e⟩ q'⟩
        · by_cases z : b = d
          · rw [z] at h ⊢
            have := R.old d o h nq
            rw [hd] at this
            cases this
            exact upd_same
          · rw [upd_ne z]
            exact r2 b o (by show upd E.H0 d _ b = _; rw [upd_ne z]; exact h) n
        · by_cases z : b = d
          · rw [z, upd_same]; exact nofun
          · rw [upd_ne z]
            exact r3 b (by show upd E.H0 d _ b ≠ _; rw [upd_ne z]; exact h)
end
end Vl
namespace Lw
open PySem PySem.Spec L2 Lb Vl
noncomputable def p_law_letters : GS := (pSeq (xSet 2 (pCB bListS (pCons (pC (.str "abcdefghijklmnopqrstuvwxyz")) pNil)))
  (pSeq (xSet 3 (pC (.str "")))
  (pSeq (yFor (pRng (pOp oAdd (pC (.int 1)) (pCall w_law_take [] (pCons (pVar 0) (pCons (pVar 1) pNil))))) (xgName 4) (xSetF 3 (pOpF oAdd (pVar 3) (xPopAt 2 (pCall w_law_take [] (pCons (pVar 0) (pCons (pCB bLen (pCons (pVar 2) pNil)) pNil)))))))
  (pRet (pVar 3)))))
theorem x_law_letters : ∃ v : Vl.PW, v = xF 5 p_law_letters := ⟨_, rfl⟩
@[irreducible] noncomputable def w_law_letters : Vl.PW := Classical.choose x_law_letters
theorem e_law_letters : w_law_letters = xF 5 p_law_letters := by unfold w_law_letters; exact Classical.choose_spec x_law_letters
noncomputable def p_law_worth : GS := (pSeq (xSet 1 (pCall w_law_take [] (pCons (pVar 0) (pCons (pC (.int 4)) pNil))))
  (pSeq (pIf (pTest (pOp oLt (pVar 1) (pC (.int 2)))) (pRet (pOp oSub (pCall w_law_take [] (pCons (pVar 0) (pCons (pC (.int 9)) pNil))) (pC (.int 3)))) pNext)
  (pSeq (pIf (pTest (pOp oEq (pVar 1) (pC (.int 2)))) (pRet (pOp oSub (pCall w_law_take [] (pCons (pVar 0) (pCons (pOp oAdd (pOp oMul (pC (.int 2)) (pOp oPow (pC (.int 10)) (pC (.int 6)))) (pC (.int 1))) pNil))) (pOp oPow (pC (.int 10)) (pC (.int 6))))) pNext)
  (pRet (pOp oIx (pLst (pCons (pOp oPow (pC (.int 10)) (pC (.int 6))) (pCons (pUn oNeg (pOp oPow (pC (.int 10)) (pC (.int 6)))) (pCons (pC (.int 0)) (pCons (pC (.int 0)) pNil))))) (pCall w_law_take [] (pCons (pVar 0) (pCons (pC (.int 4)) pNil))))))))
theorem x_law_worth : ∃ v : Vl.PW, v = xF 2 p_law_worth := ⟨_, rfl⟩
@[irreducible] noncomputable def w_law_worth : Vl.PW := Classical.choose x_law_worth
theorem e_law_worth : w_law_worth = xF 2 p_law_worth := by unfold w_law_worth; exact Classical.choose_spec x_law_worth
noncomputable def p_law_worths : GS := (pRet (yLc [2] (pRng (pVar 1)) (xgName 2) pYes (yLc [3] (pRng (pVar 1)) (xgName 3) pYes (pCall w_law_worth [] (pCons (pVar 0) pNil)))))
theorem x_law_worths : ∃ v : Vl.PW, v = xF 4 p_law_worths := ⟨_, rfl⟩
@[irreducible] noncomputable def w_law_worths : Vl.PW := Classical.choose x_law_worths
theorem e_law_worths : w_law_worths = xF 4 p_law_worths := by unfold w_law_worths; exact Classical.choose_spec x_law_worths
noncomputable def p_law_price : GS := (pSeq (xSet 1 (pCall w_law_take [] (pCons (pVar 0) (pCons (pC (.int 4)) pNil))))
  (pSeq (pIf (pTest (pOp oLt (pVar 1) (pC (.int 2)))) (pRet (pCall w_law_take [] (pCons (pVar 0) (pCons (pC (.int 5)) pNil)))) pNext)
  (pRet (pOp oIx (pLst (pCons (pC (.int 0)) (pCons (pOp oPow (pC (.int 10)) (pC (.int 6))) (pCons (pCall w_law_take [] (pCons (pVar 0) (pCons (pOp oAdd (pOp oPow (pC (.int 10)) (pC (.int 6))) (pC (.int 1))) pNil))) pNil)))) (pCall w_law_take [] (pCons (pVar 0) (pCons (pC (.int 3)) pNil)))))))
theorem x_law_price : ∃ v : Vl.PW, v = xF 2 p_law_price := ⟨_, rfl⟩
@[irreducible] noncomputable def w_law_price : Vl.PW := Classical.choose x_law_price
theorem e_law_price : w_law_price = xF 2 p_law_price := by unfold w_law_price; exact Classical.choose_spec x_law_price
noncomputable def p_is_text_of : GS := (pSeq (pIf (pOr (pNot (pTru (pCB bIs (pCons (pVar 0) (pCons (pC (.ty .str)) pNil))))) (pNot (pTest (pChain oLe oLe (pVar 2) (pCB bLen (pCons (pVar 0) pNil)) (pVar 3))))) (pRet (pC (.bl false))) pNext)
  (pRet (pCB (bBs allB) (pCons (xLc [4] (pItS (pVar 0)) (xgName 4) pYes (pOp (oIn false) (pVar 4) (pVar 1))) pNil))))
theorem x_is_text_of : ∃ v : Vl.PW, v = xF 5 p_is_text_of := ⟨_, rfl⟩
@[irreducible] noncomputable def w_is_text_of : Vl.PW := Classical.choose x_is_text_of
theorem e_is_text_of : w_is_text_of = xF 5 p_is_text_of := by unfold w_is_text_of; exact Classical.choose_spec x_is_text_of
noncomputable def p_are_letters : GS := (pRet (pAndV (pCall w_is_text_of [] (pCons (pVar 0) (pCons (pC (.str "abcdefghijklmnopqrstuvwxyz")) (pCons (pC (.int 1)) (pCons (pC (.int 8)) pNil))))) (pOp oEq (pSetLen 1 (pVar 0)) (pCB bLen (pCons (pVar 0) pNil)))))
theorem x_are_letters : ∃ v : Vl.PW, v = xF 2 p_are_letters := ⟨_, rfl⟩
@[irreducible] noncomputable def w_are_letters : Vl.PW := Classical.choose x_are_letters
theorem e_are_letters : w_are_letters = xF 2 p_are_letters := by unfold w_are_letters; exact Classical.choose_spec x_are_letters
noncomputable def p_is_whole : GS := (pRet (pAndV (pCB bIs (pCons (pVar 0) (pCons (pC (.ty .int)) pNil))) (pNotV (pCB bIs (pCons (pVar 0) (pCons (pC (.ty .bool)) pNil))))))
theorem x_is_whole : ∃ v : Vl.PW, v = xF 1 p_is_whole := ⟨_, rfl⟩
@[irreducible] noncomputable def w_is_whole : Vl.PW := Classical.choose x_is_whole
theorem e_is_whole : w_is_whole = xF 1 p_is_whole := by unfold w_is_whole; exact Classical.choose_spec x_is_whole
noncomputable def p_is_between : GS := (pRet (pAndV (pCall w_is_whole [] (pCons (pVar 0) pNil)) (pChain oLe oLe (pVar 1) (pVar 0) (pVar 2))))
theorem x_is_between : ∃ v : Vl.PW, v = xF 3 p_is_between := ⟨_, rfl⟩
@[irreducible] noncomputable def w_is_between : Vl.PW := Classical.choose x_is_between
theorem e_is_between : w_is_between = xF 3 p_is_between := by unfold w_is_between; exact Classical.choose_spec x_is_between
noncomputable def p_is_worth : GS := (pRet (pCall w_is_between [] (pCons (pVar 0) (pCons (pUn oNeg (pC (.int 1000000))) (pCons (pC (.int 1000000)) pNil)))))
theorem x_is_worth : ∃ v : Vl.PW, v = xF 1 p_is_worth := ⟨_, rfl⟩
@[irreducible] noncomputable def w_is_worth : Vl.PW := Classical.choose x_is_worth
theorem e_is_worth : w_is_worth = xF 1 p_is_worth := by unfold w_is_worth; exact Classical.choose_spec x_is_worth
noncomputable def p_are_worths : GS := (pSeq (pIf (pOr (pNot (pTru (pCB bIs (pCons (pVar 0) (pCons (pC (.ty .list)) pNil))))) (pTest (pOp oNe (pCB bLen (pCons (pVar 0) pNil)) (pVar 1)))) (pRet (pC (.bl false))) pNext)
  (pSeq (yFor (pItL (pVar 0)) (xgName 2) (pIf (pOr (pNot (pTru (pCB bIs (pCons (pVar 2) (pCons (pC (.ty .list)) pNil))))) (pOr (pTest (pOp oNe (pCB bLen (pCons (pVar 2) pNil)) (pVar 1))) (pNot (pTru (pCB (bBs allB) (pCons (yLc [3] (pItL (pVar 2)) (xgName 3) pYes (pCall w_is_worth [] (pCons (pVar 3) pNil))) pNil)))))) (pRet (pC (.bl false))) pNext))
  (pRet (pC (.bl true)))))
theorem x_are_worths : ∃ v : Vl.PW, v = xF 4 p_are_worths := ⟨_, rfl⟩
@[irreducible] noncomputable def w_are_worths : Vl.PW := Classical.choose x_are_worths
theorem e_are_worths : w_are_worths = xF 4 p_are_worths := by unfold w_are_worths; exact Classical.choose_spec x_are_worths
noncomputable def p_is_price : GS := (pRet (pCall w_is_between [] (pCons (pVar 0) (pCons (pC (.int 0)) (pCons (pC (.int 1000000)) pNil)))))
theorem x_is_price : ∃ v : Vl.PW, v = xF 1 p_is_price := ⟨_, rfl⟩
@[irreducible] noncomputable def w_is_price : Vl.PW := Classical.choose x_is_price
theorem e_is_price : w_is_price = xF 1 p_is_price := by unfold w_is_price; exact Classical.choose_spec x_is_price
noncomputable def p_Scale_init : GS := (pSeq (pIf (pNot (pTru (pCall w_are_letters [] (pCons (pVar 1) pNil)))) pNever pNext)
  (pSeq (pIf (pNot (pTru (pCall w_are_worths [] (pCons (pVar 2) (pCons (pCB bLen (pCons (pVar 1) pNil)) pNil))))) pNever pNext)
  (pSeq (yFor (pItL (pLst (pCons (pImm (pTup (pCons (pC (.int 2)) (pCons (pVar 3) pNil)))) (pCons (pImm (pTup (pCons (pC (.int 3)) (pCons (pVar 4) pNil)))) pNil)))) (pgTup (pgsCons (xgName 5) (pgsCons (xgName 6) pgsNil))) (pIf (pNot (pTru (pCall w_is_price [] (pCons (pVar 6) pNil)))) pNever pNext))
  (pSeq (xFldS 0 0 (pImm (pVar 1)))
  (pSeq (xFldS 0 1 (pDc [5, 7, 8, 9, 0] (pEnumS (pVar 1)) (pgTup (pgsCons (xgName 5) (pgsCons (xgName 7) pgsNil))) pYes (bdIn [8, 9, 0] (pEnumS (pVar 1)) (pgTup (pgsCons (xgName 8) (pgsCons (xgName 9) pgsNil))) pYes (bdK (kTup (pCons (pVar 7) (pCons (pVar 9) pNil))) (pImm (pOp oIx (pOp oIx (pVar 2) (pVar 5)) (pVar 8)))))))
  (xFld2 0 2 3 (pCons (pImm (pVar 3)) (pCons (pImm (pVar 4)) pNil))))))))
theorem x_Scale_init : ∃ v : Vl.PW, v = xI 10 0 p_Scale_init := ⟨_, rfl⟩
@[irreducible] noncomputable def w_Scale_init : Vl.PW := Classical.choose x_Scale_init
theorem e_Scale_init : w_Scale_init = xI 10 0 p_Scale_init := by unfold w_Scale_init; exact Classical.choose_spec x_Scale_init
noncomputable def p_law_scale : GS := (pSeq (xSet 1 (pCall w_law_letters [] (pCons (pVar 0) (pCons (pC (.int 4)) pNil))))
  (pSeq (xSet 2 (pCall w_law_worths [] (pCons (pVar 0) (pCons (pCB bLen (pCons (pVar 1) pNil)) pNil))))
  (jSeq (pIf (pTest (pOp oEq (pCall w_law_take [] (pCons (pVar 0) (pCons (pC (.int 3)) pNil))) (pC (.int 0)))) (xSet 2 (yLc [3] (pItS (pVar 1)) (xgName 3) pYes (yLc [4] (pItS (pVar 1)) (xgName 4) pYes (pOp oIx (pLst (pCons (pC (.int 4)) (pCons (pUn oNeg (pC (.int 2))) pNil))) (pCB bInt (pCons (pOp oNe (pVar 3) (pVar 4)) pNil)))))) pNext)
  (pRet (pTup (pCons (pCallK w_Scale_init (pCons (pVar 1) (pCons (pVar 2) pNil)) (pCons (pCall w_law_price [] (pCons (pVar 0) pNil)) (pCons (pCall w_law_price [] (pCons (pVar 0) pNil)) pNil))) (pCons (pVar 1) pNil)))))))
theorem x_law_scale : ∃ v : Vl.PW, v = xF 5 p_law_scale := ⟨_, rfl⟩
@[irreducible] noncomputable def w_law_scale : Vl.PW := Classical.choose x_law_scale
theorem e_law_scale : w_law_scale = xF 5 p_law_scale := by unfold w_law_scale; exact Classical.choose_spec x_law_scale
noncomputable def p_law_row : GS := (pSeq (xSet 3 (pCB bMin2 (pCons (pVar 2) (pCons (pOp oIx (pLst (pCons (pC (.int 0)) (pCons (pC (.int 1)) (pCons (pImm (pVar 2)) (pCons (pCall w_law_take [] (pCons (pVar 0) (pCons (pOp oAdd (pVar 2) (pC (.int 1))) pNil))) (pCons (pCall w_law_take [] (pCons (pVar 0) (pCons (pOp oAdd (pVar 2) (pC (.int 1))) pNil))) pNil)))))) (pCall w_law_take [] (pCons (pVar 0) (pCons (pC (.int 5)) pNil)))) pNil))))
  (pRet (pJoin (pC (.str "")) (yLc [4] (pRng (pVar 3)) (xgName 4) pYes (pImm (pOp oIx (pVar 1) (pCall w_law_take [] (pCons (pVar 0) (pCons (pCB bLen (pCons (pVar 1) pNil)) pNil)))))))))
theorem x_law_row : ∃ v : Vl.PW, v = xF 5 p_law_row := ⟨_, rfl⟩
@[irreducible] noncomputable def w_law_row : Vl.PW := Classical.choose x_law_row
theorem e_law_row : w_law_row = xF 5 p_law_row := by unfold w_law_row; exact Classical.choose_spec x_law_row
noncomputable def p_is_row : GS := (pRet (pCall w_is_text_of [] (pCons (pVar 0) (pCons (pC (.str "abcdefghijklmnopqrstuvwxyz")) (pCons (pC (.int 0)) (pCons (pC (.int 40)) pNil))))))
theorem x_is_row : ∃ v : Vl.PW, v = xF 1 p_is_row := ⟨_, rfl⟩
@[irreducible] noncomputable def w_is_row : Vl.PW := Classical.choose x_is_row
theorem e_is_row : w_is_row = xF 1 p_is_row := by unfold w_is_row; exact Classical.choose_spec x_is_row
noncomputable def p_Scale_letters : GS := (pRet (pImm (pFld 0 0 (pVar 0))))
theorem x_Scale_letters : ∃ v : Vl.PW, v = xF 1 p_Scale_letters := ⟨_, rfl⟩
@[irreducible] noncomputable def w_Scale_letters : Vl.PW := Classical.choose x_Scale_letters
theorem e_Scale_letters : w_Scale_letters = xF 1 p_Scale_letters := by unfold w_Scale_letters; exact Classical.choose_spec x_Scale_letters
noncomputable def p_need_letters : GS := (yFor (pItS (pVar 0)) (xgName 2) (pIf (pTest (pOp (oIn true) (pVar 2) (pMeth 0 w_Scale_letters [] (pVar 1) pNil))) pNever pNext))
theorem x_need_letters : ∃ v : Vl.PW, v = xF 3 p_need_letters := ⟨_, rfl⟩
@[irreducible] noncomputable def w_need_letters : Vl.PW := Classical.choose x_need_letters
theorem e_need_letters : w_need_letters = xF 3 p_need_letters := by unfold w_need_letters; exact Classical.choose_spec x_need_letters
noncomputable def p_Sheet_init : GS := (pSeq (yFor (pItT (pTup (pCons (pTup (pCons (pC (.int 0)) (pCons (pVar 1) pNil))) (pCons (pTup (pCons (pC (.int 1)) (pCons (pVar 2) pNil))) pNil)))) (pgTup (pgsCons (xgName 4) (pgsCons (xgName 5) pgsNil))) (pIf (pNot (pTru (pCall w_is_row [] (pCons (pVar 5) pNil)))) pNever pNext))
  (pSeq (pIf (pNot (pTru (pCB (bIsC 0) (pCons (pVar 3) (pCons (pC (.cls "Scale")) pNil))))) pNever pNext)
  (pSeq (pDrop (pCall w_need_letters [] (pCons (pVar 1) (pCons (pVar 3) pNil))))
  (pSeq (pDrop (pCall w_need_letters [] (pCons (pVar 2) (pCons (pVar 3) pNil))))
  (pSeq (xFld3 0 6 0 1 2 (pCons (pVar 1) (pCons (pVar 2) (pCons (pVar 3) pNil))))
  (pSeq (xFldO 0 6 3 (pOneT (kTup (pCons (pC (.int 0)) (pCons (pC (.int 0)) pNil))) (pTup (pCons (pC (.int 0)) (pCons (pC (.int 0)) (pCons (pC (.int 0)) pNil))))))
  (xFldO 0 6 4 (pC (.bl false)))))))))
theorem x_Sheet_init : ∃ v : Vl.PW, v = xI 6 6 p_Sheet_init := ⟨_, rfl⟩
@[irreducible] noncomputable def w_Sheet_init : Vl.PW := Classical.choose x_Sheet_init
theorem e_Sheet_init : w_Sheet_init = xI 6 6 p_Sheet_init := by unfold w_Sheet_init; exact Classical.choose_spec x_Sheet_init
noncomputable def p_is_place : GS := (pRet (pAndV (pCall w_is_whole [] (pCons (pVar 0) pNil)) (pOp oGe (pVar 0) (pC (.int 0)))))
theorem x_is_place : ∃ v : Vl.PW, v = xF 1 p_is_place := ⟨_, rfl⟩
@[irreducible] noncomputable def w_is_place : Vl.PW := Classical.choose x_is_place
theorem e_is_place : w_is_place = xF 1 p_is_place := by unfold w_is_place; exact Classical.choose_spec x_is_place
noncomputable def p_need_place : GS := (pIf (pNot (pTru (pCall w_is_place [] (pCons (pVar 1) pNil)))) pNever pNext)
theorem x_need_place : ∃ v : Vl.PW, v = xF 2 p_need_place := ⟨_, rfl⟩
@[irreducible] noncomputable def w_need_place : Vl.PW := Classical.choose x_need_place
theorem e_need_place : w_need_place = xF 2 p_need_place := by unfold w_need_place; exact Classical.choose_spec x_need_place
noncomputable def p_is_step : GS := (pRet (pCall w_is_text_of [] (pCons (pVar 0) (pCons (pC (.str "bou")) (pCons (pC (.int 1)) (pCons (pC (.int 1)) pNil))))))
theorem x_is_step : ∃ v : Vl.PW, v = xF 1 p_is_step := ⟨_, rfl⟩
@[irreducible] noncomputable def w_is_step : Vl.PW := Classical.choose x_is_step
theorem e_is_step : w_is_step = xF 1 p_is_step := by unfold w_is_step; exact Classical.choose_spec x_is_step
noncomputable def p_Scale_each : GS := (pRet (pImm (pFld 0 3 (pVar 0))))
theorem x_Scale_each : ∃ v : Vl.PW, v = xF 1 p_Scale_each := ⟨_, rfl⟩
@[irreducible] noncomputable def w_Scale_each : Vl.PW := Classical.choose x_Scale_each
theorem e_Scale_each : w_Scale_each = xF 1 p_Scale_each := by unfold w_Scale_each; exact Classical.choose_spec x_Scale_each
noncomputable def p_is_letter : GS := (pRet (pCall w_is_text_of [] (pCons (pVar 0) (pCons (pC (.str "abcdefghijklmnopqrstuvwxyz")) (pCons (pC (.int 1)) (pCons (pC (.int 1)) pNil))))))
theorem x_is_letter : ∃ v : Vl.PW, v = xF 1 p_is_letter := ⟨_, rfl⟩
@[irreducible] noncomputable def w_is_letter : Vl.PW := Classical.choose x_is_letter
theorem e_is_letter : w_is_letter = xF 1 p_is_letter := by unfold w_is_letter; exact Classical.choose_spec x_is_letter
noncomputable def p_Scale_worth_of : GS := (pSeq (yFor (pItL (pLst (pCons (pImm (pTup (pCons (pC (.int 0)) (pCons (pVar 1) pNil)))) (pCons (pImm (pTup (pCons (pC (.int 1)) (pCons (pVar 2) pNil)))) pNil)))) (pgTup (pgsCons (xgName 3) (pgsCons (xgName 4) pgsNil))) (pIf (pNot (pTru (pCall w_is_letter [] (pCons (pVar 4) pNil)))) pNever pNext))
  (pSeq (yFor (pItT (pTup (pCons (pVar 1) (pCons (pVar 2) pNil)))) (xgName 4) (pIf (pTest (pOp (oIn true) (pVar 4) (pFld 0 0 (pVar 0)))) pNever pNext))
  (pRet (pImm (pDGetT (pFld 0 1 (pVar 0)) (pCons (pVar 1) (pCons (pVar 2) pNil)))))))
theorem x_Scale_worth_of : ∃ v : Vl.PW, v = xF 5 p_Scale_worth_of := ⟨_, rfl⟩
@[irreducible] noncomputable def w_Scale_worth_of : Vl.PW := Classical.choose x_Scale_worth_of
theorem e_Scale_worth_of : w_Scale_worth_of = xF 5 p_Scale_worth_of := by unfold w_Scale_worth_of; exact Classical.choose_spec x_Scale_worth_of
noncomputable def p_Scale_opening : GS := (pRet (pImm (pFld 0 2 (pVar 0))))
theorem x_Scale_opening : ∃ v : Vl.PW, v = xF 1 p_Scale_opening := ⟨_, rfl⟩
@[irreducible] noncomputable def w_Scale_opening : Vl.PW := Classical.choose x_Scale_opening
theorem e_Scale_opening : w_Scale_opening = xF 1 p_Scale_opening := by unfold w_Scale_opening; exact Classical.choose_spec x_Scale_opening
noncomputable def p_Sheet_numbers_left : GS := (pSeq (xSet 4 (pMeth 0 w_Scale_each [] (pFld 6 2 (pVar 0)) pNil))
  (pSeq (xSet 5 (pLst pNil))
  (jSeq (pIf (pAnd (pTest (pOp oGt (pVar 1) (pC (.int 0)))) (pTest (pOp oGt (pVar 2) (pC (.int 0))))) (pSeq (xSet 6 (pMeth 0 w_Scale_worth_of [] (pFld 6 2 (pVar 0)) (pCons (pOp oIx (pFld 6 0 (pVar 0)) (pUn oNeg (pVar 1))) (pCons (pOp oIx (pFld 6 1 (pVar 0)) (pUn oNeg (pVar 2))) pNil))))
  (xApp 5 (pImm (pTup (pCons (pC (.str "b")) (pCons (pOp oAdd (pVar 6) (pOp oIx (pDGetT (pFld 6 3 (pVar 0)) (pCons (pOp oSub (pVar 1) (pC (.int 1))) (pCons (pOp oSub (pVar 2) (pC (.int 1))) pNil))) (pC (.int 0)))) pNil)))))) pNext)
  (jSeq (pIf (pTest (pOp oGt (pVar 1) (pC (.int 0)))) (pSeq (xSet 7 (pOp oAdd (pVar 4) (pOp oMul (pMeth 0 w_Scale_opening [] (pFld 6 2 (pVar 0)) pNil) (pCB bInt (pCons (pOp oNe (pVar 3) (pC (.str "o"))) pNil)))))
  (xApp 5 (pTup (pCons (pC (.str "o")) (pCons (pOp oSub (pOp oIx (pDGetT (pFld 6 3 (pVar 0)) (pCons (pOp oSub (pVar 1) (pC (.int 1))) (pCons (pVar 2) pNil))) (pC (.int 1))) (pVar 7)) pNil))))) pNext)
  (jSeq (pIf (pTest (pOp oGt (pVar 2) (pC (.int 0)))) (pSeq (xSet 7 (pOp oAdd (pVar 4) (pOp oMul (pMeth 0 w_Scale_opening [] (pFld 6 2 (pVar 0)) pNil) (pCB bInt (pCons (pOp oNe (pVar 3) (pC (.str "u"))) pNil)))))
  (xApp 5 (pTup (pCons (pC (.str "u")) (pCons (pOp oSub (pOp oIx (pDGetT (pFld 6 3 (pVar 0)) (pCons (pVar 1) (pCons (pOp oSub (pVar 2) (pC (.int 1))) pNil))) (pC (.int 2))) (pVar 7)) pNil))))) pNext)
  (pRet (pVar 5)))))))
theorem x_Sheet_numbers_left : ∃ v : Vl.PW, v = xF 8 p_Sheet_numbers_left := ⟨_, rfl⟩
@[irreducible] noncomputable def w_Sheet_numbers_left : Vl.PW := Classical.choose x_Sheet_numbers_left
theorem e_Sheet_numbers_left : w_Sheet_numbers_left = xF 8 p_Sheet_numbers_left := by unfold w_Sheet_numbers_left; exact Classical.choose_spec x_Sheet_numbers_left
noncomputable def p_Sheet_learn : GS := (pSeq (pIf (pTru (pFld 6 4 (pVar 0))) pRetN pNext)
  (pSeq (yFor (pRng (pOp oAdd (pCB bLen (pCons (pFld 6 0 (pVar 0)) pNil)) (pC (.int 1)))) (xgName 1) (yFor (pRng (pOp oAdd (pCB bLen (pCons (pFld 6 1 (pVar 0)) pNil)) (pC (.int 1)))) (xgName 2) (pIf (pInK true (kTup (pCons (pVar 1) (pCons (pVar 2) pNil))) (pFld 6 3 (pVar 0))) (pSeq (xSet 3 (yLc [5] (pItT (pC (.tup [(.str "b"), (.str "o"), (.str "u")]))) (xgName 5) pYes (pMeth 6 w_Sheet_numbers_left [] (pVar 0) (pCons (pVar 1) (pCons (pVar 2) (pCons (pVar 5) pNil))))))
  (pSeq (xSet 4 (yLc [6] (pItL (pVar 3)) (xgName 6) pYes (pCB (bIn (fun l => l ≠ []) maxL) (pCons (yLc [7, 8] (pItL (pVar 6)) (pgTup (pgsCons (xgName 7) (pgsCons (xgName 8) pgsNil))) pYes (pVar 8)) pNil))))
  (xSetDO 0 6 3 (pCons (pVar 1) (pCons (pVar 2) pNil)) (pCB bTupOf (pCons (pVar 4) pNil))))) pNext)))
  (xFldO 0 6 4 (pC (.bl true)))))
theorem x_Sheet_learn : ∃ v : Vl.PWB, v = xB 9 [0] p_Sheet_learn := ⟨_, rfl⟩
@[irreducible] noncomputable def w_Sheet_learn : Vl.PWB := Classical.choose x_Sheet_learn
theorem e_Sheet_learn : w_Sheet_learn = xB 9 [0] p_Sheet_learn := by unfold w_Sheet_learn; exact Classical.choose_spec x_Sheet_learn
noncomputable def p_Sheet_bound : GS := (pSeq (pDrop (pCall w_need_place [] (pCons (pC (.int 0)) (pCons (pVar 1) pNil))))
  (pSeq (pDrop (pCall w_need_place [] (pCons (pC (.int 1)) (pCons (pVar 2) pNil))))
  (pSeq (pIf (pNot (pTru (pCall w_is_step [] (pCons (pVar 3) pNil)))) pNever pNext)
  (pSeq (pIf (pTest (pOp oGt (pVar 1) (pCB bLen (pCons (pFld 6 0 (pVar 0)) pNil)))) pNever pNext)
  (pSeq (pIf (pTest (pOp oGt (pVar 2) (pCB bLen (pCons (pFld 6 1 (pVar 0)) pNil)))) pNever pNext)
  (pSeq (pDropF (pMethB 0 6 [0] w_Sheet_learn pNil))
  (pRet (pImm (pOp oIx (pDGetT (pFld 6 3 (pVar 0)) (pCons (pOp oSub (pCB bLen (pCons (pFld 6 0 (pVar 0)) pNil)) (pVar 1)) (pCons (pOp oSub (pCB bLen (pCons (pFld 6 1 (pVar 0)) pNil)) (pVar 2)) pNil))) (pIdxT ["b", "o", "u"] (pVar 3)))))))))))
theorem x_Sheet_bound : ∃ v : Vl.PWB, v = xB 4 [0] p_Sheet_bound := ⟨_, rfl⟩
@[irreducible] noncomputable def w_Sheet_bound : Vl.PWB := Classical.choose x_Sheet_bound
theorem e_Sheet_bound : w_Sheet_bound = xB 4 [0] p_Sheet_bound := by unfold w_Sheet_bound; exact Classical.choose_spec x_Sheet_bound
noncomputable def p_law_table : GS := (pSeq (xSet 2 (pC (.dT [])))
  (pSeq (yFor (pRng (pOp oAdd (pCB bLen (pCons (pOp oDGet (pVar 1) (pC (.str "over"))) pNil)) (pC (.int 1)))) (xgName 3) (yFor (pRng (pOp oAdd (pCB bLen (pCons (pOp oDGet (pVar 1) (pC (.str "under"))) pNil)) (pC (.int 1)))) (xgName 4) (xSetDE 2 (pCons (pVar 3) (pCons (pVar 4) pNil)) (pLcF [5] (pItL (pLst (pCons (pC (.str "b")) (pCons (pC (.str "o")) (pCons (pC (.str "u")) pNil))))) (xgName 5) (pMethB 0 6 [0] w_Sheet_bound (pCons (pVar 3) (pCons (pVar 4) (pCons (pVar 5) pNil))))))))
  (pRet (pVar 2))))
theorem x_law_table : ∃ v : Vl.PWB, v = xB 6 [0, 1] p_law_table := ⟨_, rfl⟩
@[irreducible] noncomputable def w_law_table : Vl.PWB := Classical.choose x_law_table
theorem e_law_table : w_law_table = xB 6 [0, 1] p_law_table := by unfold w_law_table; exact Classical.choose_spec x_law_table
noncomputable def p_law_deed : GS := (pSeq (xSet 4 (pOp oIx (pLst (pCons (pC (.str "over")) (pCons (pC (.str "under")) pNil))) (pCall w_law_take [] (pCons (pVar 0) (pCons (pC (.int 2)) pNil)))))
  (pSeq (xSet 5 (pOp oDGet (pVar 1) (pVar 4)))
  (pSeq (xSet 6 (pCall w_law_take [] (pCons (pVar 0) (pCons (pC (.int 3)) pNil))))
  (pSeq (pIf (pOr (pAnd (pTest (pOp oEq (pVar 6) (pC (.int 0)))) (pTest (pOp oLt (pCB bLen (pCons (pVar 5) pNil)) (pVar 3)))) (pTest (pOp oEq (pVar 5) (pC (.str ""))))) (pSeq (xSet 7 (pOp oIx (pLst (pCons (pC (.int 0)) (pCons (pCB bLen (pCons (pVar 5) pNil)) (pCons (pCall w_law_take [] (pCons (pVar 0) (pCons (pOp oAdd (pCB bLen (pCons (pVar 5) pNil)) (pC (.int 1))) pNil))) pNil)))) (pCall w_law_take [] (pCons (pVar 0) (pCons (pC (.int 3)) pNil)))))
  (pSeq (xSet 8 (pCB bMin2 (pCons (pOp oSub (pVar 3) (pCB bLen (pCons (pVar 5) pNil))) (pCons (pOp oIx (pLst (pCons (pC (.int 1)) (pCons (pC (.int 1)) (pCons (pC (.int 2)) (pCons (pOp oAdd (pC (.int 1)) (pCall w_law_take [] (pCons (pVar 0) (pCons (pC (.int 6)) pNil)))) (pCons (pImm (pVar 3)) pNil)))))) (pCall w_law_take [] (pCons (pVar 0) (pCons (pC (.int 5)) pNil)))) pNil))))
  (pRet (pTup (pCons (pC (.str "put")) (pCons (pVar 4) (pCons (pVar 7) (pCons (pJoin (pC (.str "")) (yLc [9] (pRng (pVar 8)) (xgName 9) pYes (pImm (pOp oIx (pVar 2) (pCall w_law_take [] (pCons (pVar 0) (pCons (pCB bLen (pCons (pVar 2) pNil)) pNil))))))) pNil)))))))) pNext)
  (pSeq (xSet 7 (pOp oIx (pLst (pCons (pC (.int 0)) (pCons (pOp oSub (pCB bLen (pCons (pVar 5) pNil)) (pC (.int 1))) (pCons (pCall w_law_take [] (pCons (pVar 0) (pCons (pCB bLen (pCons (pVar 5) pNil)) pNil))) pNil)))) (pCall w_law_take [] (pCons (pVar 0) (pCons (pC (.int 3)) pNil)))))
  (pSeq (pIf (pTest (pOp oLt (pVar 6) (pC (.int 2)))) (pRet (pTup (pCons (pC (.str "take")) (pCons (pVar 4) (pCons (pVar 7) (pCons (pOp oIx (pLst (pCons (pC (.int 1)) (pCons (pOp oSub (pCB bLen (pCons (pVar 5) pNil)) (pVar 7)) (pCons (pOp oAdd (pC (.int 1)) (pCall w_law_take [] (pCons (pVar 0) (pCons (pOp oSub (pCB bLen (pCons (pVar 5) pNil)) (pVar 7)) pNil)))) pNil)))) (pCall w_law_take [] (pCons (pVar 0) (pCons (pC (.int 3)) pNil)))) pNil)))))) pNext)
  (pRet (pImm (pTup (pCons (pC (.str "turn")) (pCons (pVar 4) (pCons (pVar 7) (pCons (pOp oIx (pVar 2) (pCall w_law_take [] (pCons (pVar 0) (pCons (pCB bLen (pCons (pVar 2) pNil)) pNil)))) pNil)))))))))))))
theorem x_law_deed : ∃ v : Vl.PW, v = xF 10 p_law_deed := ⟨_, rfl⟩
@[irreducible] noncomputable def w_law_deed : Vl.PW := Classical.choose x_law_deed
theorem e_law_deed : w_law_deed = xF 10 p_law_deed := by unfold w_law_deed; exact Classical.choose_spec x_law_deed
noncomputable def p_is_side : GS := (pRet (pAndV (pCB bIs (pCons (pVar 0) (pCons (pC (.ty .str)) pNil))) (pOp (oIn false) (pVar 0) (pC (.tup [(.str "over"), (.str "under")])))))
theorem x_is_side : ∃ v : Vl.PW, v = xF 1 p_is_side := ⟨_, rfl⟩
@[irreducible] noncomputable def w_is_side : Vl.PW := Classical.choose x_is_side
theorem e_is_side : w_is_side = xF 1 p_is_side := by unfold w_is_side; exact Classical.choose_spec x_is_side
noncomputable def p_need_side : GS := (pIf (pNot (pTru (pCall w_is_side [] (pCons (pVar 0) pNil)))) pNever pNext)
theorem x_need_side : ∃ v : Vl.PW, v = xF 1 p_need_side := ⟨_, rfl⟩
@[irreducible] noncomputable def w_need_side : Vl.PW := Classical.choose x_need_side
theorem e_need_side : w_need_side = xF 1 p_need_side := by unfold w_need_side; exact Classical.choose_spec x_need_side
noncomputable def p_Sheet_row : GS := (pSeq (pDrop (pCall w_need_side [] (pCons (pVar 1) pNil)))
  (pSeq (pIf (pTest (pOp oEq (pVar 1) (pC (.str "over")))) (pRet (pImm (pFld 6 0 (pVar 0)))) pNext)
  (pRet (pImm (pFld 6 1 (pVar 0))))))
theorem x_Sheet_row : ∃ v : Vl.PW, v = xF 2 p_Sheet_row := ⟨_, rfl⟩
@[irreducible] noncomputable def w_Sheet_row : Vl.PW := Classical.choose x_Sheet_row
theorem e_Sheet_row : w_Sheet_row = xF 2 p_Sheet_row := by unfold w_Sheet_row; exact Classical.choose_spec x_Sheet_row
noncomputable def p_Sheet_changed_row : GS := (pSeq (xFldO 0 6 4 (pC (.bl false)))
  (pIf (pTest (pOp oEq (pVar 1) (pC (.str "over")))) (pSeq (xFldO 0 6 0 (pVar 2))
  (xFldO 0 6 3 (pDcI [0, 1, 2, 4, 5] 4 5 (pFld 6 3 (pVar 0)) (pTest (pOp oLe (pOp oIx (pVar 4) (pC (.int 0))) (pVar 3)))))) (pSeq (xFldO 0 6 1 (pVar 2))
  (xFldO 0 6 3 (pDcI [0, 1, 2, 4, 5] 4 5 (pFld 6 3 (pVar 0)) (pTest (pOp oLe (pOp oIx (pVar 4) (pC (.int 1))) (pVar 3))))))))
theorem x_Sheet_changed_row : ∃ v : Vl.PWB, v = xB 6 [0] p_Sheet_changed_row := ⟨_, rfl⟩
@[irreducible] noncomputable def w_Sheet_changed_row : Vl.PWB := Classical.choose x_Sheet_changed_row
theorem e_Sheet_changed_row : w_Sheet_changed_row = xB 6 [0] p_Sheet_changed_row := by unfold w_Sheet_changed_row; exact Classical.choose_spec x_Sheet_changed_row
noncomputable def p_Sheet_put : GS := (pSeq (pDrop (pCall w_need_side [] (pCons (pVar 1) pNil)))
  (pSeq (pDrop (pCall w_need_place [] (pCons (pC (.int 1)) (pCons (pVar 2) pNil))))
  (pSeq (pIf (pOr (pNot (pTru (pCall w_is_row [] (pCons (pVar 3) pNil)))) (pTest (pOp oEq (pVar 3) (pC (.str ""))))) pNever pNext)
  (pSeq (xSet 4 (pMeth 6 w_Sheet_row [] (pVar 0) (pCons (pVar 1) pNil)))
  (pSeq (pIf (pTest (pOp oGt (pVar 2) (pCB bLen (pCons (pVar 4) pNil)))) pNever pNext)
  (pSeq (pIf (pTest (pOp oGt (pOp oAdd (pCB bLen (pCons (pVar 4) pNil)) (pCB bLen (pCons (pVar 3) pNil))) (pC (.int 40)))) pNever pNext)
  (pSeq (pDrop (pCall w_need_letters [] (pCons (pVar 3) (pCons (pFld 6 2 (pVar 0)) pNil))))
  (pSeq (pDropF (pMethB 0 6 [0] w_Sheet_changed_row (pCons (pVar 1) (pCons (pOp oAdd (pOp oAdd (pSl (pVar 4) pNoPart (pPart (pVar 2))) (pVar 3)) (pSl (pVar 4) (pPart (pVar 2)) pNoPart)) (pCons (pOp oSub (pCB bLen (pCons (pVar 4) pNil)) (pVar 2)) pNil)))))
  (pRet (pOp oAdd (pVar 2) (pCB bLen (pCons (pVar 3) pNil))))))))))))
theorem x_Sheet_put : ∃ v : Vl.PWB, v = xB 5 [0] p_Sheet_put := ⟨_, rfl⟩
@[irreducible] noncomputable def w_Sheet_put : Vl.PWB := Classical.choose x_Sheet_put
theorem e_Sheet_put : w_Sheet_put = xB 5 [0] p_Sheet_put := by unfold w_Sheet_put; exact Classical.choose_spec x_Sheet_put
noncomputable def p_Sheet_take : GS := (pSeq (pDrop (pCall w_need_side [] (pCons (pVar 1) pNil)))
  (pSeq (pDrop (pCall w_need_place [] (pCons (pC (.int 1)) (pCons (pVar 2) pNil))))
  (pSeq (pIf (pNot (pTru (pCall w_is_between [] (pCons (pVar 3) (pCons (pC (.int 1)) (pCons (pC (.int 40)) pNil)))))) pNever pNext)
  (pSeq (xSet 4 (pMeth 6 w_Sheet_row [] (pVar 0) (pCons (pVar 1) pNil)))
  (pSeq (pIf (pTest (pOp oGt (pOp oAdd (pVar 2) (pVar 3)) (pCB bLen (pCons (pVar 4) pNil)))) pNever pNext)
  (pSeq (pDropF (pMethB 0 6 [0] w_Sheet_changed_row (pCons (pVar 1) (pCons (pOp oAdd (pSl (pVar 4) pNoPart (pPart (pVar 2))) (pSl (pVar 4) (pPart (pOp oAdd (pVar 2) (pVar 3))) pNoPart)) (pCons (pOp oSub (pOp oSub (pCB bLen (pCons (pVar 4) pNil)) (pVar 2)) (pVar 3)) pNil)))))
  (pRet (pVar 2))))))))
theorem x_Sheet_take : ∃ v : Vl.PWB, v = xB 5 [0] p_Sheet_take := ⟨_, rfl⟩
@[irreducible] noncomputable def w_Sheet_take : Vl.PWB := Classical.choose x_Sheet_take
theorem e_Sheet_take : w_Sheet_take = xB 5 [0] p_Sheet_take := by unfold w_Sheet_take; exact Classical.choose_spec x_Sheet_take
noncomputable def p_Sheet_turn : GS := (pSeq (pDrop (pCall w_need_side [] (pCons (pVar 1) pNil)))
  (pSeq (pDrop (pCall w_need_place [] (pCons (pC (.int 1)) (pCons (pVar 2) pNil))))
  (pSeq (pIf (pNot (pTru (pCall w_is_letter [] (pCons (pVar 3) pNil)))) pNever pNext)
  (pSeq (xSet 4 (pMeth 6 w_Sheet_row [] (pVar 0) (pCons (pVar 1) pNil)))
  (pSeq (pIf (pTest (pOp oGe (pVar 2) (pCB bLen (pCons (pVar 4) pNil)))) pNever pNext)
  (pSeq (pDrop (pCall w_need_letters [] (pCons (pVar 3) (pCons (pFld 6 2 (pVar 0)) pNil))))
  (pSeq (pDropF (pMethB 0 6 [0] w_Sheet_changed_row (pCons (pVar 1) (pCons (pOp oAdd (pOp oAdd (pSl (pVar 4) pNoPart (pPart (pVar 2))) (pVar 3)) (pSl (pVar 4) (pPart (pOp oAdd (pVar 2) (pC (.int 1)))) pNoPart)) (pCons (pOp oSub (pOp oSub (pCB bLen (pCons (pVar 4) pNil)) (pVar 2)) (pC (.int 1))) pNil)))))
  (pRet (pOp oAdd (pVar 2) (pC (.int 1)))))))))))
theorem x_Sheet_turn : ∃ v : Vl.PWB, v = xB 5 [0] p_Sheet_turn := ⟨_, rfl⟩
@[irreducible] noncomputable def w_Sheet_turn : Vl.PWB := Classical.choose x_Sheet_turn
theorem e_Sheet_turn : w_Sheet_turn = xB 5 [0] p_Sheet_turn := by unfold w_Sheet_turn; exact Classical.choose_spec x_Sheet_turn
noncomputable def p_law_done : GS := (pSeq (pAsg (pVar 2) (pgTup (pgsCons (xgName 3) (pgsCons (xgName 4) (pgsCons (xgName 5) (pgsCons (xgName 6) pgsNil))))))
  (pSeq (xSet 7 (pImm (pOp oDGet (pVar 1) (pVar 4))))
  (pSeq (pIf (pTest (pOp oEq (pVar 3) (pC (.str "put")))) (pSeq (xSetDX 1 (pVar 4) (pOp oAdd (pOp oAdd (pSl (pVar 7) pNoPart (pPart (pVar 5))) (pVar 6)) (pSl (pVar 7) (pPart (pVar 5)) pNoPart)))
  (pRetF (fTup (fCons (pMethB 0 6 [0] w_Sheet_put (pCons (pVar 4) (pCons (pVar 5) (pCons (pVar 6) pNil)))) (fCons (fE (pOp oAdd (pVar 5) (pCB bLen (pCons (pVar 6) pNil)))) fNil))))) pNext)
  (pSeq (pIf (pTest (pOp oEq (pVar 3) (pC (.str "take")))) (pSeq (xSetDX 1 (pVar 4) (pOp oAdd (pSl (pVar 7) pNoPart (pPart (pVar 5))) (pSl (pVar 7) (pPart (pOp oAdd (pVar 5) (pVar 6))) pNoPart)))
  (pRetF (fTup (fCons (pMethB 0 6 [0] w_Sheet_take (pCons (pVar 4) (pCons (pVar 5) (pCons (pVar 6) pNil)))) (fCons (fE (pVar 5)) fNil))))) pNext)
  (pSeq (xSetDX 1 (pVar 4) (pOp oAdd (pOp oAdd (pSl (pVar 7) pNoPart (pPart (pVar 5))) (pVar 6)) (pSl (pVar 7) (pPart (pOp oAdd (pVar 5) (pC (.int 1)))) pNoPart)))
  (pRetF (fTup (fCons (pMethB 0 6 [0] w_Sheet_turn (pCons (pVar 4) (pCons (pVar 5) (pCons (pVar 6) pNil)))) (fCons (fE (pOp oAdd (pVar 5) (pC (.int 1)))) fNil)))))))))
theorem x_law_done : ∃ v : Vl.PWB, v = xB 8 [0, 1] p_law_done := ⟨_, rfl⟩
@[irreducible] noncomputable def w_law_done : Vl.PWB := Classical.choose x_law_done
theorem e_law_done : w_law_done = xB 8 [0, 1] p_law_done := by unfold w_law_done; exact Classical.choose_spec x_law_done
noncomputable def p_law_moved : GS := (pSeq (pAsg (pVar 0) (pgTup (pgsCons (xgName 1) (pgsCons (xgName 2) (pgsCons (xgName 3) (pgsCons (xgName 4) pgsNil))))))
  (pSeq (pIf (pTest (pOp oEq (pVar 1) (pC (.str "put")))) (pRet (pCB bLen (pCons (pVar 4) pNil))) pNext)
  (pSeq (pIf (pTest (pOp oEq (pVar 1) (pC (.str "take")))) (pRet (pUn oNeg (pVar 4))) pNext)
  (pRet (pC (.int 0))))))
theorem x_law_moved : ∃ v : Vl.PW, v = xF 5 p_law_moved := ⟨_, rfl⟩
@[irreducible] noncomputable def w_law_moved : Vl.PW := Classical.choose x_law_moved
theorem e_law_moved : w_law_moved = xF 5 p_law_moved := by unfold w_law_moved; exact Classical.choose_spec x_law_moved
noncomputable def p_law_stay : GS := (pSeq (pLocked2 1 0 (yFor (pKeys 1) (pgTup (pgsCons (xgName 5) (pgsCons (xgName 6) pgsNil))) (pSeq (pIf (pAnd (pTest (pOp oEq (pVar 2) (pC (.str "over")))) (pAnd (pTest (pOp oGe (pVar 5) (pVar 3))) (pTest (pOp oNe (pDGetT (pVar 1) (pCons (pVar 5) (pCons (pVar 6) pNil))) (pDGetT (pVar 0) (pCons (pOp oSub (pVar 5) (pVar 4)) (pCons (pVar 6) pNil))))))) (pRet (pC (.bl false))) pNext)
  (pIf (pAnd (pTest (pOp oEq (pVar 2) (pC (.str "under")))) (pAnd (pTest (pOp oGe (pVar 6) (pVar 3))) (pTest (pOp oNe (pDGetT (pVar 1) (pCons (pVar 5) (pCons (pVar 6) pNil))) (pDGetT (pVar 0) (pCons (pVar 5) (pCons (pOp oSub (pVar 6) (pVar 4)) pNil))))))) (pRet (pC (.bl false))) pNext))))
  (pRet (pC (.bl true))))
theorem x_law_stay : ∃ v : Vl.PW, v = xF 7 p_law_stay := ⟨_, rfl⟩
@[irreducible] noncomputable def w_law_stay : Vl.PW := Classical.choose x_law_stay
theorem e_law_stay : w_law_stay = xF 7 p_law_stay := by unfold w_law_stay; exact Classical.choose_spec x_law_stay
noncomputable def p_law : GS := (pSeq (pAsg (pCall w_law_scale [] (pCons (pVar 1) pNil)) (pgTup (pgsCons (xgName 2) (pgsCons (xgName 3) pgsNil))))
  (pSeq (xSet 4 (pOp oIx (pLst (pCons (pC (.int 8)) (pCons (pC (.int 12)) pNil))) (pCB bInt (pCons (pOp oEq (pCall w_law_take [] (pCons (pVar 1) (pCons (pC (.int 8)) pNil))) (pC (.int 0))) pNil))))
  (pSeq (xSet 5 (pDict [("over", (pCall w_law_row [] (pCons (pVar 1) (pCons (pVar 3) (pCons (pVar 4) pNil))))), ("under", (pCall w_law_row [] (pCons (pVar 1) (pCons (pVar 3) (pCons (pVar 4) pNil)))))]))
  (pSeq (xSet 6 (pCall w_Sheet_init [] (pCons (pImm (pOp oDGet (pVar 5) (pC (.str "over")))) (pCons (pImm (pOp oDGet (pVar 5) (pC (.str "under")))) (pCons (pVar 2) pNil)))))
  (pSeq (yFor (pRng (pOp oAdd (pC (.int 1)) (pCall w_law_take [] (pCons (pVar 1) (pCons (pC (.int 6)) pNil))))) (xgName 7) (pSeq (xSetF 8 (pCallB [6, 5] w_law_table (pCons (pVar 6) (pCons (pVar 5) pNil))))
  (pSeq (xSet 9 (pCall w_law_deed [] (pCons (pVar 1) (pCons (pVar 5) (pCons (pVar 3) (pCons (pVar 4) pNil))))))
  (pSeq (pAsgF (pCallB [6, 5] w_law_done (pCons (pVar 6) (pCons (pVar 5) (pCons (pVar 9) pNil)))) (pgTup (pgsCons (xgName 10) (pgsCons (xgName 11) pgsNil))))
  (pSeq (pIf (pTest (pOp oNe (pVar 10) (pVar 11))) (pRet (pC (.bl false))) pNext)
  (pSeq (xSetF 12 (pCallB [6, 5] w_law_table (pCons (pVar 6) (pCons (pVar 5) pNil))))
  (pSeq (xSetF 13 (pCallBn 15 [5] w_law_table (pCall w_Sheet_init [] (pCons (pImm (pOp oDGet (pVar 5) (pC (.str "over")))) (pCons (pImm (pOp oDGet (pVar 5) (pC (.str "under")))) (pCons (pVar 2) pNil)))) (pCons (pVar 5) pNil)))
  (yFor (pItL (pLst (pCons (pVar 12) (pCons (pVar 13) pNil)))) (xgName 14) (pIf (pNot (pTru (pCall w_law_stay [] (pCons (pVar 8) (pCons (pVar 14) (pCons (pOp oIx (pVar 9) (pC (.int 1))) (pCons (pVar 10) (pCons (pCall w_law_moved [] (pCons (pVar 9) pNil)) pNil)))))))) (pRet (pC (.bl false))) pNext)))))))))
  (pRet (pC (.bl true))))))))
def topS (i : Nat) : Stmt := PySem.Challenge.pw_laybeside_k73_lines_stay.main.body.getD i (.Pass ⟨0, 0, 0, 0⟩)
structure Tx (K : Vl.Fg) (mg : Str → Option Value) : Prop where
  a_Scale_by_two : NoAttr K (He.ga K "Scale") "by_two"
  a_Scale_kept_each : NoAttr K (He.ga K "Scale") "kept_each"
  a_Scale_kept_letters : NoAttr K (He.ga K "Scale") "kept_letters"
  a_Scale_kept_opening : NoAttr K (He.ga K "Scale") "kept_opening"
  a_Sheet_all_known : NoAttr K (He.ga K "Sheet") "all_known"
  a_Sheet_known : NoAttr K (He.ga K "Sheet") "known"
  a_Sheet_over_row : NoAttr K (He.ga K "Sheet") "over_row"
  a_Sheet_ruled : NoAttr K (He.ga K "Sheet") "ruled"
  a_Sheet_under_row : NoAttr K (He.ga K "Sheet") "under_row"
  c_Scale : Cls K (He.ga K "Scale")
  c_Sheet : Cls K (He.ga K "Sheet")
  f_abs : mg "abs" = none
  f_all : mg "all" = none
  f_bool : mg "bool" = none
  f_enumerate : mg "enumerate" = none
  f_int : mg "int" = none
  f_isinstance : mg "isinstance" = none
  f_len : mg "len" = none
  f_list : mg "list" = none
  f_max : mg "max" = none
  f_min : mg "min" = none
  f_range : mg "range" = none
  f_str : mg "str" = none
  f_tuple : mg "tuple" = none
  g_COMES : GV K mg "COMES" (.tup [(.str "b"), (.str "o"), (.str "u")])
  g_LETTERS : GV K mg "LETTERS" (.str "abcdefghijklmnopqrstuvwxyz")
  g_LONGEST_ROW : GV K mg "LONGEST_ROW" (.int 40)
  g_MOST_LETTERS : GV K mg "MOST_LETTERS" (.int 8)
  g_MOST_WORTH : GV K mg "MOST_WORTH" (.int 1000000)
  g_SIDES : GV K mg "SIDES" (.tup [(.str "over"), (.str "under")])
  g_STEPS : GV K mg "STEPS" (.str "bou")
  k_Scale : C8.InsC K (He.ga K "Scale")
  r_Scale : mg "Scale" = some (.ref (He.ga K "Scale"))
section
variable {P : Program} {w : World} {K : Vl.Fg} {mg : Str → Option Value} {base : Heap}
abbrev s_law_take : Stmt := topS 39
theorem sc_law_take : FnScope ["_law_bag_here", "_law_many", "_law_cell", "_law_value", "_law_first", "_law_second"] ["_law_bag_here", "_law_many"] (defScope s_law_take) := ⟨rfl, rfl, rfl, by decide +kernel, rfl, by decide +kernel, by decide +kernel⟩
abbrev s_law_letters : Stmt := topS 40
theorem sc_law_letters : FnScope ["_law_bag_here", "_law_most", "_law_pool", "_law_found", "_law_k"] ["_law_bag_here", "_law_most"] (defScope s_law_letters) := ⟨rfl, rfl, rfl, by decide +kernel, rfl, by decide +kernel, by decide +kernel⟩
theorem q_law_letters (T : Tx K mg) (c_law_take : Cal P w K mg base "_law_take" 1 ["_law_bag_here", "_law_many"] (spF 2 w_law_take K) []) {f : Addr} {cdv : Value} {A : Around} {outer : List Env} {s : Shared} {H : Hp} {E : XK} (hr : Room 1 (A.deeper (PyProof.Rows.envOfC "_law_letters" (defScope s_law_letters) s.heap.objs.size f cdv))) : QB (cxOf CX0 P w K mg base ["_law_bag_here", "_law_most", "_law_pool", "_law_found", "_law_k"] "_law_letters" (defScope s_law_letters) f cdv A outer s H E).nox [.bor, .bor, .own, .sh, .sh] [.bor, .bor, .own, .sh, .sh] [.bor, .bor, .own, .sh, .sh] (defBody s_law_letters) p_law_letters := by
  exact (qb_cons (xs_setN (i := 2) (fun h => ps_set (i := 2) sc_law_letters.nd rfl (by first | exact Or.inl rfl | exact Or.inr rfl) h) (qn_listS (by rfl) T.f_list (by rfl) (qa_cons qe_str qa_nil)))
  (qb_cons (xs_setG (i := 3) (fun h => ps_set (i := 3) sc_law_letters.nd rfl (by first | exact Or.inl rfl | exact Or.inr rfl) h) qe_str)
  (qb_cons (yq_for (qs_for (js := [4]) (fun h1 h2 h3 => ps_for PassesOwn.never rfl h1 h2 h3) (qi_rng (by rfl) T.f_range (qe_add qe_int (qe_calF c_law_take dfl_nil (hr.mono (j := 1) (by decide)) (by rfl) (qa_cons (qe_v 0 (pv 0)) (qa_cons (qe_v 1 (pv 1)) qa_nil))))) (xq_name (i := 4) (pg_name (i := 4) sc_law_letters.nd rfl (by first | exact Or.inl rfl | exact Or.inr rfl))) (qb_one (xs_setF (i := 3) (fun h => ps_set (i := 3) sc_law_letters.nd rfl (by first | exact Or.inl rfl | exact Or.inr rfl) h) (qf_add (qe_v 3 (pv 3)) (qf_popAt (i := 2) (fun h => pe_bm PySem.F.plainAttrs_list PySem.F.slot_list_pop PySem.F.type_list_pop mt_popAt (pv 2) h) (qe_calF c_law_take dfl_nil (hr.mono (j := 1) (by decide)) (by rfl) (qa_cons (qe_v 0 (pv 0)) (qa_cons (qe_cbS len_ok call_lenA T.f_len (by rfl) (by decide +kernel) (qa_cons (qe_v 2 (pv 2)) qa_nil)) qa_nil)))))))))
  (qb_one (qs_ret (qe_v 3 (pv 3)))))))
theorem ok_law_letters (T : Tx K mg) (c_law_take : Cal P w K mg base "_law_take" 1 ["_law_bag_here", "_law_many"] (spF 2 w_law_take K) []) {f : Addr} {fd : FuncData} (F : FunD K "_law_letters" "_law_letters" (defArgs s_law_letters) (defBody s_law_letters) (defScope s_law_letters) [] [] f fd) : FnOk P w K mg base CX0 2 f fd ["_law_bag_here", "_law_most"] (spF 2 w_law_letters K) := by
  refine F.ok sc_law_letters (fun vs H Q E h => len_F h) (fun cdv A outer s H vs Q E hr h => ?_)
  have hq := q_law_letters (P := P) (w := w) (base := base) (E := E) (H := H) (outer := outer) T c_law_take hr
  rw [e_law_letters, xF_eq] at h
  obtain ⟨t, h1, h2⟩ := body_F (N := ["_law_bag_here", "_law_most", "_law_pool", "_law_found", "_law_k"]) (n := 2) hq rfl (by decide) h
  exact ⟨t, PSs.nox h1, h2⟩
abbrev s_law_worth : Stmt := topS 41
theorem sc_law_worth : FnScope ["_law_bag_here", "_law_way"] ["_law_bag_here"] (defScope s_law_worth) := ⟨rfl, rfl, rfl, by decide +kernel, rfl, by decide +kernel, by decide +kernel⟩
theorem q_law_worth (T : Tx K mg) (c_law_take : Cal P w K mg base "_law_take" 1 ["_law_bag_here", "_law_many"] (spF 2 w_law_take K) []) {f : Addr} {cdv : Value} {A : Around} {outer : List Env} {s : Shared} {H : Hp} {E : XK} (hr : Room 1 (A.deeper (PyProof.Rows.envOfC "_law_worth" (defScope s_law_worth) s.heap.objs.size f cdv))) : QB (cxOf CX0 P w K mg base ["_law_bag_here", "_law_way"] "_law_worth" (defScope s_law_worth) f cdv A outer s H E).nox [.bor, .sh] [.bor, .sh] [.bor, .sh] (defBody s_law_worth) p_law_worth := by
  exact (qb_cons (xs_setG (i := 1) (fun h => ps_set (i := 1) sc_law_worth.nd rfl (by first | exact Or.inl rfl | exact Or.inr rfl) h) (qe_calF c_law_take dfl_nil (hr.mono (j := 1) (by decide)) (by rfl) (qa_cons (qe_v 0 (pv 0)) (qa_cons qe_int qa_nil))))
  (qb_cons (qs_if (qt_lt  (qe_v 1 (pv 1)) qe_int) (qb_one (qs_ret (qe_sub (qe_calF c_law_take dfl_nil (hr.mono (j := 1) (by decide)) (by rfl) (qa_cons (qe_v 0 (pv 0)) (qa_cons qe_int qa_nil))) qe_int))) qb_nil)
  (qb_cons (qs_if (qt_eq (hr.units) (qe_v 1 (pv 1)) qe_int) (qb_one (qs_ret (qe_sub (qe_calF c_law_take dfl_nil (hr.mono (j := 1) (by decide)) (by rfl) (qa_cons (qe_v 0 (pv 0)) (qa_cons (qe_add (qe_mul qe_int (qe_pow qe_int qe_int)) qe_int) qa_nil))) (qe_pow qe_int qe_int)))) qb_nil)
  (qb_one (qs_ret (qe_ix (qe_lst (qa_cons (qe_pow qe_int qe_int) (qa_cons (qe_neg (qe_pow qe_int qe_int)) (qa_cons qe_int (qa_cons qe_int qa_nil))))) (qe_calF c_law_take dfl_nil (hr.mono (j := 1) (by decide)) (by rfl) (qa_cons (qe_v 0 (pv 0)) (qa_cons qe_int qa_nil)))))))))
theorem ok_law_worth (T : Tx K mg) (c_law_take : Cal P w K mg base "_law_take" 1 ["_law_bag_here", "_law_many"] (spF 2 w_law_take K) []) {f : Addr} {fd : FuncData} (F : FunD K "_law_worth" "_law_worth" (defArgs s_law_worth) (defBody s_law_worth) (defScope s_law_worth) [] [] f fd) : FnOk P w K mg base CX0 2 f fd ["_law_bag_here"] (spF 1 w_law_worth K) := by
  refine F.ok sc_law_worth (fun vs H Q E h => len_F h) (fun cdv A outer s H vs Q E hr h => ?_)
  have hq := q_law_worth (P := P) (w := w) (base := base) (E := E) (H := H) (outer := outer) T c_law_take hr
  rw [e_law_worth, xF_eq] at h
  obtain ⟨t, h1, h2⟩ := body_F (N := ["_law_bag_here", "_law_way"]) (n := 1) hq rfl (by decide) h
  exact ⟨t, PSs.nox h1, h2⟩
abbrev s_law_worths : Stmt := topS 43
theorem sc_law_worths : FnScope ["_law_bag_here", "_law_many", "_law_at", "_law_to"] ["_law_bag_here", "_law_many"] (defScope s_law_worths) := ⟨rfl, rfl, rfl, by decide +kernel, rfl, by decide +kernel, by decide +kernel⟩
theorem q_law_worths (T : Tx K mg) (c_law_worth : Cal P w K mg base "_law_worth" 2 ["_law_bag_here"] (spF 1 w_law_worth K) []) {f : Addr} {cdv : Value} {A : Around} {outer : List Env} {s : Shared} {H : Hp} {E : XK} (hr : Room 2 (A.deeper (PyProof.Rows.envOfC "_law_worths" (defScope s_law_worths) s.heap.objs.size f cdv))) : QB (cxOf CX0 P w K mg base ["_law_bag_here", "_law_many", "_law_at", "_law_to"] "_law_worths" (defScope s_law_worths) f cdv A outer s H E).nox [.bor, .bor, .sh, .sh] [.bor, .bor, .sh, .sh] [.bor, .bor, .sh, .sh] (defBody s_law_worths) p_law_worths := by
  exact (qb_one (qs_ret (yq_lc (xe_lc (own := [("_law_at", 2)]) (fun hi hg ht he => pe_lc (own := [("_law_at", 2)]) (by rfl) sc_law_worths.nd hi (blkOk_by (own := [("_law_at", 2)]) (by kernel_rfl)) hg ht he) (qi_rng (by rfl) T.f_range (qe_v 1 (pv 1))) (fun _ _ _ _ _ => (xq_name (i := 2) (pg_name (i := 2) sc_law_worths.nd rfl (by first | exact Or.inl rfl | exact Or.inr rfl)))) (fun _ _ _ _ _ => by exact qts_nil) (fun _ _ _ _ _ => by exact (yq_lc (xe_lc (own := [("_law_to", 3)]) (fun hi hg ht he => pe_lc (own := [("_law_to", 3)]) (by rfl) sc_law_worths.nd hi (blkOk_by (own := [("_law_to", 3)]) (by kernel_rfl)) hg ht he) (qi_rng (by rfl) T.f_range (qe_v 1 (pv 1))) (fun _ _ _ _ _ => (xq_name (i := 3) (pg_name (i := 3) sc_law_worths.nd rfl (by first | exact Or.inl rfl | exact Or.inr rfl)))) (fun _ _ _ _ _ => by exact qts_nil) (fun _ _ _ _ _ => by exact (qe_calF c_law_worth dfl_nil (hr.mono (j := 2) (by decide)) (by rfl) (qa_cons (qe_v 0 (pv 0)) qa_nil))))))))))
theorem ok_law_worths (T : Tx K mg) (c_law_worth : Cal P w K mg base "_law_worth" 2 ["_law_bag_here"] (spF 1 w_law_worth K) []) {f : Addr} {fd : FuncData} (F : FunD K "_law_worths" "_law_worths" (defArgs s_law_worths) (defBody s_law_worths) (defScope s_law_worths) [] [] f fd) : FnOk P w K mg base CX0 3 f fd ["_law_bag_here", "_law_many"] (spF 2 w_law_worths K) := by
  refine F.ok sc_law_worths (fun vs H Q E h => len_F h) (fun cdv A outer s H vs Q E hr h => ?_)
  have hq := q_law_worths (P := P) (w := w) (base := base) (E := E) (H := H) (outer := outer) T c_law_worth hr
  rw [e_law_worths, xF_eq] at h
  obtain ⟨t, h1, h2⟩ := body_F (N := ["_law_bag_here", "_law_many", "_law_at", "_law_to"]) (n := 2) hq rfl (by decide) h
  exact ⟨t, PSs.nox h1, h2⟩
abbrev s_law_price : Stmt := topS 42
theorem sc_law_price : FnScope ["_law_bag_here", "_law_way"] ["_law_bag_here"] (defScope s_law_price) := ⟨rfl, rfl, rfl, by decide +kernel, rfl, by decide +kernel, by decide +kernel⟩
theorem q_law_price (T : Tx K mg) (c_law_take : Cal P w K mg base "_law_take" 1 ["_law_bag_here", "_law_many"] (spF 2 w_law_take K) []) {f : Addr} {cdv : Value} {A : Around} {outer : List Env} {s : Shared} {H : Hp} {E : XK} (hr : Room 1 (A.deeper (PyProof.Rows.envOfC "_law_price" (defScope s_law_price) s.heap.objs.size f cdv))) : QB (cxOf CX0 P w K mg base ["_law_bag_here", "_law_way"] "_law_price" (defScope s_law_price) f cdv A outer s H E).nox [.bor, .sh] [.bor, .sh] [.bor, .sh] (defBody s_law_price) p_law_price := by
  exact (qb_cons (xs_setG (i := 1) (fun h => ps_set (i := 1) sc_law_price.nd rfl (by first | exact Or.inl rfl | exact Or.inr rfl) h) (qe_calF c_law_take dfl_nil (hr.mono (j := 1) (by decide)) (by rfl) (qa_cons (qe_v 0 (pv 0)) (qa_cons qe_int qa_nil))))
  (qb_cons (qs_if (qt_lt  (qe_v 1 (pv 1)) qe_int) (qb_one (qs_ret (qe_calF c_law_take dfl_nil (hr.mono (j := 1) (by decide)) (by rfl) (qa_cons (qe_v 0 (pv 0)) (qa_cons qe_int qa_nil))))) qb_nil)
  (qb_one (qs_ret (qe_ix (qe_lst (qa_cons qe_int (qa_cons (qe_pow qe_int qe_int) (qa_cons (qe_calF c_law_take dfl_nil (hr.mono (j := 1) (by decide)) (by rfl) (qa_cons (qe_v 0 (pv 0)) (qa_cons (qe_add (qe_pow qe_int qe_int) qe_int) qa_nil))) qa_nil)))) (qe_calF c_law_take dfl_nil (hr.mono (j := 1) (by decide)) (by rfl) (qa_cons (qe_v 0 (pv 0)) (qa_cons qe_int qa_nil))))))))
theorem ok_law_price (T : Tx K mg) (c_law_take : Cal P w K mg base "_law_take" 1 ["_law_bag_here", "_law_many"] (spF 2 w_law_take K) []) {f : Addr} {fd : FuncData} (F : FunD K "_law_price" "_law_price" (defArgs s_law_price) (defBody s_law_price) (defScope s_law_price) [] [] f fd) : FnOk P w K mg base CX0 2 f fd ["_law_bag_here"] (spF 1 w_law_price K) := by
  refine F.ok sc_law_price (fun vs H Q E h => len_F h) (fun cdv A outer s H vs Q E hr h => ?_)
  have hq := q_law_price (P := P) (w := w) (base := base) (E := E) (H := H) (outer := outer) T c_law_take hr
  rw [e_law_price, xF_eq] at h
  obtain ⟨t, h1, h2⟩ := body_F (N := ["_law_bag_here", "_law_way"]) (n := 1) hq rfl (by decide) h
  exact ⟨t, PSs.nox h1, h2⟩
abbrev s_is_text_of : Stmt := topS 15
theorem sc_is_text_of : FnScope ["thing", "signs", "least", "most", "sign"] ["thing", "signs", "least", "most"] (defScope s_is_text_of) := ⟨rfl, rfl, rfl, by decide +kernel, rfl, by decide +kernel, by decide +kernel⟩
theorem q_is_text_of (T : Tx K mg)  {f : Addr} {cdv : Value} {A : Around} {outer : List Env} {s : Shared} {H : Hp} {E : XK} (hr : Room 0 (A.deeper (PyProof.Rows.envOfC "is_text_of" (defScope s_is_text_of) s.heap.objs.size f cdv))) : QB (cxOf CX0 P w K mg base ["thing", "signs", "least", "most", "sign"] "is_text_of" (defScope s_is_text_of) f cdv A outer s H E).nox [.bor, .bor, .bor, .bor, .sh] [.bor, .bor, .bor, .bor, .sh] [.bor, .bor, .bor, .bor, .sh] (defBody s_is_text_of) p_is_text_of := by
  exact (qb_cons (qs_if (qt_w (qw_or (qt_not (qt_tru (qe_cbS isB_ok call_isB T.f_isinstance (by rfl) (by decide +kernel) (qa_cons (qe_v 0 (pv 0)) (qa_cons (qe_ty .str T.f_str (by rfl) (by decide +kernel)) qa_nil))))) (qw_or1 (qt_not (qt_chain op_leA op_leA le_ok le_ok (qe_v 2 (pv 2)) (qe_cbS len_ok call_lenA T.f_len (by rfl) (by decide +kernel) (qa_cons (qe_v 0 (pv 0)) qa_nil)) (qe_v 3 (pv 3))))))) (qb_one (qs_ret qe_bl)) qb_nil)
  (qb_one (qs_ret (qe_cbS all_ok (cr_all (by rfl)) T.f_all (by rfl) (by decide +kernel) (qa_cons (xe_lc (own := [("sign", 4)]) (fun hi hg ht he => pe_lc (own := [("sign", 4)]) (by rfl) sc_is_text_of.nd hi (blkOk_by (own := [("sign", 4)]) (by kernel_rfl)) hg ht he) (qi_str (qe_v 0 (pv 0))) (fun _ _ _ _ _ => (xq_name (i := 4) (pg_name (i := 4) sc_is_text_of.nd rfl (by first | exact Or.inl rfl | exact Or.inr rfl)))) (fun _ _ _ _ _ => by exact qts_nil) (fun _ _ _ _ _ => by exact (qe_in  (qe_v 4 (pv 4)) (qe_v 1 (pv 1))))) qa_nil)))))
theorem ok_is_text_of (T : Tx K mg)  {f : Addr} {fd : FuncData} (F : FunD K "is_text_of" "is_text_of" (defArgs s_is_text_of) (defBody s_is_text_of) (defScope s_is_text_of) [] [] f fd) : FnOk P w K mg base CX0 1 f fd ["thing", "signs", "least", "most"] (spF 4 w_is_text_of K) := by
  refine F.ok sc_is_text_of (fun vs H Q E h => len_F h) (fun cdv A outer s H vs Q E hr h => ?_)
  have hq := q_is_text_of (P := P) (w := w) (base := base) (E := E) (H := H) (outer := outer) T  hr
  rw [e_is_text_of, xF_eq] at h
  obtain ⟨t, h1, h2⟩ := body_F (N := ["thing", "signs", "least", "most", "sign"]) (n := 4) hq rfl (by decide) h
  exact ⟨t, PSs.nox h1, h2⟩
abbrev s_are_letters : Stmt := topS 26
theorem sc_are_letters : FnScope ["thing", "sign"] ["thing"] (defScope s_are_letters) := ⟨rfl, rfl, rfl, by decide +kernel, rfl, by decide +kernel, by decide +kernel⟩
theorem q_are_letters (T : Tx K mg) (c_is_text_of : Cal P w K mg base "is_text_of" 1 ["thing", "signs", "least", "most"] (spF 4 w_is_text_of K) []) {f : Addr} {cdv : Value} {A : Around} {outer : List Env} {s : Shared} {H : Hp} {E : XK} (hr : Room 1 (A.deeper (PyProof.Rows.envOfC "are_letters" (defScope s_are_letters) s.heap.objs.size f cdv))) : QB (cxOf CX0 P w K mg base ["thing", "sign"] "are_letters" (defScope s_are_letters) f cdv A outer s H E).nox [.bor, .sh] [.bor, .sh] [.bor, .sh] (defBody s_are_letters) p_are_letters := by
  exact (qb_one (qs_ret (qe_andV (qe_calF c_is_text_of dfl_nil (hr.mono (j := 1) (by decide)) (by rfl) (qa_cons (qe_v 0 (pv 0)) (qa_cons (qe_g T.g_LETTERS (by rfl)) (qa_cons qe_int (qa_cons (qe_g T.g_MOST_LETTERS (by rfl)) qa_nil))))) (qe_one (qe_eq (hr.units) (qe_setLenC (own := [("sign", 1)]) 1 (by rfl) sc_are_letters.nd (blkOk_by (own := [("sign", 1)]) (by kernel_rfl)) (fun h => pe_callB cr_lenS (by rfl) T.f_len (by decide +kernel) (pa_cons h pa_nil)) (fun _ _ _ _ _ => (pg_name (i := 1) sc_are_letters.nd rfl (by first | exact Or.inl rfl | exact Or.inr rfl))) (fun _ _ _ _ _ => (pv 1)) (qe_v 0 (pv 0))) (qe_cbS len_ok call_lenA T.f_len (by rfl) (by decide +kernel) (qa_cons (qe_v 0 (pv 0)) qa_nil)))))))
theorem ok_are_letters (T : Tx K mg) (c_is_text_of : Cal P w K mg base "is_text_of" 1 ["thing", "signs", "least", "most"] (spF 4 w_is_text_of K) []) {f : Addr} {fd : FuncData} (F : FunD K "are_letters" "are_letters" (defArgs s_are_letters) (defBody s_are_letters) (defScope s_are_letters) [] [] f fd) : FnOk P w K mg base CX0 2 f fd ["thing"] (spF 1 w_are_letters K) := by
  refine F.ok sc_are_letters (fun vs H Q E h => len_F h) (fun cdv A outer s H vs Q E hr h => ?_)
  have hq := q_are_letters (P := P) (w := w) (base := base) (E := E) (H := H) (outer := outer) T c_is_text_of hr
  rw [e_are_letters, xF_eq] at h
  obtain ⟨t, h1, h2⟩ := body_F (N := ["thing", "sign"]) (n := 1) hq rfl (by decide) h
  exact ⟨t, PSs.nox h1, h2⟩
abbrev s_is_whole : Stmt := topS 13
theorem sc_is_whole : FnScope ["thing"] ["thing"] (defScope s_is_whole) := ⟨rfl, rfl, rfl, by decide +kernel, rfl, by decide +kernel, by decide +kernel⟩
theorem q_is_whole (T : Tx K mg)  {f : Addr} {cdv : Value} {A : Around} {outer : List Env} {s : Shared} {H : Hp} {E : XK} (hr : Room 0 (A.deeper (PyProof.Rows.envOfC "is_whole" (defScope s_is_whole) s.heap.objs.size f cdv))) : QB (cxOf CX0 P w K mg base ["thing"] "is_whole" (defScope s_is_whole) f cdv A outer s H E).nox [.bor] [.bor] [.bor] (defBody s_is_whole) p_is_whole := by
  exact (qb_one (qs_ret (qe_andV (qe_cbS isB_ok call_isB T.f_isinstance (by rfl) (by decide +kernel) (qa_cons (qe_v 0 (pv 0)) (qa_cons (qe_ty .int T.f_int (by rfl) (by decide +kernel)) qa_nil))) (qe_one (qe_notV (qe_cbS isB_ok call_isB T.f_isinstance (by rfl) (by decide +kernel) (qa_cons (qe_v 0 (pv 0)) (qa_cons (qe_ty .bool T.f_bool (by rfl) (by decide +kernel)) qa_nil))))))))
theorem ok_is_whole (T : Tx K mg)  {f : Addr} {fd : FuncData} (F : FunD K "is_whole" "is_whole" (defArgs s_is_whole) (defBody s_is_whole) (defScope s_is_whole) [] [] f fd) : FnOk P w K mg base CX0 1 f fd ["thing"] (spF 1 w_is_whole K) := by
  refine F.ok sc_is_whole (fun vs H Q E h => len_F h) (fun cdv A outer s H vs Q E hr h => ?_)
  have hq := q_is_whole (P := P) (w := w) (base := base) (E := E) (H := H) (outer := outer) T  hr
  rw [e_is_whole, xF_eq] at h
  obtain ⟨t, h1, h2⟩ := body_F (N := ["thing"]) (n := 1) hq rfl (by decide) h
  exact ⟨t, PSs.nox h1, h2⟩
abbrev s_is_between : Stmt := topS 14
theorem sc_is_between : FnScope ["thing", "low", "high"] ["thing", "low", "high"] (defScope s_is_between) := ⟨rfl, rfl, rfl, by decide +kernel, rfl, by decide +kernel, by decide +kernel⟩
theorem q_is_between (T : Tx K mg) (c_is_whole : Cal P w K mg base "is_whole" 1 ["thing"] (spF 1 w_is_whole K) []) {f : Addr} {cdv : Value} {A : Around} {outer : List Env} {s : Shared} {H : Hp} {E : XK} (hr : Room 1 (A.deeper (PyProof.Rows.envOfC "is_between" (defScope s_is_between) s.heap.objs.size f cdv))) : QB (cxOf CX0 P w K mg base ["thing", "low", "high"] "is_between" (defScope s_is_between) f cdv A outer s H E).nox [.bor, .bor, .bor] [.bor, .bor, .bor] [.bor, .bor, .bor] (defBody s_is_between) p_is_between := by
  exact (qb_one (qs_ret (qe_andV (qe_calF c_is_whole dfl_nil (hr.mono (j := 1) (by decide)) (by rfl) (qa_cons (qe_v 0 (pv 0)) qa_nil)) (qe_one (qe_chain op_leA op_leA le_ok le_ok (qe_v 1 (pv 1)) (qe_v 0 (pv 0)) (qe_v 2 (pv 2)))))))
theorem ok_is_between (T : Tx K mg) (c_is_whole : Cal P w K mg base "is_whole" 1 ["thing"] (spF 1 w_is_whole K) []) {f : Addr} {fd : FuncData} (F : FunD K "is_between" "is_between" (defArgs s_is_between) (defBody s_is_between) (defScope s_is_between) [] [] f fd) : FnOk P w K mg base CX0 2 f fd ["thing", "low", "high"] (spF 3 w_is_between K) := by
  refine F.ok sc_is_between (fun vs H Q E h => len_F h) (fun cdv A outer s H vs Q E hr h => ?_)
  have hq := q_is_between (P := P) (w := w) (base := base) (E := E) (H := H) (outer := outer) T c_is_whole hr
  rw [e_is_between, xF_eq] at h
  obtain ⟨t, h1, h2⟩ := body_F (N := ["thing", "low", "high"]) (n := 3) hq rfl (by decide) h
  exact ⟨t, PSs.nox h1, h2⟩
abbrev s_is_worth : Stmt := topS 16
theorem sc_is_worth : FnScope ["thing"] ["thing"] (defScope s_is_worth) := ⟨rfl, rfl, rfl, by decide +kernel, rfl, by decide +kernel, by decide +kernel⟩
theorem q_is_worth (T : Tx K mg) (c_is_between : Cal P w K mg base "is_between" 2 ["thing", "low", "high"] (spF 3 w_is_between K) []) {f : Addr} {cdv : Value} {A : Around} {outer : List Env} {s : Shared} {H : Hp} {E : XK} (hr : Room 2 (A.deeper (PyProof.Rows.envOfC "is_worth" (defScope s_is_worth) s.heap.objs.size f cdv))) : QB (cxOf CX0 P w K mg base ["thing"] "is_worth" (defScope s_is_worth) f cdv A outer s H E).nox [.bor] [.bor] [.bor] (defBody s_is_worth) p_is_worth := by
  exact (qb_one (qs_ret (qe_calF c_is_between dfl_nil (hr.mono (j := 2) (by decide)) (by rfl) (qa_cons (qe_v 0 (pv 0)) (qa_cons (qe_neg (qe_g T.g_MOST_WORTH (by rfl))) (qa_cons (qe_g T.g_MOST_WORTH (by rfl)) qa_nil))))))
theorem ok_is_worth (T : Tx K mg) (c_is_between : Cal P w K mg base "is_between" 2 ["thing", "low", "high"] (spF 3 w_is_between K) []) {f : Addr} {fd : FuncData} (F : FunD K "is_worth" "is_worth" (defArgs s_is_worth) (defBody s_is_worth) (defScope s_is_worth) [] [] f fd) : FnOk P w K mg base CX0 3 f fd ["thing"] (spF 1 w_is_worth K) := by
  refine F.ok sc_is_worth (fun vs H Q E h => len_F h) (fun cdv A outer s H vs Q E hr h => ?_)
  have hq := q_is_worth (P := P) (w := w) (base := base) (E := E) (H := H) (outer := outer) T c_is_between hr
  rw [e_is_worth, xF_eq] at h
  obtain ⟨t, h1, h2⟩ := body_F (N := ["thing"]) (n := 1) hq rfl (by decide) h
  exact ⟨t, PSs.nox h1, h2⟩
abbrev s_are_worths : Stmt := topS 27
theorem sc_are_worths : FnScope ["thing", "many", "row", "one"] ["thing", "many"] (defScope s_are_worths) := ⟨rfl, rfl, rfl, by decide +kernel, rfl, by decide +kernel, by decide +kernel⟩
theorem q_are_worths (T : Tx K mg) (c_is_worth : Cal P w K mg base "is_worth" 3 ["thing"] (spF 1 w_is_worth K) []) {f : Addr} {cdv : Value} {A : Around} {outer : List Env} {s : Shared} {H : Hp} {E : XK} (hr : Room 3 (A.deeper (PyProof.Rows.envOfC "are_worths" (defScope s_are_worths) s.heap.objs.size f cdv))) : QB (cxOf CX0 P w K mg base ["thing", "many", "row", "one"] "are_worths" (defScope s_are_worths) f cdv A outer s H E).nox [.bor, .bor, .bor, .bor] [.bor, .bor, .bor, .bor] [.bor, .bor, .bor, .bor] (defBody s_are_worths) p_are_worths := by
  exact (qb_cons (qs_if (qt_w (qw_or (qt_not (qt_tru (qe_cbS isB_ok call_isB T.f_isinstance (by rfl) (by decide +kernel) (qa_cons (qe_v 0 (pv 0)) (qa_cons (qe_ty .list T.f_list (by rfl) (by decide +kernel)) qa_nil))))) (qw_or1 (qt_ne (hr.units) (qe_cbS len_ok call_lenA T.f_len (by rfl) (by decide +kernel) (qa_cons (qe_v 0 (pv 0)) qa_nil)) (qe_v 1 (pv 1)))))) (qb_one (qs_ret qe_bl)) qb_nil)
  (qb_cons (yq_for (qs_for (js := [2]) (fun h1 h2 h3 => ps_for PassesOwn.never rfl h1 h2 h3) (qi_lst (qe_v 0 (pv 0))) (xq_name (i := 2) (pg_name (i := 2) sc_are_worths.nd rfl (by first | exact Or.inl rfl | exact Or.inr rfl))) (qb_one (qs_if (qt_w (qw_or (qt_not (qt_tru (qe_cbS isB_ok call_isB T.f_isinstance (by rfl) (by decide +kernel) (qa_cons (qe_v 2 (pv 2)) (qa_cons (qe_ty .list T.f_list (by rfl) (by decide +kernel)) qa_nil))))) (qw_or (qt_ne (hr.units) (qe_cbS len_ok call_lenA T.f_len (by rfl) (by decide +kernel) (qa_cons (qe_v 2 (pv 2)) qa_nil)) (qe_v 1 (pv 1))) (qw_or1 (qt_not (qt_tru (qe_cbS all_ok (cr_all (by rfl)) T.f_all (by rfl) (by decide +kernel) (qa_cons (yq_lc (xe_lc (own := [("one", 3)]) (fun hi hg ht he => pe_lc (own := [("one", 3)]) (by rfl) sc_are_worths.nd hi (blkOk_by (own := [("one", 3)]) (by kernel_rfl)) hg ht he) (qi_lst (qe_v 2 (pv 2))) (fun _ _ _ _ _ => (xq_name (i := 3) (pg_name (i := 3) sc_are_worths.nd rfl (by first | exact Or.inl rfl | exact Or.inr rfl)))) (fun _ _ _ _ _ => by exact qts_nil) (fun _ _ _ _ _ => by exact (qe_calF c_is_worth dfl_nil (hr.mono (j := 3) (by decide)) (by rfl) (qa_cons (qe_v 3 (pv 3)) qa_nil))))) qa_nil)))))))) (qb_one (qs_ret qe_bl)) qb_nil))))
  (qb_one (qs_ret qe_bl))))
theorem ok_are_worths (T : Tx K mg) (c_is_worth : Cal P w K mg base "is_worth" 3 ["thing"] (spF 1 w_is_worth K) []) {f : Addr} {fd : FuncData} (F : FunD K "are_worths" "are_worths" (defArgs s_are_worths) (defBody s_are_worths) (defScope s_are_worths) [] [] f fd) : FnOk P w K mg base CX0 4 f fd ["thing", "many"] (spF 2 w_are_worths K) := by
  refine F.ok sc_are_worths (fun vs H Q E h => len_F h) (fun cdv A outer s H vs Q E hr h => ?_)
  have hq := q_are_worths (P := P) (w := w) (base := base) (E := E) (H := H) (outer := outer) T c_is_worth hr
  rw [e_are_worths, xF_eq] at h
  obtain ⟨t, h1, h2⟩ := body_F (N := ["thing", "many", "row", "one"]) (n := 2) hq rfl (by decide) h
  exact ⟨t, PSs.nox h1, h2⟩
abbrev s_is_price : Stmt := topS 17
theorem sc_is_price : FnScope ["thing"] ["thing"] (defScope s_is_price) := ⟨rfl, rfl, rfl, by decide +kernel, rfl, by decide +kernel, by decide +kernel⟩
theorem q_is_price (T : Tx K mg) (c_is_between : Cal P w K mg base "is_between" 2 ["thing", "low", "high"] (spF 3 w_is_between K) []) {f : Addr} {cdv : Value} {A : Around} {outer : List Env} {s : Shared} {H : Hp} {E : XK} (hr : Room 2 (A.deeper (PyProof.Rows.envOfC "is_price" (defScope s_is_price) s.heap.objs.size f cdv))) : QB (cxOf CX0 P w K mg base ["thing"] "is_price" (defScope s_is_price) f cdv A outer s H E).nox [.bor] [.bor] [.bor] (defBody s_is_price) p_is_price := by
  exact (qb_one (qs_ret (qe_calF c_is_between dfl_nil (hr.mono (j := 2) (by decide)) (by rfl) (qa_cons (qe_v 0 (pv 0)) (qa_cons qe_int (qa_cons (qe_g T.g_MOST_WORTH (by rfl)) qa_nil))))))
theorem ok_is_price (T : Tx K mg) (c_is_between : Cal P w K mg base "is_between" 2 ["thing", "low", "high"] (spF 3 w_is_between K) []) {f : Addr} {fd : FuncData} (F : FunD K "is_price" "is_price" (defArgs s_is_price) (defBody s_is_price) (defScope s_is_price) [] [] f fd) : FnOk P w K mg base CX0 3 f fd ["thing"] (spF 1 w_is_price K) := by
  refine F.ok sc_is_price (fun vs H Q E h => len_F h) (fun cdv A outer s H vs Q E hr h => ?_)
  have hq := q_is_price (P := P) (w := w) (base := base) (E := E) (H := H) (outer := outer) T c_is_between hr
  rw [e_is_price, xF_eq] at h
  obtain ⟨t, h1, h2⟩ := body_F (N := ["thing"]) (n := 1) hq rfl (by decide) h
  exact ⟨t, PSs.nox h1, h2⟩
abbrev s_Scale_init : Stmt := inClass (topS 28) 0
theorem sc_Scale_init : FnScope ["self", "letters", "worths", "opening", "each", "at", "price", "one", "to", "other"] ["self", "letters", "worths", "opening", "each"] (defScope s_Scale_init) := ⟨rfl, rfl, rfl, by decide +kernel, rfl, by decide +kernel, by decide +kernel⟩
theorem q_Scale_init (T : Tx K mg) (c_are_letters : Cal P w K mg base "are_letters" 2 ["thing"] (spF 1 w_are_letters K) []) (c_are_worths : Cal P w K mg base "are_worths" 4 ["thing", "many"] (spF 2 w_are_worths K) []) (c_is_price : Cal P w K mg base "is_price" 3 ["thing"] (spF 1 w_is_price K) []) {f : Addr} {cdv : Value} {A : Around} {outer : List Env} {s : Shared} {H : Hp} {E : XK} (hr : Room 4 (A.deeper (PyProof.Rows.envOfC "Scale.__init__" (defScope s_Scale_init) s.heap.objs.size f cdv))) : QB (cxOf CX0 P w K mg base ["self", "letters", "worths", "opening", "each", "at", "price", "one", "to", "other"] "Scale.__init__" (defScope s_Scale_init) f cdv A outer s H E).nox [.slf, .bor, .bor, .bor, .bor, .sh, .sh, .sh, .sh, .sh] [.slf, .bor, .bor, .bor, .bor, .sh, .sh, .sh, .sh, .sh] [.slf, .bor, .bor, .bor, .bor, .sh, .sh, .sh, .sh, .sh] (defBody s_Scale_init) p_Scale_init := by
  exact (qb_cons (qs_if (qt_not (qt_tru (qe_calF c_are_letters dfl_nil (hr.mono (j := 2) (by decide)) (by rfl) (qa_cons (qe_v 1 (pv 1)) qa_nil)))) (qb_one qs_never) qb_nil)
  (qb_cons (qs_if (qt_not (qt_tru (qe_calF c_are_worths dfl_nil (hr.mono (j := 4) (by decide)) (by rfl) (qa_cons (qe_v 2 (pv 2)) (qa_cons (qe_cbS len_ok call_lenA T.f_len (by rfl) (by decide +kernel) (qa_cons (qe_v 1 (pv 1)) qa_nil)) qa_nil))))) (qb_one qs_never) qb_nil)
  (qb_cons (yq_for (qs_for (js := [5, 6]) (fun h1 h2 h3 => ps_for PassesOwn.never rfl h1 h2 h3) (qi_lst (qe_lst (qa_cons (qe_imm (qe_tup (qa_cons qe_int (qa_cons (qe_v 3 (pv 3)) qa_nil)))) (qa_cons (qe_imm (qe_tup (qa_cons qe_int (qa_cons (qe_v 4 (pv 4)) qa_nil)))) qa_nil)))) (qg_tup (by rfl) (qgs_cons (xq_name (i := 5) (pg_name (i := 5) sc_Scale_init.nd rfl (by first | exact Or.inl rfl | exact Or.inr rfl))) (qgs_cons (xq_name (i := 6) (pg_name (i := 6) sc_Scale_init.nd rfl (by first | exact Or.inl rfl | exact Or.inr rfl))) qgs_nil)) (ml_cons xmg_name (ml_cons xmg_name ml_nil))) (qb_one (qs_if (qt_not (qt_tru (qe_calF c_is_price dfl_nil (hr.mono (j := 3) (by decide)) (by rfl) (qa_cons (qe_v 6 (pv 6)) qa_nil)))) (qb_one qs_never) qb_nil))))
  (qb_cons (xs_fld 0 0 T.c_Scale T.a_Scale_kept_letters (fun h => ps_fld (pv 0) h rfl) (qe_imm (qe_v 1 (pv 1))))
  (qb_cons (xs_fld 0 1 T.c_Scale T.a_Scale_by_two (fun h => ps_fld (pv 0) h rfl) (qe_new (qn_dc2 (own1 := [8, 9]) (vs1 := [8, 9, 0]) (own := [("at", 5), ("one", 7), ("to", 8), ("other", 9)]) (vs := [5, 7, 8, 9, 0]) (by rfl) sc_Scale_init.nd (hu1 hr.units) (blkOk_by (own := [("at", 5), ("one", 7), ("to", 8), ("other", 9)]) (by kernel_rfl)) (qi_enumS (by rfl) T.f_enumerate (qe_v 1 (pv 1))) (fun _ _ _ _ _ => by exact (qg_tup (by rfl) (qgs_cons (xq_name (i := 5) (pg_name (i := 5) sc_Scale_init.nd rfl (by first | exact Or.inl rfl | exact Or.inr rfl))) (qgs_cons (xq_name (i := 7) (pg_name (i := 7) sc_Scale_init.nd rfl (by first | exact Or.inl rfl | exact Or.inr rfl))) qgs_nil)) (ml_cons xmg_name (ml_cons xmg_name ml_nil)))) (fun _ _ _ _ _ => by exact qts_nil) (fun _ _ _ _ _ => by exact (qi_enumS (by rfl) T.f_enumerate (qe_v 1 (pv 1)))) (fun _ _ _ _ _ => by exact (qg_tup (by rfl) (qgs_cons (xq_name (i := 8) (pg_name (i := 8) sc_Scale_init.nd rfl (by first | exact Or.inl rfl | exact Or.inr rfl))) (qgs_cons (xq_name (i := 9) (pg_name (i := 9) sc_Scale_init.nd rfl (by first | exact Or.inl rfl | exact Or.inr rfl))) qgs_nil)) (ml_cons xmg_name (ml_cons xmg_name ml_nil)))) (fun _ _ _ _ _ => by exact qts_nil) (fun _ _ _ _ _ => by exact (qk_tup (qa_cons (qe_v 7 (pv 7)) (qa_cons (qe_v 9 (pv 9)) qa_nil)))) (fun _ _ _ _ _ => by exact (qe_imm (qe_ix (qe_ix (qe_v 2 (pv 2)) (qe_v 5 (pv 5))) (qe_v 8 (pv 8))))) (by decide) (hv_by rfl) (by decide) (hv_by rfl) (by decide))))
  (qb_one (xs_fld2 0 2 3 T.c_Scale T.a_Scale_kept_opening T.a_Scale_kept_each (fun h => ps_asg (pe_tup h) (pg_tup (by rfl) (pgs_cons (pg_fld (pv 0)) (pgs_cons (pg_fld (pv 0)) pgs_nil)))) (qa_cons (qe_imm (qe_v 3 (pv 3))) (qa_cons (qe_imm (qe_v 4 (pv 4))) qa_nil)))))))))
theorem ok_Scale_init (T : Tx K mg) (c_are_letters : Cal P w K mg base "are_letters" 2 ["thing"] (spF 1 w_are_letters K) []) (c_are_worths : Cal P w K mg base "are_worths" 4 ["thing", "many"] (spF 2 w_are_worths K) []) (c_is_price : Cal P w K mg base "is_price" 3 ["thing"] (spF 1 w_is_price K) []) {f : Addr} {fd : FuncData} (F : FunD K "__init__" "Scale.__init__" (defArgs s_Scale_init) (defBody s_Scale_init) (defScope s_Scale_init) [] [("opening", .int 3), ("each", .int 1)] f fd) : FnOk P w K mg base CX0 5 f fd ["self", "letters", "worths", "opening", "each"] (spIF 0 4 w_Scale_init K) := by
  refine F.ok sc_Scale_init (fun vs H Q E h => len_IF h) (fun cdv A outer s H vs Q E hr h => ?_)
  have hq := q_Scale_init (P := P) (w := w) (base := base) (E := E) (H := H) (outer := outer) T c_are_letters c_are_worths c_is_price hr
  rw [e_Scale_init, xI_eq] at h
  obtain ⟨t, h1, h2⟩ := body_IF (N := ["self", "letters", "worths", "opening", "each", "at", "price", "one", "to", "other"]) (n := 4) hq rfl rfl rfl (by decide) h
  exact ⟨t, PSs.nox h1, h2⟩
abbrev s_law_scale : Stmt := topS 44
theorem sc_law_scale : FnScope ["_law_bag_here", "_law_letters_here", "_law_worths_here", "_law_one", "_law_other"] ["_law_bag_here"] (defScope s_law_scale) := ⟨rfl, rfl, rfl, by decide +kernel, rfl, by decide +kernel, by decide +kernel⟩
theorem q_law_scale (T : Tx K mg) (c_law_letters : Cal P w K mg base "_law_letters" 2 ["_law_bag_here", "_law_most"] (spF 2 w_law_letters K) []) (c_law_worths : Cal P w K mg base "_law_worths" 3 ["_law_bag_here", "_law_many"] (spF 2 w_law_worths K) []) (c_law_take : Cal P w K mg base "_law_take" 1 ["_law_bag_here", "_law_many"] (spF 2 w_law_take K) []) (c_law_price : Cal P w K mg base "_law_price" 2 ["_law_bag_here"] (spF 1 w_law_price K) []) (cik_Scale : CalIK P w K mg base "Scale" 5 ["self", "letters", "worths", "opening", "each"] (spIF 0 4 w_Scale_init K) 2 ["opening", "each"] (fun vs zs => vs ++ zs)) {f : Addr} {cdv : Value} {A : Around} {outer : List Env} {s : Shared} {H : Hp} {E : XK} (hr : Room 6 (A.deeper (PyProof.Rows.envOfC "_law_scale" (defScope s_law_scale) s.heap.objs.size f cdv))) : QB (cxOf CX0 P w K mg base ["_law_bag_here", "_law_letters_here", "_law_worths_here", "_law_one", "_law_other"] "_law_scale" (defScope s_law_scale) f cdv A outer s H E).nox [.bor, .sh, .sh, .sh, .sh] [.bor, .sh, .sh, .sh, .sh] [.bor, .sh, .sh, .sh, .sh] (defBody s_law_scale) p_law_scale := by
  exact (qb_cons (xs_setG (i := 1) (fun h => ps_set (i := 1) sc_law_scale.nd rfl (by first | exact Or.inl rfl | exact Or.inr rfl) h) (qe_calF c_law_letters dfl_nil (hr.mono (j := 2) (by decide)) (by rfl) (qa_cons (qe_v 0 (pv 0)) (qa_cons qe_int qa_nil))))
  (qb_cons (xs_setG (i := 2) (fun h => ps_set (i := 2) sc_law_scale.nd rfl (by first | exact Or.inl rfl | exact Or.inr rfl) h) (qe_calF c_law_worths dfl_nil (hr.mono (j := 3) (by decide)) (by rfl) (qa_cons (qe_v 0 (pv 0)) (qa_cons (qe_cbS len_ok call_lenA T.f_len (by rfl) (by decide +kernel) (qa_cons (qe_v 1 (pv 1)) qa_nil)) qa_nil))))
  (jq (qb_cons (qs_if (qt_eq (hr.units) (qe_calF c_law_take dfl_nil (hr.mono (j := 1) (by decide)) (by rfl) (qa_cons (qe_v 0 (pv 0)) (qa_cons qe_int qa_nil))) qe_int) (qb_one (yq_setLc (xs_setLc (i := 2) (fun hi hg ht he => ps_setLc (i := 2) (own := [("_law_one", 3)]) (by rfl) sc_law_scale.nd rfl rfl (sw_true rfl rfl rfl (by kernel_rfl)) hi (blkOk_by (own := [("_law_one", 3)]) (by kernel_rfl)) hg ht he) (qi_str (qe_v 1 (pv 1))) (fun _ _ _ _ _ => (xq_name (i := 3) (pg_name (i := 3) sc_law_scale.nd rfl (by first | exact Or.inl rfl | exact Or.inr rfl)))) (fun _ _ _ _ _ => by exact qts_nil) (fun _ _ _ _ _ => by exact (yq_lc (xe_lc (own := [("_law_other", 4)]) (fun hi hg ht he => pe_lc (own := [("_law_other", 4)]) (by rfl) sc_law_scale.nd hi (blkOk_by (own := [("_law_other", 4)]) (by kernel_rfl)) hg ht he) (qi_str (qe_v 1 (pv 1))) (fun _ _ _ _ _ => (xq_name (i := 4) (pg_name (i := 4) sc_law_scale.nd rfl (by first | exact Or.inl rfl | exact Or.inr rfl)))) (fun _ _ _ _ _ => by exact qts_nil) (fun _ _ _ _ _ => by exact (qe_ix (qe_lst (qa_cons qe_int (qa_cons (qe_neg qe_int) qa_nil))) (qe_ctS int_ok call_int1A T.f_int (by rfl) (by decide +kernel) (qa_cons (qe_ne (hr.units) (qe_v 3 (pv 3)) (qe_v 4 (pv 4))) qa_nil)))))))))) qb_nil)
  (qb_one (qs_ret (qe_tup (qa_cons (qe_mkKIF (c := 0) cik_Scale (hr.mono (j := 6) (by decide)) (by rfl) (qa_cons (qe_v 1 (pv 1)) (qa_cons (qe_v 2 (pv 2)) qa_nil)) (qk_cons (qe_calF c_law_price dfl_nil (hr.mono (j := 2) (by decide)) (by rfl) (qa_cons (qe_v 0 (pv 0)) qa_nil)) (qk_cons (qe_calF c_law_price dfl_nil (hr.mono (j := 2) (by decide)) (by rfl) (qa_cons (qe_v 0 (pv 0)) qa_nil)) qk_nil))) (qa_cons (qe_v 1 (pv 1)) qa_nil)))))))))
theorem ok_law_scale (T : Tx K mg) (c_law_letters : Cal P w K mg base "_law_letters" 2 ["_law_bag_here", "_law_most"] (spF 2 w_law_letters K) []) (c_law_worths : Cal P w K mg base "_law_worths" 3 ["_law_bag_here", "_law_many"] (spF 2 w_law_worths K) []) (c_law_take : Cal P w K mg base "_law_take" 1 ["_law_bag_here", "_law_many"] (spF 2 w_law_take K) []) (c_law_price : Cal P w K mg base "_law_price" 2 ["_law_bag_here"] (spF 1 w_law_price K) []) (cik_Scale : CalIK P w K mg base "Scale" 5 ["self", "letters", "worths", "opening", "each"] (spIF 0 4 w_Scale_init K) 2 ["opening", "each"] (fun vs zs => vs ++ zs)) {f : Addr} {fd : FuncData} (F : FunD K "_law_scale" "_law_scale" (defArgs s_law_scale) (defBody s_law_scale) (defScope s_law_scale) [] [] f fd) : FnOk P w K mg base CX0 7 f fd ["_law_bag_here"] (spF 1 w_law_scale K) := by
  refine F.ok sc_law_scale (fun vs H Q E h => len_F h) (fun cdv A outer s H vs Q E hr h => ?_)
  have hq := q_law_scale (P := P) (w := w) (base := base) (E := E) (H := H) (outer := outer) T c_law_letters c_law_worths c_law_take c_law_price cik_Scale hr
  rw [e_law_scale, xF_eq] at h
  obtain ⟨t, h1, h2⟩ := body_F (N := ["_law_bag_here", "_law_letters_here", "_law_worths_here", "_law_one", "_law_other"]) (n := 1) hq rfl (by decide) h
  exact ⟨t, PSs.nox h1, h2⟩
abbrev s_law_row : Stmt := topS 45
theorem sc_law_row : FnScope ["_law_bag_here", "_law_letters_here", "_law_most", "_law_long", "_law_k"] ["_law_bag_here", "_law_letters_here", "_law_most"] (defScope s_law_row) := ⟨rfl, rfl, rfl, by decide +kernel, rfl, by decide +kernel, by decide +kernel⟩
theorem q_law_row (T : Tx K mg) (c_law_take : Cal P w K mg base "_law_take" 1 ["_law_bag_here", "_law_many"] (spF 2 w_law_take K) []) {f : Addr} {cdv : Value} {A : Around} {outer : List Env} {s : Shared} {H : Hp} {E : XK} (hr : Room 1 (A.deeper (PyProof.Rows.envOfC "_law_row" (defScope s_law_row) s.heap.objs.size f cdv))) : QB (cxOf CX0 P w K mg base ["_law_bag_here", "_law_letters_here", "_law_most", "_law_long", "_law_k"] "_law_row" (defScope s_law_row) f cdv A outer s H E).nox [.bor, .bor, .bor, .sh, .sh] [.bor, .bor, .bor, .sh, .sh] [.bor, .bor, .bor, .sh, .sh] (defBody s_law_row) p_law_row := by
  exact (qb_cons (xs_setG (i := 3) (fun h => ps_set (i := 3) sc_law_row.nd rfl (by first | exact Or.inl rfl | exact Or.inr rfl) h) (qe_cbS min2_ok (call_min2A (by rfl)) T.f_min (by rfl) (by decide +kernel) (qa_cons (qe_v 2 (pv 2)) (qa_cons (qe_ix (qe_lst (qa_cons qe_int (qa_cons qe_int (qa_cons (qe_imm (qe_v 2 (pv 2))) (qa_cons (qe_calF c_law_take dfl_nil (hr.mono (j := 1) (by decide)) (by rfl) (qa_cons (qe_v 0 (pv 0)) (qa_cons (qe_add (qe_v 2 (pv 2)) qe_int) qa_nil))) (qa_cons (qe_calF c_law_take dfl_nil (hr.mono (j := 1) (by decide)) (by rfl) (qa_cons (qe_v 0 (pv 0)) (qa_cons (qe_add (qe_v 2 (pv 2)) qe_int) qa_nil))) qa_nil)))))) (qe_calF c_law_take dfl_nil (hr.mono (j := 1) (by decide)) (by rfl) (qa_cons (qe_v 0 (pv 0)) (qa_cons qe_int qa_nil)))) qa_nil))))
  (qb_one (qs_ret (qe_join qe_str (yq_lc (xe_lc (own := [("_law_k", 4)]) (fun hi hg ht he => pe_lc (own := [("_law_k", 4)]) (by rfl) sc_law_row.nd hi (blkOk_by (own := [("_law_k", 4)]) (by kernel_rfl)) hg ht he) (qi_rng (by rfl) T.f_range (qe_v 3 (pv 3))) (fun _ _ _ _ _ => (xq_name (i := 4) (pg_name (i := 4) sc_law_row.nd rfl (by first | exact Or.inl rfl | exact Or.inr rfl)))) (fun _ _ _ _ _ => by exact qts_nil) (fun _ _ _ _ _ => by exact (qe_imm (qe_ix (qe_v 1 (pv 1)) (qe_calF c_law_take dfl_nil (hr.mono (j := 1) (by decide)) (by rfl) (qa_cons (qe_v 0 (pv 0)) (qa_cons (qe_cbS len_ok call_lenA T.f_len (by rfl) (by decide +kernel) (qa_cons (qe_v 1 (pv 1)) qa_nil)) qa_nil))))))))))))
theorem ok_law_row (T : Tx K mg) (c_law_take : Cal P w K mg base "_law_take" 1 ["_law_bag_here", "_law_many"] (spF 2 w_law_take K) []) {f : Addr} {fd : FuncData} (F : FunD K "_law_row" "_law_row" (defArgs s_law_row) (defBody s_law_row) (defScope s_law_row) [] [] f fd) : FnOk P w K mg base CX0 2 f fd ["_law_bag_here", "_law_letters_here", "_law_most"] (spF 3 w_law_row K) := by
  refine F.ok sc_law_row (fun vs H Q E h => len_F h) (fun cdv A outer s H vs Q E hr h => ?_)
  have hq := q_law_row (P := P) (w := w) (base := base) (E := E) (H := H) (outer := outer) T c_law_take hr
  rw [e_law_row, xF_eq] at h
  obtain ⟨t, h1, h2⟩ := body_F (N := ["_law_bag_here", "_law_letters_here", "_law_most", "_law_long", "_law_k"]) (n := 3) hq rfl (by decide) h
  exact ⟨t, PSs.nox h1, h2⟩
abbrev s_is_row : Stmt := topS 19
theorem sc_is_row : FnScope ["thing"] ["thing"] (defScope s_is_row) := ⟨rfl, rfl, rfl, by decide +kernel, rfl, by decide +kernel, by decide +kernel⟩
theorem q_is_row (T : Tx K mg) (c_is_text_of : Cal P w K mg base "is_text_of" 1 ["thing", "signs", "least", "most"] (spF 4 w_is_text_of K) []) {f : Addr} {cdv : Value} {A : Around} {outer : List Env} {s : Shared} {H : Hp} {E : XK} (hr : Room 1 (A.deeper (PyProof.Rows.envOfC "is_row" (defScope s_is_row) s.heap.objs.size f cdv))) : QB (cxOf CX0 P w K mg base ["thing"] "is_row" (defScope s_is_row) f cdv A outer s H E).nox [.bor] [.bor] [.bor] (defBody s_is_row) p_is_row := by
  exact (qb_one (qs_ret (qe_calF c_is_text_of dfl_nil (hr.mono (j := 1) (by decide)) (by rfl) (qa_cons (qe_v 0 (pv 0)) (qa_cons (qe_g T.g_LETTERS (by rfl)) (qa_cons qe_int (qa_cons (qe_g T.g_LONGEST_ROW (by rfl)) qa_nil)))))))
theorem ok_is_row (T : Tx K mg) (c_is_text_of : Cal P w K mg base "is_text_of" 1 ["thing", "signs", "least", "most"] (spF 4 w_is_text_of K) []) {f : Addr} {fd : FuncData} (F : FunD K "is_row" "is_row" (defArgs s_is_row) (defBody s_is_row) (defScope s_is_row) [] [] f fd) : FnOk P w K mg base CX0 2 f fd ["thing"] (spF 1 w_is_row K) := by
  refine F.ok sc_is_row (fun vs H Q E h => len_F h) (fun cdv A outer s H vs Q E hr h => ?_)
  have hq := q_is_row (P := P) (w := w) (base := base) (E := E) (H := H) (outer := outer) T c_is_text_of hr
  rw [e_is_row, xF_eq] at h
  obtain ⟨t, h1, h2⟩ := body_F (N := ["thing"]) (n := 1) hq rfl (by decide) h
  exact ⟨t, PSs.nox h1, h2⟩
abbrev s_Scale_letters : Stmt := inClass (topS 28) 1
theorem sc_Scale_letters : FnScope ["self"] ["self"] (defScope s_Scale_letters) := ⟨rfl, rfl, rfl, by decide +kernel, rfl, by decide +kernel, by decide +kernel⟩
theorem q_Scale_letters (T : Tx K mg)  {f : Addr} {cdv : Value} {A : Around} {outer : List Env} {s : Shared} {H : Hp} {E : XK} (hr : Room 0 (A.deeper (PyProof.Rows.envOfC "Scale.letters" (defScope s_Scale_letters) s.heap.objs.size f cdv))) : QB (cxOf CX0 P w K mg base ["self"] "Scale.letters" (defScope s_Scale_letters) f cdv A outer s H E).nox [.bor] [.bor] [.bor] (defBody s_Scale_letters) p_Scale_letters := by
  exact (qb_one (qs_ret (qe_imm (qe_fld 0 0 T.c_Scale T.a_Scale_kept_letters (qe_v 0 (pv 0))))))
theorem ok_Scale_letters (T : Tx K mg)  {f : Addr} {fd : FuncData} (F : FunD K "letters" "Scale.letters" (defArgs s_Scale_letters) (defBody s_Scale_letters) (defScope s_Scale_letters) [] [] f fd) : FnOk P w K mg base CX0 1 f fd ["self"] (spF 1 w_Scale_letters K) := by
  refine F.ok sc_Scale_letters (fun vs H Q E h => len_F h) (fun cdv A outer s H vs Q E hr h => ?_)
  have hq := q_Scale_letters (P := P) (w := w) (base := base) (E := E) (H := H) (outer := outer) T  hr
  rw [e_Scale_letters, xF_eq] at h
  obtain ⟨t, h1, h2⟩ := body_F (N := ["self"]) (n := 1) hq rfl (by decide) h
  exact ⟨t, PSs.nox h1, h2⟩
abbrev s_need_letters : Stmt := topS 31
theorem sc_need_letters : FnScope ["row", "scale", "letter"] ["row", "scale"] (defScope s_need_letters) := ⟨rfl, rfl, rfl, by decide +kernel, rfl, by decide +kernel, by decide +kernel⟩
theorem q_need_letters (T : Tx K mg) (m_Scale_letters : CalM P w K mg base "Scale" "letters" 1 ["self"] (spF 1 w_Scale_letters K) []) {f : Addr} {cdv : Value} {A : Around} {outer : List Env} {s : Shared} {H : Hp} {E : XK} (hr : Room 1 (A.deeper (PyProof.Rows.envOfC "need_letters" (defScope s_need_letters) s.heap.objs.size f cdv))) : QB (cxOf CX0 P w K mg base ["row", "scale", "letter"] "need_letters" (defScope s_need_letters) f cdv A outer s H E).nox [.bor, .bor, .sh] [.bor, .bor, .sh] [.bor, .bor, .sh] (defBody s_need_letters) p_need_letters := by
  exact (qb_one (yq_for (qs_for (js := [2]) (fun h1 h2 h3 => ps_for PassesOwn.never rfl h1 h2 h3) (qi_str (qe_v 0 (pv 0))) (xq_name (i := 2) (pg_name (i := 2) sc_need_letters.nd rfl (by first | exact Or.inl rfl | exact Or.inr rfl))) (qb_one (qs_if (qt_notIn  (qe_v 2 (pv 2)) (qe_mth0F (c := 0) m_Scale_letters dfl_nil (hr.mono (j := 1) (by decide)) (qe_v 1 (pv 1)))) (qb_one qs_never) qb_nil)))))
theorem ok_need_letters (T : Tx K mg) (m_Scale_letters : CalM P w K mg base "Scale" "letters" 1 ["self"] (spF 1 w_Scale_letters K) []) {f : Addr} {fd : FuncData} (F : FunD K "need_letters" "need_letters" (defArgs s_need_letters) (defBody s_need_letters) (defScope s_need_letters) [] [] f fd) : FnOk P w K mg base CX0 2 f fd ["row", "scale"] (spF 2 w_need_letters K) := by
  refine F.ok sc_need_letters (fun vs H Q E h => len_F h) (fun cdv A outer s H vs Q E hr h => ?_)
  have hq := q_need_letters (P := P) (w := w) (base := base) (E := E) (H := H) (outer := outer) T m_Scale_letters hr
  rw [e_need_letters, xF_eq] at h
  obtain ⟨t, h1, h2⟩ := body_F (N := ["row", "scale", "letter"]) (n := 2) hq rfl (by decide) h
  exact ⟨t, PSs.nox h1, h2⟩
abbrev s_Sheet_init : Stmt := inClass (topS 36) 0
theorem sc_Sheet_init : FnScope ["self", "over", "under", "scale", "place", "row"] ["self", "over", "under", "scale"] (defScope s_Sheet_init) := ⟨rfl, rfl, rfl, by decide +kernel, rfl, by decide +kernel, by decide +kernel⟩
theorem q_Sheet_init (T : Tx K mg) (c_is_row : Cal P w K mg base "is_row" 2 ["thing"] (spF 1 w_is_row K) []) (c_need_letters : Cal P w K mg base "need_letters" 2 ["row", "scale"] (spF 2 w_need_letters K) []) {f : Addr} {cdv : Value} {A : Around} {outer : List Env} {s : Shared} {H : Hp} {E : XK} (hr : Room 2 (A.deeper (PyProof.Rows.envOfC "Sheet.__init__" (defScope s_Sheet_init) s.heap.objs.size f cdv))) : QB (cxOf CX0 P w K mg base ["self", "over", "under", "scale", "place", "row"] "Sheet.__init__" (defScope s_Sheet_init) f cdv A outer s H E).nox [.obj .me [3], .sh, .sh, .sh, .sh, .sh] [.obj .me [3], .sh, .sh, .sh, .sh, .sh] [.obj .me [3], .sh, .sh, .sh, .sh, .sh] (defBody s_Sheet_init) p_Sheet_init := by
  exact (qb_cons (yq_for (qs_for (js := [4, 5]) (fun h1 h2 h3 => ps_for PassesOwn.never rfl h1 h2 h3) (qi_tup (qe_tup (qa_cons (qe_tup (qa_cons qe_int (qa_cons (qe_v 1 (pv 1)) qa_nil))) (qa_cons (qe_tup (qa_cons qe_int (qa_cons (qe_v 2 (pv 2)) qa_nil))) qa_nil)))) (qg_tup (by rfl) (qgs_cons (xq_name (i := 4) (pg_name (i := 4) sc_Sheet_init.nd rfl (by first | exact Or.inl rfl | exact Or.inr rfl))) (qgs_cons (xq_name (i := 5) (pg_name (i := 5) sc_Sheet_init.nd rfl (by first | exact Or.inl rfl | exact Or.inr rfl))) qgs_nil)) (ml_cons xmg_name (ml_cons xmg_name ml_nil))) (qb_one (qs_if (qt_not (qt_tru (qe_calF c_is_row dfl_nil (hr.mono (j := 2) (by decide)) (by rfl) (qa_cons (qe_v 5 (pv 5)) qa_nil)))) (qb_one qs_never) qb_nil))))
  (qb_cons (qs_if (qt_not (qt_tru (qe_cbS (isC_ok 0) (call_isCA T.k_Scale) T.f_isinstance (by rfl) (by decide +kernel) (qa_cons (qe_v 3 (pv 3)) (qa_cons (qe_cls T.r_Scale (by rfl)) qa_nil))))) (qb_one qs_never) qb_nil)
  (qb_cons (qs_expr (qe_calF c_need_letters dfl_nil (hr.mono (j := 2) (by decide)) (by rfl) (qa_cons (qe_v 1 (pv 1)) (qa_cons (qe_v 3 (pv 3)) qa_nil))))
  (qb_cons (qs_expr (qe_calF c_need_letters dfl_nil (hr.mono (j := 2) (by decide)) (by rfl) (qa_cons (qe_v 2 (pv 2)) (qa_cons (qe_v 3 (pv 3)) qa_nil))))
  (qb_cons (xs_fld3 0 6 0 1 2 T.c_Sheet T.a_Sheet_over_row T.a_Sheet_under_row T.a_Sheet_ruled (fun h => ps_asg (pe_tup h) (pg_tup (by rfl) (pgs_cons (pg_fld (pv 0)) (pgs_cons (pg_fld (pv 0)) (pgs_cons (pg_fld (pv 0)) pgs_nil))))) (qa_cons (qe_v 1 (pv 1)) (qa_cons (qe_v 2 (pv 2)) (qa_cons (qe_v 3 (pv 3)) qa_nil))))
  (qb_cons (xs_fldON 0 6 3 T.c_Sheet T.a_Sheet_known (fun h => ps_fld (pv 0) h rfl) (qn_oneT (hu1 hr.units) (qk_tup (qa_cons qe_int (qa_cons qe_int qa_nil))) (qe_tup (qa_cons qe_int (qa_cons qe_int (qa_cons qe_int qa_nil))))))
  (qb_one (xs_fldO 0 6 4 T.c_Sheet T.a_Sheet_all_known (fun h => ps_fld (pv 0) h rfl) qe_bl))))))))
theorem ok_Sheet_init (T : Tx K mg) (c_is_row : Cal P w K mg base "is_row" 2 ["thing"] (spF 1 w_is_row K) []) (c_need_letters : Cal P w K mg base "need_letters" 2 ["row", "scale"] (spF 2 w_need_letters K) []) {f : Addr} {fd : FuncData} (F : FunD K "__init__" "Sheet.__init__" (defArgs s_Sheet_init) (defBody s_Sheet_init) (defScope s_Sheet_init) [] [] f fd) : FnOk P w K mg base CX0 3 f fd ["self", "over", "under", "scale"] (spIB 6 3 [3] w_Sheet_init K) := by
  refine F.ok sc_Sheet_init (fun vs H Q E h => len_IB h) (fun cdv A outer s H vs Q E hr h => ?_)
  have hq := q_Sheet_init (P := P) (w := w) (base := base) (E := E) (H := H) (outer := outer) T c_is_row c_need_letters hr
  rw [e_Sheet_init, xI_eq] at h
  obtain ⟨t, h1, h2⟩ := body_IB (N := ["self", "over", "under", "scale", "place", "row"]) (n := 3) hq rfl rfl rfl (by decide) h
  exact ⟨t, PSs.nox h1, h2⟩
abbrev s_is_place : Stmt := topS 30
theorem sc_is_place : FnScope ["thing"] ["thing"] (defScope s_is_place) := ⟨rfl, rfl, rfl, by decide +kernel, rfl, by decide +kernel, by decide +kernel⟩
theorem q_is_place (T : Tx K mg) (c_is_whole : Cal P w K mg base "is_whole" 1 ["thing"] (spF 1 w_is_whole K) []) {f : Addr} {cdv : Value} {A : Around} {outer : List Env} {s : Shared} {H : Hp} {E : XK} (hr : Room 1 (A.deeper (PyProof.Rows.envOfC "is_place" (defScope s_is_place) s.heap.objs.size f cdv))) : QB (cxOf CX0 P w K mg base ["thing"] "is_place" (defScope s_is_place) f cdv A outer s H E).nox [.bor] [.bor] [.bor] (defBody s_is_place) p_is_place := by
  exact (qb_one (qs_ret (qe_andV (qe_calF c_is_whole dfl_nil (hr.mono (j := 1) (by decide)) (by rfl) (qa_cons (qe_v 0 (pv 0)) qa_nil)) (qe_one (qe_ge  (qe_v 0 (pv 0)) qe_int)))))
theorem ok_is_place (T : Tx K mg) (c_is_whole : Cal P w K mg base "is_whole" 1 ["thing"] (spF 1 w_is_whole K) []) {f : Addr} {fd : FuncData} (F : FunD K "is_place" "is_place" (defArgs s_is_place) (defBody s_is_place) (defScope s_is_place) [] [] f fd) : FnOk P w K mg base CX0 2 f fd ["thing"] (spF 1 w_is_place K) := by
  refine F.ok sc_is_place (fun vs H Q E h => len_F h) (fun cdv A outer s H vs Q E hr h => ?_)
  have hq := q_is_place (P := P) (w := w) (base := base) (E := E) (H := H) (outer := outer) T c_is_whole hr
  rw [e_is_place, xF_eq] at h
  obtain ⟨t, h1, h2⟩ := body_F (N := ["thing"]) (n := 1) hq rfl (by decide) h
  exact ⟨t, PSs.nox h1, h2⟩
abbrev s_need_place : Stmt := topS 35
theorem sc_need_place : FnScope ["at", "thing"] ["at", "thing"] (defScope s_need_place) := ⟨rfl, rfl, rfl, by decide +kernel, rfl, by decide +kernel, by decide +kernel⟩
theorem q_need_place (T : Tx K mg) (c_is_place : Cal P w K mg base "is_place" 2 ["thing"] (spF 1 w_is_place K) []) {f : Addr} {cdv : Value} {A : Around} {outer : List Env} {s : Shared} {H : Hp} {E : XK} (hr : Room 2 (A.deeper (PyProof.Rows.envOfC "need_place" (defScope s_need_place) s.heap.objs.size f cdv))) : QB (cxOf CX0 P w K mg base ["at", "thing"] "need_place" (defScope s_need_place) f cdv A outer s H E).nox [.bor, .bor] [.bor, .bor] [.bor, .bor] (defBody s_need_place) p_need_place := by
  exact (qb_one (qs_if (qt_not (qt_tru (qe_calF c_is_place dfl_nil (hr.mono (j := 2) (by decide)) (by rfl) (qa_cons (qe_v 1 (pv 1)) qa_nil)))) (qb_one qs_never) qb_nil))
theorem ok_need_place (T : Tx K mg) (c_is_place : Cal P w K mg base "is_place" 2 ["thing"] (spF 1 w_is_place K) []) {f : Addr} {fd : FuncData} (F : FunD K "need_place" "need_place" (defArgs s_need_place) (defBody s_need_place) (defScope s_need_place) [] [] f fd) : FnOk P w K mg base CX0 3 f fd ["at", "thing"] (spF 2 w_need_place K) := by
  refine F.ok sc_need_place (fun vs H Q E h => len_F h) (fun cdv A outer s H vs Q E hr h => ?_)
  have hq := q_need_place (P := P) (w := w) (base := base) (E := E) (H := H) (outer := outer) T c_is_place hr
  rw [e_need_place, xF_eq] at h
  obtain ⟨t, h1, h2⟩ := body_F (N := ["at", "thing"]) (n := 2) hq rfl (by decide) h
  exact ⟨t, PSs.nox h1, h2⟩
abbrev s_is_step : Stmt := topS 20
theorem sc_is_step : FnScope ["thing"] ["thing"] (defScope s_is_step) := ⟨rfl, rfl, rfl, by decide +kernel, rfl, by decide +kernel, by decide +kernel⟩
theorem q_is_step (T : Tx K mg) (c_is_text_of : Cal P w K mg base "is_text_of" 1 ["thing", "signs", "least", "most"] (spF 4 w_is_text_of K) []) {f : Addr} {cdv : Value} {A : Around} {outer : List Env} {s : Shared} {H : Hp} {E : XK} (hr : Room 1 (A.deeper (PyProof.Rows.envOfC "is_step" (defScope s_is_step) s.heap.objs.size f cdv))) : QB (cxOf CX0 P w K mg base ["thing"] "is_step" (defScope s_is_step) f cdv A outer s H E).nox [.bor] [.bor] [.bor] (defBody s_is_step) p_is_step := by
  exact (qb_one (qs_ret (qe_calF c_is_text_of dfl_nil (hr.mono (j := 1) (by decide)) (by rfl) (qa_cons (qe_v 0 (pv 0)) (qa_cons (qe_g T.g_STEPS (by rfl)) (qa_cons qe_int (qa_cons qe_int qa_nil)))))))
theorem ok_is_step (T : Tx K mg) (c_is_text_of : Cal P w K mg base "is_text_of" 1 ["thing", "signs", "least", "most"] (spF 4 w_is_text_of K) []) {f : Addr} {fd : FuncData} (F : FunD K "is_step" "is_step" (defArgs s_is_step) (defBody s_is_step) (defScope s_is_step) [] [] f fd) : FnOk P w K mg base CX0 2 f fd ["thing"] (spF 1 w_is_step K) := by
  refine F.ok sc_is_step (fun vs H Q E h => len_F h) (fun cdv A outer s H vs Q E hr h => ?_)
  have hq := q_is_step (P := P) (w := w) (base := base) (E := E) (H := H) (outer := outer) T c_is_text_of hr
  rw [e_is_step, xF_eq] at h
  obtain ⟨t, h1, h2⟩ := body_F (N := ["thing"]) (n := 1) hq rfl (by decide) h
  exact ⟨t, PSs.nox h1, h2⟩
abbrev s_Scale_each : Stmt := inClass (topS 28) 5
theorem sc_Scale_each : FnScope ["self"] ["self"] (defScope s_Scale_each) := ⟨rfl, rfl, rfl, by decide +kernel, rfl, by decide +kernel, by decide +kernel⟩
theorem q_Scale_each (T : Tx K mg)  {f : Addr} {cdv : Value} {A : Around} {outer : List Env} {s : Shared} {H : Hp} {E : XK} (hr : Room 0 (A.deeper (PyProof.Rows.envOfC "Scale.each" (defScope s_Scale_each) s.heap.objs.size f cdv))) : QB (cxOf CX0 P w K mg base ["self"] "Scale.each" (defScope s_Scale_each) f cdv A outer s H E).nox [.bor] [.bor] [.bor] (defBody s_Scale_each) p_Scale_each := by
  exact (qb_one (qs_ret (qe_imm (qe_fld 0 3 T.c_Scale T.a_Scale_kept_each (qe_v 0 (pv 0))))))
theorem ok_Scale_each (T : Tx K mg)  {f : Addr} {fd : FuncData} (F : FunD K "each" "Scale.each" (defArgs s_Scale_each) (defBody s_Scale_each) (defScope s_Scale_each) [] [] f fd) : FnOk P w K mg base CX0 1 f fd ["self"] (spF 1 w_Scale_each K) := by
  refine F.ok sc_Scale_each (fun vs H Q E h => len_F h) (fun cdv A outer s H vs Q E hr h => ?_)
  have hq := q_Scale_each (P := P) (w := w) (base := base) (E := E) (H := H) (outer := outer) T  hr
  rw [e_Scale_each, xF_eq] at h
  obtain ⟨t, h1, h2⟩ := body_F (N := ["self"]) (n := 1) hq rfl (by decide) h
  exact ⟨t, PSs.nox h1, h2⟩
abbrev s_is_letter : Stmt := topS 18
theorem sc_is_letter : FnScope ["thing"] ["thing"] (defScope s_is_letter) := ⟨rfl, rfl, rfl, by decide +kernel, rfl, by decide +kernel, by decide +kernel⟩
theorem q_is_letter (T : Tx K mg) (c_is_text_of : Cal P w K mg base "is_text_of" 1 ["thing", "signs", "least", "most"] (spF 4 w_is_text_of K) []) {f : Addr} {cdv : Value} {A : Around} {outer : List Env} {s : Shared} {H : Hp} {E : XK} (hr : Room 1 (A.deeper (PyProof.Rows.envOfC "is_letter" (defScope s_is_letter) s.heap.objs.size f cdv))) : QB (cxOf CX0 P w K mg base ["thing"] "is_letter" (defScope s_is_letter) f cdv A outer s H E).nox [.bor] [.bor] [.bor] (defBody s_is_letter) p_is_letter := by
  exact (qb_one (qs_ret (qe_calF c_is_text_of dfl_nil (hr.mono (j := 1) (by decide)) (by rfl) (qa_cons (qe_v 0 (pv 0)) (qa_cons (qe_g T.g_LETTERS (by rfl)) (qa_cons qe_int (qa_cons qe_int qa_nil)))))))
theorem ok_is_letter (T : Tx K mg) (c_is_text_of : Cal P w K mg base "is_text_of" 1 ["thing", "signs", "least", "most"] (spF 4 w_is_text_of K) []) {f : Addr} {fd : FuncData} (F : FunD K "is_letter" "is_letter" (defArgs s_is_letter) (defBody s_is_letter) (defScope s_is_letter) [] [] f fd) : FnOk P w K mg base CX0 2 f fd ["thing"] (spF 1 w_is_letter K) := by
  refine F.ok sc_is_letter (fun vs H Q E h => len_F h) (fun cdv A outer s H vs Q E hr h => ?_)
  have hq := q_is_letter (P := P) (w := w) (base := base) (E := E) (H := H) (outer := outer) T c_is_text_of hr
  rw [e_is_letter, xF_eq] at h
  obtain ⟨t, h1, h2⟩ := body_F (N := ["thing"]) (n := 1) hq rfl (by decide) h
  exact ⟨t, PSs.nox h1, h2⟩
abbrev s_Scale_worth_of : Stmt := inClass (topS 28) 3
theorem sc_Scale_worth_of : FnScope ["self", "one", "other", "at", "letter"] ["self", "one", "other"] (defScope s_Scale_worth_of) := ⟨rfl, rfl, rfl, by decide +kernel, rfl, by decide +kernel, by decide +kernel⟩
theorem q_Scale_worth_of (T : Tx K mg) (c_is_letter : Cal P w K mg base "is_letter" 2 ["thing"] (spF 1 w_is_letter K) []) {f : Addr} {cdv : Value} {A : Around} {outer : List Env} {s : Shared} {H : Hp} {E : XK} (hr : Room 2 (A.deeper (PyProof.Rows.envOfC "Scale.worth_of" (defScope s_Scale_worth_of) s.heap.objs.size f cdv))) : QB (cxOf CX0 P w K mg base ["self", "one", "other", "at", "letter"] "Scale.worth_of" (defScope s_Scale_worth_of) f cdv A outer s H E).nox [.bor, .bor, .bor, .sh, .bor] [.bor, .bor, .bor, .sh, .bor] [.bor, .bor, .bor, .sh, .bor] (defBody s_Scale_worth_of) p_Scale_worth_of := by
  exact (qb_cons (yq_for (qs_for (js := [3, 4]) (fun h1 h2 h3 => ps_for PassesOwn.never rfl h1 h2 h3) (qi_lst (qe_lst (qa_cons (qe_imm (qe_tup (qa_cons qe_int (qa_cons (qe_v 1 (pv 1)) qa_nil)))) (qa_cons (qe_imm (qe_tup (qa_cons qe_int (qa_cons (qe_v 2 (pv 2)) qa_nil)))) qa_nil)))) (qg_tup (by rfl) (qgs_cons (xq_name (i := 3) (pg_name (i := 3) sc_Scale_worth_of.nd rfl (by first | exact Or.inl rfl | exact Or.inr rfl))) (qgs_cons (xq_name (i := 4) (pg_name (i := 4) sc_Scale_worth_of.nd rfl (by first | exact Or.inl rfl | exact Or.inr rfl))) qgs_nil)) (ml_cons xmg_name (ml_cons xmg_name ml_nil))) (qb_one (qs_if (qt_not (qt_tru (qe_calF c_is_letter dfl_nil (hr.mono (j := 2) (by decide)) (by rfl) (qa_cons (qe_v 4 (pv 4)) qa_nil)))) (qb_one qs_never) qb_nil))))
  (qb_cons (yq_for (qs_for (js := [4]) (fun h1 h2 h3 => ps_for PassesOwn.never rfl h1 h2 h3) (qi_tup (qe_tup (qa_cons (qe_v 1 (pv 1)) (qa_cons (qe_v 2 (pv 2)) qa_nil)))) (xq_name (i := 4) (pg_name (i := 4) sc_Scale_worth_of.nd rfl (by first | exact Or.inl rfl | exact Or.inr rfl))) (qb_one (qs_if (qt_notIn  (qe_v 4 (pv 4)) (qe_fld 0 0 T.c_Scale T.a_Scale_kept_letters (qe_v 0 (pv 0)))) (qb_one qs_never) qb_nil))))
  (qb_one (qs_ret (qe_imm (qe_dgetT (hu1 hr.units) (qe_fld 0 1 T.c_Scale T.a_Scale_by_two (qe_v 0 (pv 0))) (qa_cons (qe_v 1 (pv 1)) (qa_cons (qe_v 2 (pv 2)) qa_nil))))))))
theorem ok_Scale_worth_of (T : Tx K mg) (c_is_letter : Cal P w K mg base "is_letter" 2 ["thing"] (spF 1 w_is_letter K) []) {f : Addr} {fd : FuncData} (F : FunD K "worth_of" "Scale.worth_of" (defArgs s_Scale_worth_of) (defBody s_Scale_worth_of) (defScope s_Scale_worth_of) [] [] f fd) : FnOk P w K mg base CX0 3 f fd ["self", "one", "other"] (spF 3 w_Scale_worth_of K) := by
  refine F.ok sc_Scale_worth_of (fun vs H Q E h => len_F h) (fun cdv A outer s H vs Q E hr h => ?_)
  have hq := q_Scale_worth_of (P := P) (w := w) (base := base) (E := E) (H := H) (outer := outer) T c_is_letter hr
  rw [e_Scale_worth_of, xF_eq] at h
  obtain ⟨t, h1, h2⟩ := body_F (N := ["self", "one", "other", "at", "letter"]) (n := 3) hq rfl (by decide) h
  exact ⟨t, PSs.nox h1, h2⟩
abbrev s_Scale_opening : Stmt := inClass (topS 28) 4
theorem sc_Scale_opening : FnScope ["self"] ["self"] (defScope s_Scale_opening) := ⟨rfl, rfl, rfl, by decide +kernel, rfl, by decide +kernel, by decide +kernel⟩
theorem q_Scale_opening (T : Tx K mg)  {f : Addr} {cdv : Value} {A : Around} {outer : List Env} {s : Shared} {H : Hp} {E : XK} (hr : Room 0 (A.deeper (PyProof.Rows.envOfC "Scale.opening" (defScope s_Scale_opening) s.heap.objs.size f cdv))) : QB (cxOf CX0 P w K mg base ["self"] "Scale.opening" (defScope s_Scale_opening) f cdv A outer s H E).nox [.bor] [.bor] [.bor] (defBody s_Scale_opening) p_Scale_opening := by
  exact (qb_one (qs_ret (qe_imm (qe_fld 0 2 T.c_Scale T.a_Scale_kept_opening (qe_v 0 (pv 0))))))
theorem ok_Scale_opening (T : Tx K mg)  {f : Addr} {fd : FuncData} (F : FunD K "opening" "Scale.opening" (defArgs s_Scale_opening) (defBody s_Scale_opening) (defScope s_Scale_opening) [] [] f fd) : FnOk P w K mg base CX0 1 f fd ["self"] (spF 1 w_Scale_opening K) := by
  refine F.ok sc_Scale_opening (fun vs H Q E h => len_F h) (fun cdv A outer s H vs Q E hr h => ?_)
  have hq := q_Scale_opening (P := P) (w := w) (base := base) (E := E) (H := H) (outer := outer) T  hr
  rw [e_Scale_opening, xF_eq] at h
  obtain ⟨t, h1, h2⟩ := body_F (N := ["self"]) (n := 1) hq rfl (by decide) h
  exact ⟨t, PSs.nox h1, h2⟩
abbrev s_Sheet_numbers_left : Stmt := inClass (topS 36) 1
theorem sc_Sheet_numbers_left : FnScope ["self", "left_over", "left_under", "come", "alone", "found", "pair", "price"] ["self", "left_over", "left_under", "come"] (defScope s_Sheet_numbers_left) := ⟨rfl, rfl, rfl, by decide +kernel, rfl, by decide +kernel, by decide +kernel⟩
theorem q_Sheet_numbers_left (T : Tx K mg) (m_Scale_each : CalM P w K mg base "Scale" "each" 1 ["self"] (spF 1 w_Scale_each K) []) (m_Scale_worth_of : CalM P w K mg base "Scale" "worth_of" 3 ["self", "one", "other"] (spF 3 w_Scale_worth_of K) []) (m_Scale_opening : CalM P w K mg base "Scale" "opening" 1 ["self"] (spF 1 w_Scale_opening K) []) {f : Addr} {cdv : Value} {A : Around} {outer : List Env} {s : Shared} {H : Hp} {E : XK} (hr : Room 3 (A.deeper (PyProof.Rows.envOfC "Sheet.numbers_left" (defScope s_Sheet_numbers_left) s.heap.objs.size f cdv))) : QB (cxOf CX0 P w K mg base ["self", "left_over", "left_under", "come", "alone", "found", "pair", "price"] "Sheet.numbers_left" (defScope s_Sheet_numbers_left) f cdv A outer s H E).nox [.bor, .bor, .bor, .bor, .sh, .own, .sh, .sh] [.bor, .bor, .bor, .bor, .sh, .own, .sh, .sh] [.bor, .bor, .bor, .bor, .sh, .own, .sh, .sh] (defBody s_Sheet_numbers_left) p_Sheet_numbers_left := by
  exact (qb_cons (xs_setG (i := 4) (fun h => ps_set (i := 4) sc_Sheet_numbers_left.nd rfl (by first | exact Or.inl rfl | exact Or.inr rfl) h) (qe_mth0F (c := 0) m_Scale_each dfl_nil (hr.mono (j := 1) (by decide)) (qe_fld 6 2 T.c_Sheet T.a_Sheet_ruled (qe_v 0 (pv 0)))))
  (qb_cons (xs_setN (i := 5) (fun h => ps_set (i := 5) sc_Sheet_numbers_left.nd rfl (by first | exact Or.inl rfl | exact Or.inr rfl) h) (qn_lst qa_nil))
  (jq (qb_cons (qs_if (qt_w (qw_and (qt_gt  (qe_v 1 (pv 1)) qe_int) (qw_and1 (qt_gt  (qe_v 2 (pv 2)) qe_int)))) (qb_cons (xs_setG (i := 6) (fun h => ps_set (i := 6) sc_Sheet_numbers_left.nd rfl (by first | exact Or.inl rfl | exact Or.inr rfl) h) (qe_mthF (c := 0) m_Scale_worth_of dfl_nil (hr.mono (j := 3) (by decide)) (qe_fld 6 2 T.c_Sheet T.a_Sheet_ruled (qe_v 0 (pv 0))) (qa_cons (qe_ix (qe_fld 6 0 T.c_Sheet T.a_Sheet_over_row (qe_v 0 (pv 0))) (qe_neg (qe_v 1 (pv 1)))) (qa_cons (qe_ix (qe_fld 6 1 T.c_Sheet T.a_Sheet_under_row (qe_v 0 (pv 0))) (qe_neg (qe_v 2 (pv 2)))) qa_nil))))
  (qb_one (xs_app (i := 5) (fun h => ps_expr (pe_bm PySem.F.plainAttrs_list PySem.F.slot_list_append PySem.F.type_list_append mt_append (pv 5) (pa_cons h pa_nil))) (qe_imm (qe_tup (qa_cons qe_str (qa_cons (qe_add (qe_v 6 (pv 6)) (qe_ix (qe_dgetT (hu1 hr.units) (qe_fld 6 3 T.c_Sheet T.a_Sheet_known (qe_v 0 (pv 0))) (qa_cons (qe_sub (qe_v 1 (pv 1)) qe_int) (qa_cons (qe_sub (qe_v 2 (pv 2)) qe_int) qa_nil))) qe_int)) qa_nil))))))) qb_nil)
  (jq (qb_cons (qs_if (qt_gt  (qe_v 1 (pv 1)) qe_int) (qb_cons (xs_setG (i := 7) (fun h => ps_set (i := 7) sc_Sheet_numbers_left.nd rfl (by first | exact Or.inl rfl | exact Or.inr rfl) h) (qe_add (qe_v 4 (pv 4)) (qe_mul (qe_mth0F (c := 0) m_Scale_opening dfl_nil (hr.mono (j := 1) (by decide)) (qe_fld 6 2 T.c_Sheet T.a_Sheet_ruled (qe_v 0 (pv 0)))) (qe_ctS int_ok call_int1A T.f_int (by rfl) (by decide +kernel) (qa_cons (qe_ne (hr.units) (qe_v 3 (pv 3)) qe_str) qa_nil)))))
  (qb_one (xs_app (i := 5) (fun h => ps_expr (pe_bm PySem.F.plainAttrs_list PySem.F.slot_list_append PySem.F.type_list_append mt_append (pv 5) (pa_cons h pa_nil))) (qe_tup (qa_cons qe_str (qa_cons (qe_sub (qe_ix (qe_dgetT (hu1 hr.units) (qe_fld 6 3 T.c_Sheet T.a_Sheet_known (qe_v 0 (pv 0))) (qa_cons (qe_sub (qe_v 1 (pv 1)) qe_int) (qa_cons (qe_v 2 (pv 2)) qa_nil))) qe_int) (qe_v 7 (pv 7))) qa_nil)))))) qb_nil)
  (jq (qb_cons (qs_if (qt_gt  (qe_v 2 (pv 2)) qe_int) (qb_cons (xs_setG (i := 7) (fun h => ps_set (i := 7) sc_Sheet_numbers_left.nd rfl (by first | exact Or.inl rfl | exact Or.inr rfl) h) (qe_add (qe_v 4 (pv 4)) (qe_mul (qe_mth0F (c := 0) m_Scale_opening dfl_nil (hr.mono (j := 1) (by decide)) (qe_fld 6 2 T.c_Sheet T.a_Sheet_ruled (qe_v 0 (pv 0)))) (qe_ctS int_ok call_int1A T.f_int (by rfl) (by decide +kernel) (qa_cons (qe_ne (hr.units) (qe_v 3 (pv 3)) qe_str) qa_nil)))))
  (qb_one (xs_app (i := 5) (fun h => ps_expr (pe_bm PySem.F.plainAttrs_list PySem.F.slot_list_append PySem.F.type_list_append mt_append (pv 5) (pa_cons h pa_nil))) (qe_tup (qa_cons qe_str (qa_cons (qe_sub (qe_ix (qe_dgetT (hu1 hr.units) (qe_fld 6 3 T.c_Sheet T.a_Sheet_known (qe_v 0 (pv 0))) (qa_cons (qe_v 1 (pv 1)) (qa_cons (qe_sub (qe_v 2 (pv 2)) qe_int) qa_nil))) qe_int) (qe_v 7 (pv 7))) qa_nil)))))) qb_nil)
  (qb_one (qs_ret (qe_v 5 (pv 5))))))))))))
theorem ok_Sheet_numbers_left (T : Tx K mg) (m_Scale_each : CalM P w K mg base "Scale" "each" 1 ["self"] (spF 1 w_Scale_each K) []) (m_Scale_worth_of : CalM P w K mg base "Scale" "worth_of" 3 ["self", "one", "other"] (spF 3 w_Scale_worth_of K) []) (m_Scale_opening : CalM P w K mg base "Scale" "opening" 1 ["self"] (spF 1 w_Scale_opening K) []) {f : Addr} {fd : FuncData} (F : FunD K "numbers_left" "Sheet.numbers_left" (defArgs s_Sheet_numbers_left) (defBody s_Sheet_numbers_left) (defScope s_Sheet_numbers_left) [] [] f fd) : FnOk P w K mg base CX0 4 f fd ["self", "left_over", "left_under", "come"] (spF 4 w_Sheet_numbers_left K) := by
  refine F.ok sc_Sheet_numbers_left (fun vs H Q E h => len_F h) (fun cdv A outer s H vs Q E hr h => ?_)
  have hq := q_Sheet_numbers_left (P := P) (w := w) (base := base) (E := E) (H := H) (outer := outer) T m_Scale_each m_Scale_worth_of m_Scale_opening hr
  rw [e_Sheet_numbers_left, xF_eq] at h
  obtain ⟨t, h1, h2⟩ := body_F (N := ["self", "left_over", "left_under", "come", "alone", "found", "pair", "price"]) (n := 4) hq rfl (by decide) h
  exact ⟨t, PSs.nox h1, h2⟩
abbrev s_Sheet_learn : Stmt := inClass (topS 36) 2
theorem sc_Sheet_learn : FnScope ["self", "left_over", "left_under", "some", "most", "come", "one", "step", "number"] ["self"] (defScope s_Sheet_learn) := ⟨rfl, rfl, rfl, by decide +kernel, rfl, by decide +kernel, by decide +kernel⟩
theorem q_Sheet_learn (T : Tx K mg) (m_Sheet_numbers_left : CalM P w K mg base "Sheet" "numbers_left" 4 ["self", "left_over", "left_under", "come"] (spF 4 w_Sheet_numbers_left K) []) {a0 : Addr} {f : Addr} {cdv : Value} {A : Around} {outer : List Env} {s : Shared} {H : Hp} {E : XK} (hr : Room 4 (A.deeper (PyProof.Rows.envOfC "Sheet.learn" (defScope s_Sheet_learn) s.heap.objs.size f cdv))) : QBB (cxOf CX0 P w K mg base ["self", "left_over", "left_under", "some", "most", "come", "one", "step", "number"] "Sheet.learn" (defScope s_Sheet_learn) f cdv A outer s H E).nox [(0, .obj (.at_ a0) [3])] [.obj (.at_ a0) [3], .sh, .sh, .sh, .sh, .sh, .sh, .sh, .sh] [.obj (.at_ a0) [3], .sh, .sh, .sh, .sh, .sh, .sh, .sh, .sh] [.obj (.at_ a0) [3], .sh, .sh, .sh, .sh, .sh, .sh, .sh, .sh] (defBody s_Sheet_learn) p_Sheet_learn := by
  exact (qbb_cons (qbb_if (qt_tru (qe_fld 6 4 T.c_Sheet T.a_Sheet_all_known (qe_v 0 (pv 0)))) (qbb_one qbb_retN) qbb_nil)
  (qbb_cons (qbb_for (js := [1]) (fun h1 h2 h3 => ps_for PassesOwn.never rfl h1 h2 h3) (qi_rng (by rfl) T.f_range (qe_add (qe_cbS len_ok call_lenA T.f_len (by rfl) (by decide +kernel) (qa_cons (qe_fld 6 0 T.c_Sheet T.a_Sheet_over_row (qe_v 0 (pv 0))) qa_nil)) qe_int)) (xq_name (i := 1) (pg_name (i := 1) sc_Sheet_learn.nd rfl (by first | exact Or.inl rfl | exact Or.inr rfl))) (qbb_one (qbb_for (js := [2]) (fun h1 h2 h3 => ps_for PassesOwn.never rfl h1 h2 h3) (qi_rng (by rfl) T.f_range (qe_add (qe_cbS len_ok call_lenA T.f_len (by rfl) (by decide +kernel) (qa_cons (qe_fld 6 1 T.c_Sheet T.a_Sheet_under_row (qe_v 0 (pv 0))) qa_nil)) qe_int)) (xq_name (i := 2) (pg_name (i := 2) sc_Sheet_learn.nd rfl (by first | exact Or.inl rfl | exact Or.inr rfl))) (qbb_one (qbb_if (qt_notInK (hu1 hr.units) (qk_tup (qa_cons (qe_v 1 (pv 1)) (qa_cons (qe_v 2 (pv 2)) qa_nil))) (qe_fld 6 3 T.c_Sheet T.a_Sheet_known (qe_v 0 (pv 0)))) (qbb_cons (qbb_of (yq_setLc (xs_setLc (i := 3) (fun hi hg ht he => ps_setLc (i := 3) (own := [("come", 5)]) (by rfl) sc_Sheet_learn.nd rfl rfl (sw_true rfl rfl rfl (by kernel_rfl)) hi (blkOk_by (own := [("come", 5)]) (by kernel_rfl)) hg ht he) (qi_tup (qe_g T.g_COMES (by rfl))) (fun _ _ _ _ _ => (xq_name (i := 5) (pg_name (i := 5) sc_Sheet_learn.nd rfl (by first | exact Or.inl rfl | exact Or.inr rfl)))) (fun _ _ _ _ _ => by exact qts_nil) (fun _ _ _ _ _ => by exact (qe_mthF (c := 6) m_Sheet_numbers_left dfl_nil (hr.mono (j := 4) (by decide)) (qe_v 0 (pv 0)) (qa_cons (qe_v 1 (pv 1)) (qa_cons (qe_v 2 (pv 2)) (qa_cons (qe_v 5 (pv 5)) qa_nil))))))))
  (qbb_cons (qbb_of (yq_setLc (xs_setLc (i := 4) (fun hi hg ht he => ps_setLc (i := 4) (own := [("one", 6)]) (by rfl) sc_Sheet_learn.nd rfl rfl (sw_true rfl rfl rfl (by kernel_rfl)) hi (blkOk_by (own := [("one", 6)]) (by kernel_rfl)) hg ht he) (qi_lst (qe_v 3 (pv 3))) (fun _ _ _ _ _ => (xq_name (i := 6) (pg_name (i := 6) sc_Sheet_learn.nd rfl (by first | exact Or.inl rfl | exact Or.inr rfl)))) (fun _ _ _ _ _ => by exact qts_nil) (fun _ _ _ _ _ => by exact (qe_cbS max_ok (cr_max (by rfl)) T.f_max (by rfl) (by decide +kernel) (qa_cons (yq_lc (xe_lc (own := [("step", 7), ("number", 8)]) (fun hi hg ht he => pe_lc (own := [("step", 7), ("number", 8)]) (by rfl) sc_Sheet_learn.nd hi (blkOk_by (own := [("step", 7), ("number", 8)]) (by kernel_rfl)) hg ht he) (qi_lst (qe_v 6 (pv 6))) (fun _ _ _ _ _ => (qg_tup (by rfl) (qgs_cons (xq_name (i := 7) (pg_name (i := 7) sc_Sheet_learn.nd rfl (by first | exact Or.inl rfl | exact Or.inr rfl))) (qgs_cons (xq_name (i := 8) (pg_name (i := 8) sc_Sheet_learn.nd rfl (by first | exact Or.inl rfl | exact Or.inr rfl))) qgs_nil)) (ml_cons xmg_name (ml_cons xmg_name ml_nil)))) (fun _ _ _ _ _ => by exact qts_nil) (fun _ _ _ _ _ => by exact (qe_v 8 (pv 8))))) qa_nil))))))
  (qbb_one (qbb_of (xs_setDO 0 6 3 T.c_Sheet T.a_Sheet_known (fun h1 h2 => ps_asg h1 (pg_sub (pe_fld (pv 0) rfl) (pe_tup h2) (set_dict (hu1 hr.units)))) (qe_ctP tupOf_ok call_tuple_ofA T.f_tuple (by rfl) (by decide +kernel) (qa_cons (qe_v 4 (pv 4)) qa_nil)) (qa_cons (qe_v 1 (pv 1)) (qa_cons (qe_v 2 (pv 2)) qa_nil))))))) qbb_nil)))))
  (qbb_one (qbb_of (xs_fldO 0 6 4 T.c_Sheet T.a_Sheet_all_known (fun h => ps_fld (pv 0) h rfl) qe_bl)))))
theorem ok_Sheet_learn (T : Tx K mg) (m_Sheet_numbers_left : CalM P w K mg base "Sheet" "numbers_left" 4 ["self", "left_over", "left_under", "come"] (spF 4 w_Sheet_numbers_left K) []) {f : Addr} {fd : FuncData} (F : FunD K "learn" "Sheet.learn" (defArgs s_Sheet_learn) (defBody s_Sheet_learn) (defScope s_Sheet_learn) [] [] f fd) : FnOk P w K mg base CX0 5 f fd ["self"] (spB [some (Lk.obj [3])] w_Sheet_learn K) := by
  refine F.ok sc_Sheet_learn (fun vs H Q E h => len_B h) (fun cdv A outer s H vs Q E hr h => ?_)
  have hl := len_B h
  have hrf := refs_B h
  obtain ⟨u0, rfl⟩ : ∃ u0 : V, vs = [u0] := by
    match vs, hl with
    | [u0], _ => exact ⟨_, rfl⟩
  obtain ⟨a0, ea0⟩ := hrf 0 (Lk.obj [3]) rfl
  simp at ea0
  subst ea0
  have hq := q_Sheet_learn (P := P) (w := w) (base := base) (E := E) (H := H) (outer := outer) (a0 := a0) T m_Sheet_numbers_left hr
  rw [e_Sheet_learn, xB_eq] at h
  obtain ⟨t, h1, h2⟩ := body_B (N := ["self", "left_over", "left_under", "some", "most", "come", "one", "step", "number"]) (ts := [some (Lk.obj [3])]) (vs := [.ref a0]) hq rfl (by
    intro j t e
    rcases j with _ | j
    all_goals first | (exfalso; simp at e; done) | (exfalso; cases e; done) | exact ⟨_, rfl, by simp [Lk.at_], rfl⟩) h
  exact ⟨t, PSs.nox h1, h2⟩
abbrev s_Sheet_bound : Stmt := inClass (topS 36) 8
theorem sc_Sheet_bound : FnScope ["self", "at", "to", "step"] ["self", "at", "to", "step"] (defScope s_Sheet_bound) := ⟨rfl, rfl, rfl, by decide +kernel, rfl, by decide +kernel, by decide +kernel⟩
theorem q_Sheet_bound (T : Tx K mg) (c_need_place : Cal P w K mg base "need_place" 3 ["at", "thing"] (spF 2 w_need_place K) []) (c_is_step : Cal P w K mg base "is_step" 2 ["thing"] (spF 1 w_is_step K) []) (m_Sheet_learn : CalM P w K mg base "Sheet" "learn" 5 ["self"] (spB [some (Lk.obj [3])] w_Sheet_learn K) []) {a0 : Addr} {f : Addr} {cdv : Value} {A : Around} {outer : List Env} {s : Shared} {H : Hp} {E : XK} (hr : Room 5 (A.deeper (PyProof.Rows.envOfC "Sheet.bound" (defScope s_Sheet_bound) s.heap.objs.size f cdv))) : QBB (cxOf CX0 P w K mg base ["self", "at", "to", "step"] "Sheet.bound" (defScope s_Sheet_bound) f cdv A outer s H E).nox [(0, .obj (.at_ a0) [3])] [.obj (.at_ a0) [3], .sh, .sh, .sh] [.obj (.at_ a0) [3], .sh, .sh, .sh] [.obj (.at_ a0) [3], .sh, .sh, .sh] (defBody s_Sheet_bound) p_Sheet_bound := by
  exact (qbb_cons (qbb_of (qs_expr (qe_calF c_need_place dfl_nil (hr.mono (j := 3) (by decide)) (by rfl) (qa_cons qe_int (qa_cons (qe_v 1 (pv 1)) qa_nil)))))
  (qbb_cons (qbb_of (qs_expr (qe_calF c_need_place dfl_nil (hr.mono (j := 3) (by decide)) (by rfl) (qa_cons qe_int (qa_cons (qe_v 2 (pv 2)) qa_nil)))))
  (qbb_cons (qbb_if (qt_not (qt_tru (qe_calF c_is_step dfl_nil (hr.mono (j := 2) (by decide)) (by rfl) (qa_cons (qe_v 3 (pv 3)) qa_nil)))) (qbb_one (qbb_of qs_never)) qbb_nil)
  (qbb_cons (qbb_if (qt_gt  (qe_v 1 (pv 1)) (qe_cbS len_ok call_lenA T.f_len (by rfl) (by decide +kernel) (qa_cons (qe_fld 6 0 T.c_Sheet T.a_Sheet_over_row (qe_v 0 (pv 0))) qa_nil))) (qbb_one (qbb_of qs_never)) qbb_nil)
  (qbb_cons (qbb_if (qt_gt  (qe_v 2 (pv 2)) (qe_cbS len_ok call_lenA T.f_len (by rfl) (by decide +kernel) (qa_cons (qe_fld 6 1 T.c_Sheet T.a_Sheet_under_row (qe_v 0 (pv 0))) qa_nil))) (qbb_one (qbb_of qs_never)) qbb_nil)
  (qbb_cons (qbb_of (qs_exprF2 (qf2_mthB0 (c := 6) m_Sheet_learn (hr.mono (j := 5) (by decide)) 0 (pv 0))))
  (qbb_one (qbb_ret (qe_imm (qe_ix (qe_dgetT (hu1 hr.units) (qe_fld 6 3 T.c_Sheet T.a_Sheet_known (qe_v 0 (pv 0))) (qa_cons (qe_sub (qe_cbS len_ok call_lenA T.f_len (by rfl) (by decide +kernel) (qa_cons (qe_fld 6 0 T.c_Sheet T.a_Sheet_over_row (qe_v 0 (pv 0))) qa_nil)) (qe_v 1 (pv 1))) (qa_cons (qe_sub (qe_cbS len_ok call_lenA T.f_len (by rfl) (by decide +kernel) (qa_cons (qe_fld 6 1 T.c_Sheet T.a_Sheet_under_row (qe_v 0 (pv 0))) qa_nil)) (qe_v 2 (pv 2))) qa_nil))) (qe_idxT (ys := ["b", "o", "u"]) T.g_COMES (by rfl) (qe_v 3 (pv 3)) (fun ho ha => pe_bm PySem.F.plainAttrs_tuple PySem.F.slot_tuple_index PySem.F.type_tuple_index mt_idxT ho ha))))))))))))
theorem ok_Sheet_bound (T : Tx K mg) (c_need_place : Cal P w K mg base "need_place" 3 ["at", "thing"] (spF 2 w_need_place K) []) (c_is_step : Cal P w K mg base "is_step" 2 ["thing"] (spF 1 w_is_step K) []) (m_Sheet_learn : CalM P w K mg base "Sheet" "learn" 5 ["self"] (spB [some (Lk.obj [3])] w_Sheet_learn K) []) {f : Addr} {fd : FuncData} (F : FunD K "bound" "Sheet.bound" (defArgs s_Sheet_bound) (defBody s_Sheet_bound) (defScope s_Sheet_bound) [] [] f fd) : FnOk P w K mg base CX0 6 f fd ["self", "at", "to", "step"] (spB [some (Lk.obj [3]), none, none, none] w_Sheet_bound K) := by
  refine F.ok sc_Sheet_bound (fun vs H Q E h => len_B h) (fun cdv A outer s H vs Q E hr h => ?_)
  have hl := len_B h
  have hrf := refs_B h
  obtain ⟨u0, u1, u2, u3, rfl⟩ : ∃ u0 u1 u2 u3 : V, vs = [u0, u1, u2, u3] := by
    match vs, hl with
    | [u0, u1, u2, u3], _ => exact ⟨_, _, _, _, rfl⟩
  obtain ⟨a0, ea0⟩ := hrf 0 (Lk.obj [3]) rfl
  simp at ea0
  subst ea0
  have hq := q_Sheet_bound (P := P) (w := w) (base := base) (E := E) (H := H) (outer := outer) (a0 := a0) T c_need_place c_is_step m_Sheet_learn hr
  rw [e_Sheet_bound, xB_eq] at h
  obtain ⟨t, h1, h2⟩ := body_B (N := ["self", "at", "to", "step"]) (ts := [some (Lk.obj [3]), none, none, none]) (vs := [.ref a0, u1, u2, u3]) hq rfl (by
    intro j t e
    rcases j with _ | _ | _ | _ | j
    all_goals first | (exfalso; simp at e; done) | (exfalso; cases e; done) | exact ⟨_, rfl, by simp [Lk.at_], rfl⟩) h
  exact ⟨t, PSs.nox h1, h2⟩
abbrev s_law_table : Stmt := topS 48
theorem sc_law_table : FnScope ["_law_sheet", "_law_rows", "_law_table_here", "_law_at", "_law_to", "_law_step"] ["_law_sheet", "_law_rows"] (defScope s_law_table) := ⟨rfl, rfl, rfl, by decide +kernel, rfl, by decide +kernel, by decide +kernel⟩
theorem q_law_table (T : Tx K mg) (m_Sheet_bound : CalM P w K mg base "Sheet" "bound" 6 ["self", "at", "to", "step"] (spB [some (Lk.obj [3]), none, none, none] w_Sheet_bound K) []) {a0 : Addr} {a1 : Addr} {f : Addr} {cdv : Value} {A : Around} {outer : List Env} {s : Shared} {H : Hp} {E : XK} (hr : Room 6 (A.deeper (PyProof.Rows.envOfC "_law_table" (defScope s_law_table) s.heap.objs.size f cdv))) : QBB (cxOf CX0 P w K mg base ["_law_sheet", "_law_rows", "_law_table_here", "_law_at", "_law_to", "_law_step"] "_law_table" (defScope s_law_table) f cdv A outer s H E).nox [(0, .obj (.at_ a0) [3]), (1, .ownA a1)] [.obj (.at_ a0) [3], .ownA a1, .own, .sh, .sh, .sh] [.obj (.at_ a0) [3], .ownA a1, .own, .sh, .sh, .sh] [.obj (.at_ a0) [3], .ownA a1, .own, .sh, .sh, .sh] (defBody s_law_table) p_law_table := by
  exact (qbb_cons (qbb_of (xs_setN (i := 2) (hi := by simp) (fun h => ps_set (i := 2) sc_law_table.nd rfl (by first | exact Or.inl rfl | exact Or.inr rfl) h) qn_dT))
  (qbb_cons (qbb_for (js := [3]) (fun h1 h2 h3 => ps_for PassesOwn.never rfl h1 h2 h3) (qi_rng (by rfl) T.f_range (qe_add (qe_cbS len_ok call_lenA T.f_len (by rfl) (by decide +kernel) (qa_cons (qe_dget (hu1 hr.units) (qe_v 1 (pv 1)) qe_str) qa_nil)) qe_int)) (xq_name (i := 3) (pg_name (i := 3) sc_law_table.nd rfl (by first | exact Or.inl rfl | exact Or.inr rfl))) (qbb_one (qbb_for (js := [4]) (fun h1 h2 h3 => ps_for PassesOwn.never rfl h1 h2 h3) (qi_rng (by rfl) T.f_range (qe_add (qe_cbS len_ok call_lenA T.f_len (by rfl) (by decide +kernel) (qa_cons (qe_dget (hu1 hr.units) (qe_v 1 (pv 1)) qe_str) qa_nil)) qe_int)) (xq_name (i := 4) (pg_name (i := 4) sc_law_table.nd rfl (by first | exact Or.inl rfl | exact Or.inr rfl))) (qbb_one (qbb_of (xs_setDE (i := 2) (fun h1 h2 => ps_asg h1 (pg_sub (pv 2) (pe_tup h2) (set_dict (hu1 hr.units)))) (qf2_lc (own := [("_law_step", 5)]) (vs := [5]) (fun hi hg ht he => pe_lc (own := [("_law_step", 5)]) (by rfl) sc_law_table.nd hi (blkOk_by (own := [("_law_step", 5)]) (by kernel_rfl)) hg ht he) (qi_lst (qe_lst (qa_cons qe_str (qa_cons qe_str (qa_cons qe_str qa_nil))))) (fun _ _ _ _ _ => (xq_name (i := 5) (pg_name (i := 5) sc_law_table.nd rfl (by first | exact Or.inl rfl | exact Or.inr rfl)))) (fun _ _ _ _ _ => by exact (qf2_mthB (c := 6) m_Sheet_bound (hr.mono (j := 6) (by decide)) 0 (pv 0) (qal_val (qe_v 3 (pv 3)) (qal_val (qe_v 4 (pv 4)) (qal_val (qe_v 5 (pv 5)) qal_nil))))) (by decide) (hl_by rfl) (hw3_by rfl)) (qa_cons (qe_v 3 (pv 3)) (qa_cons (qe_v 4 (pv 4)) qa_nil))))))))
  (qbb_frz 2 (qbb_one (qbb_ret (qe_v 2 (pv 2)))))))
theorem ok_law_table (T : Tx K mg) (m_Sheet_bound : CalM P w K mg base "Sheet" "bound" 6 ["self", "at", "to", "step"] (spB [some (Lk.obj [3]), none, none, none] w_Sheet_bound K) []) {f : Addr} {fd : FuncData} (F : FunD K "_law_table" "_law_table" (defArgs s_law_table) (defBody s_law_table) (defScope s_law_table) [] [] f fd) : FnOk P w K mg base CX0 7 f fd ["_law_sheet", "_law_rows"] (spB [some (Lk.obj [3]), some Lk.own] w_law_table K) := by
  refine F.ok sc_law_table (fun vs H Q E h => len_B h) (fun cdv A outer s H vs Q E hr h => ?_)
  have hl := len_B h
  have hrf := refs_B h
  obtain ⟨u0, u1, rfl⟩ : ∃ u0 u1 : V, vs = [u0, u1] := by
    match vs, hl with
    | [u0, u1], _ => exact ⟨_, _, rfl⟩
  obtain ⟨a0, ea0⟩ := hrf 0 (Lk.obj [3]) rfl
  obtain ⟨a1, ea1⟩ := hrf 1 Lk.own rfl
  simp at ea0 ea1
  subst ea0 ea1
  have hq := q_law_table (P := P) (w := w) (base := base) (E := E) (H := H) (outer := outer) (a0 := a0) (a1 := a1) T m_Sheet_bound hr
  rw [e_law_table, xB_eq] at h
  obtain ⟨t, h1, h2⟩ := body_B (N := ["_law_sheet", "_law_rows", "_law_table_here", "_law_at", "_law_to", "_law_step"]) (ts := [some (Lk.obj [3]), some Lk.own]) (vs := [.ref a0, .ref a1]) hq rfl (by
    intro j t e
    rcases j with _ | _ | j
    all_goals first | (exfalso; simp at e; done) | (exfalso; cases e; done) | exact ⟨_, rfl, by simp [Lk.at_], rfl⟩) h
  exact ⟨t, PSs.nox h1, h2⟩
abbrev s_law_deed : Stmt := topS 46
theorem sc_law_deed : FnScope ["_law_bag_here", "_law_rows", "_law_letters_here", "_law_most", "_law_side", "_law_row_here", "_law_way", "_law_at", "_law_many", "_law_k"] ["_law_bag_here", "_law_rows", "_law_letters_here", "_law_most"] (defScope s_law_deed) := ⟨rfl, rfl, rfl, by decide +kernel, rfl, by decide +kernel, by decide +kernel⟩
theorem q_law_deed (T : Tx K mg) (c_law_take : Cal P w K mg base "_law_take" 1 ["_law_bag_here", "_law_many"] (spF 2 w_law_take K) []) {f : Addr} {cdv : Value} {A : Around} {outer : List Env} {s : Shared} {H : Hp} {E : XK} (hr : Room 1 (A.deeper (PyProof.Rows.envOfC "_law_deed" (defScope s_law_deed) s.heap.objs.size f cdv))) : QB (cxOf CX0 P w K mg base ["_law_bag_here", "_law_rows", "_law_letters_here", "_law_most", "_law_side", "_law_row_here", "_law_way", "_law_at", "_law_many", "_law_k"] "_law_deed" (defScope s_law_deed) f cdv A outer s H E).nox [.bor, .bor, .bor, .bor, .sh, .bor, .sh, .sh, .sh, .sh] [.bor, .bor, .bor, .bor, .sh, .bor, .sh, .sh, .sh, .sh] [.bor, .bor, .bor, .bor, .sh, .bor, .sh, .sh, .sh, .sh] (defBody s_law_deed) p_law_deed := by
  exact (qb_cons (xs_setG (i := 4) (fun h => ps_set (i := 4) sc_law_deed.nd rfl (by first | exact Or.inl rfl | exact Or.inr rfl) h) (qe_ix (qe_lst (qa_cons qe_str (qa_cons qe_str qa_nil))) (qe_calF c_law_take dfl_nil (hr.mono (j := 1) (by decide)) (by rfl) (qa_cons (qe_v 0 (pv 0)) (qa_cons qe_int qa_nil)))))
  (qb_cons (xs_setG (i := 5) (fun h => ps_set (i := 5) sc_law_deed.nd rfl (by first | exact Or.inl rfl | exact Or.inr rfl) h) (qe_dget (hu1 hr.units) (qe_v 1 (pv 1)) (qe_v 4 (pv 4))))
  (qb_cons (xs_setG (i := 6) (fun h => ps_set (i := 6) sc_law_deed.nd rfl (by first | exact Or.inl rfl | exact Or.inr rfl) h) (qe_calF c_law_take dfl_nil (hr.mono (j := 1) (by decide)) (by rfl) (qa_cons (qe_v 0 (pv 0)) (qa_cons qe_int qa_nil))))
  (qb_cons (qs_if (qt_w (qw_or (qt_w (qw_and (qt_eq (hr.units) (qe_v 6 (pv 6)) qe_int) (qw_and1 (qt_lt  (qe_cbS len_ok call_lenA T.f_len (by rfl) (by decide +kernel) (qa_cons (qe_v 5 (pv 5)) qa_nil)) (qe_v 3 (pv 3)))))) (qw_or1 (qt_eq (hr.units) (qe_v 5 (pv 5)) qe_str)))) (qb_cons (xs_setG (i := 7) (fun h => ps_set (i := 7) sc_law_deed.nd rfl (by first | exact Or.inl rfl | exact Or.inr rfl) h) (qe_ix (qe_lst (qa_cons qe_int (qa_cons (qe_cbS len_ok call_lenA T.f_len (by rfl) (by decide +kernel) (qa_cons (qe_v 5 (pv 5)) qa_nil)) (qa_cons (qe_calF c_law_take dfl_nil (hr.mono (j := 1) (by decide)) (by rfl) (qa_cons (qe_v 0 (pv 0)) (qa_cons (qe_add (qe_cbS len_ok call_lenA T.f_len (by rfl) (by decide +kernel) (qa_cons (qe_v 5 (pv 5)) qa_nil)) qe_int) qa_nil))) qa_nil)))) (qe_calF c_law_take dfl_nil (hr.mono (j := 1) (by decide)) (by rfl) (qa_cons (qe_v 0 (pv 0)) (qa_cons qe_int qa_nil)))))
  (qb_cons (xs_setG (i := 8) (fun h => ps_set (i := 8) sc_law_deed.nd rfl (by first | exact Or.inl rfl | exact Or.inr rfl) h) (qe_cbS min2_ok (call_min2A (by rfl)) T.f_min (by rfl) (by decide +kernel) (qa_cons (qe_sub (qe_v 3 (pv 3)) (qe_cbS len_ok call_lenA T.f_len (by rfl) (by decide +kernel) (qa_cons (qe_v 5 (pv 5)) qa_nil))) (qa_cons (qe_ix (qe_lst (qa_cons qe_int (qa_cons qe_int (qa_cons qe_int (qa_cons (qe_add qe_int (qe_calF c_law_take dfl_nil (hr.mono (j := 1) (by decide)) (by rfl) (qa_cons (qe_v 0 (pv 0)) (qa_cons qe_int qa_nil)))) (qa_cons (qe_imm (qe_v 3 (pv 3))) qa_nil)))))) (qe_calF c_law_take dfl_nil (hr.mono (j := 1) (by decide)) (by rfl) (qa_cons (qe_v 0 (pv 0)) (qa_cons qe_int qa_nil)))) qa_nil))))
  (qb_one (qs_ret (qe_tup (qa_cons qe_str (qa_cons (qe_v 4 (pv 4)) (qa_cons (qe_v 7 (pv 7)) (qa_cons (qe_join qe_str (yq_lc (xe_lc (own := [("_law_k", 9)]) (fun hi hg ht he => pe_lc (own := [("_law_k", 9)]) (by rfl) sc_law_deed.nd hi (blkOk_by (own := [("_law_k", 9)]) (by kernel_rfl)) hg ht he) (qi_rng (by rfl) T.f_range (qe_v 8 (pv 8))) (fun _ _ _ _ _ => (xq_name (i := 9) (pg_name (i := 9) sc_law_deed.nd rfl (by first | exact Or.inl rfl | exact Or.inr rfl)))) (fun _ _ _ _ _ => by exact qts_nil) (fun _ _ _ _ _ => by exact (qe_imm (qe_ix (qe_v 2 (pv 2)) (qe_calF c_law_take dfl_nil (hr.mono (j := 1) (by decide)) (by rfl) (qa_cons (qe_v 0 (pv 0)) (qa_cons (qe_cbS len_ok call_lenA T.f_len (by rfl) (by decide +kernel) (qa_cons (qe_v 2 (pv 2)) qa_nil)) qa_nil))))))))) qa_nil))))))))) qb_nil)
  (qb_cons (xs_setG (i := 7) (fun h => ps_set (i := 7) sc_law_deed.nd rfl (by first | exact Or.inl rfl | exact Or.inr rfl) h) (qe_ix (qe_lst (qa_cons qe_int (qa_cons (qe_sub (qe_cbS len_ok call_lenA T.f_len (by rfl) (by decide +kernel) (qa_cons (qe_v 5 (pv 5)) qa_nil)) qe_int) (qa_cons (qe_calF c_law_take dfl_nil (hr.mono (j := 1) (by decide)) (by rfl) (qa_cons (qe_v 0 (pv 0)) (qa_cons (qe_cbS len_ok call_lenA T.f_len (by rfl) (by decide +kernel) (qa_cons (qe_v 5 (pv 5)) qa_nil)) qa_nil))) qa_nil)))) (qe_calF c_law_take dfl_nil (hr.mono (j := 1) (by decide)) (by rfl) (qa_cons (qe_v 0 (pv 0)) (qa_cons qe_int qa_nil)))))
  (qb_cons (qs_if (qt_lt  (qe_v 6 (pv 6)) qe_int) (qb_one (qs_ret (qe_tup (qa_cons qe_str (qa_cons (qe_v 4 (pv 4)) (qa_cons (qe_v 7 (pv 7)) (qa_cons (qe_ix (qe_lst (qa_cons qe_int (qa_cons (qe_sub (qe_cbS len_ok call_lenA T.f_len (by rfl) (by decide +kernel) (qa_cons (qe_v 5 (pv 5)) qa_nil)) (qe_v 7 (pv 7))) (qa_cons (qe_add qe_int (qe_calF c_law_take dfl_nil (hr.mono (j := 1) (by decide)) (by rfl) (qa_cons (qe_v 0 (pv 0)) (qa_cons (qe_sub (qe_cbS len_ok call_lenA T.f_len (by rfl) (by decide +kernel) (qa_cons (qe_v 5 (pv 5)) qa_nil)) (qe_v 7 (pv 7))) qa_nil)))) qa_nil)))) (qe_calF c_law_take dfl_nil (hr.mono (j := 1) (by decide)) (by rfl) (qa_cons (qe_v 0 (pv 0)) (qa_cons qe_int qa_nil)))) qa_nil))))))) qb_nil)
  (qb_one (qs_ret (qe_imm (qe_tup (qa_cons qe_str (qa_cons (qe_v 4 (pv 4)) (qa_cons (qe_v 7 (pv 7)) (qa_cons (qe_ix (qe_v 2 (pv 2)) (qe_calF c_law_take dfl_nil (hr.mono (j := 1) (by decide)) (by rfl) (qa_cons (qe_v 0 (pv 0)) (qa_cons (qe_cbS len_ok call_lenA T.f_len (by rfl) (by decide +kernel) (qa_cons (qe_v 2 (pv 2)) qa_nil)) qa_nil)))) qa_nil))))))))))))))
theorem ok_law_deed (T : Tx K mg) (c_law_take : Cal P w K mg base "_law_take" 1 ["_law_bag_here", "_law_many"] (spF 2 w_law_take K) []) {f : Addr} {fd : FuncData} (F : FunD K "_law_deed" "_law_deed" (defArgs s_law_deed) (defBody s_law_deed) (defScope s_law_deed) [] [] f fd) : FnOk P w K mg base CX0 2 f fd ["_law_bag_here", "_law_rows", "_law_letters_here", "_law_most"] (spF 4 w_law_deed K) := by
  refine F.ok sc_law_deed (fun vs H Q E h => len_F h) (fun cdv A outer s H vs Q E hr h => ?_)
  have hq := q_law_deed (P := P) (w := w) (base := base) (E := E) (H := H) (outer := outer) T c_law_take hr
  rw [e_law_deed, xF_eq] at h
  obtain ⟨t, h1, h2⟩ := body_F (N := ["_law_bag_here", "_law_rows", "_law_letters_here", "_law_most", "_law_side", "_law_row_here", "_law_way", "_law_at", "_law_many", "_law_k"]) (n := 4) hq rfl (by decide) h
  exact ⟨t, PSs.nox h1, h2⟩
abbrev s_is_side : Stmt := topS 21
theorem sc_is_side : FnScope ["thing"] ["thing"] (defScope s_is_side) := ⟨rfl, rfl, rfl, by decide +kernel, rfl, by decide +kernel, by decide +kernel⟩
theorem q_is_side (T : Tx K mg)  {f : Addr} {cdv : Value} {A : Around} {outer : List Env} {s : Shared} {H : Hp} {E : XK} (hr : Room 0 (A.deeper (PyProof.Rows.envOfC "is_side" (defScope s_is_side) s.heap.objs.size f cdv))) : QB (cxOf CX0 P w K mg base ["thing"] "is_side" (defScope s_is_side) f cdv A outer s H E).nox [.bor] [.bor] [.bor] (defBody s_is_side) p_is_side := by
  exact (qb_one (qs_ret (qe_andV (qe_cbS isB_ok call_isB T.f_isinstance (by rfl) (by decide +kernel) (qa_cons (qe_v 0 (pv 0)) (qa_cons (qe_ty .str T.f_str (by rfl) (by decide +kernel)) qa_nil))) (qe_one (qe_in  (qe_v 0 (pv 0)) (qe_g T.g_SIDES (by rfl)))))))
theorem ok_is_side (T : Tx K mg)  {f : Addr} {fd : FuncData} (F : FunD K "is_side" "is_side" (defArgs s_is_side) (defBody s_is_side) (defScope s_is_side) [] [] f fd) : FnOk P w K mg base CX0 1 f fd ["thing"] (spF 1 w_is_side K) := by
  refine F.ok sc_is_side (fun vs H Q E h => len_F h) (fun cdv A outer s H vs Q E hr h => ?_)
  have hq := q_is_side (P := P) (w := w) (base := base) (E := E) (H := H) (outer := outer) T  hr
  rw [e_is_side, xF_eq] at h
  obtain ⟨t, h1, h2⟩ := body_F (N := ["thing"]) (n := 1) hq rfl (by decide) h
  exact ⟨t, PSs.nox h1, h2⟩
abbrev s_need_side : Stmt := topS 34
theorem sc_need_side : FnScope ["thing"] ["thing"] (defScope s_need_side) := ⟨rfl, rfl, rfl, by decide +kernel, rfl, by decide +kernel, by decide +kernel⟩
theorem q_need_side (T : Tx K mg) (c_is_side : Cal P w K mg base "is_side" 1 ["thing"] (spF 1 w_is_side K) []) {f : Addr} {cdv : Value} {A : Around} {outer : List Env} {s : Shared} {H : Hp} {E : XK} (hr : Room 1 (A.deeper (PyProof.Rows.envOfC "need_side" (defScope s_need_side) s.heap.objs.size f cdv))) : QB (cxOf CX0 P w K mg base ["thing"] "need_side" (defScope s_need_side) f cdv A outer s H E).nox [.bor] [.bor] [.bor] (defBody s_need_side) p_need_side := by
  exact (qb_one (qs_if (qt_not (qt_tru (qe_calF c_is_side dfl_nil (hr.mono (j := 1) (by decide)) (by rfl) (qa_cons (qe_v 0 (pv 0)) qa_nil)))) (qb_one qs_never) qb_nil))
theorem ok_need_side (T : Tx K mg) (c_is_side : Cal P w K mg base "is_side" 1 ["thing"] (spF 1 w_is_side K) []) {f : Addr} {fd : FuncData} (F : FunD K "need_side" "need_side" (defArgs s_need_side) (defBody s_need_side) (defScope s_need_side) [] [] f fd) : FnOk P w K mg base CX0 2 f fd ["thing"] (spF 1 w_need_side K) := by
  refine F.ok sc_need_side (fun vs H Q E h => len_F h) (fun cdv A outer s H vs Q E hr h => ?_)
  have hq := q_need_side (P := P) (w := w) (base := base) (E := E) (H := H) (outer := outer) T c_is_side hr
  rw [e_need_side, xF_eq] at h
  obtain ⟨t, h1, h2⟩ := body_F (N := ["thing"]) (n := 1) hq rfl (by decide) h
  exact ⟨t, PSs.nox h1, h2⟩
abbrev s_Sheet_row : Stmt := inClass (topS 36) 7
theorem sc_Sheet_row : FnScope ["self", "side"] ["self", "side"] (defScope s_Sheet_row) := ⟨rfl, rfl, rfl, by decide +kernel, rfl, by decide +kernel, by decide +kernel⟩
theorem q_Sheet_row (T : Tx K mg) (c_need_side : Cal P w K mg base "need_side" 2 ["thing"] (spF 1 w_need_side K) []) {f : Addr} {cdv : Value} {A : Around} {outer : List Env} {s : Shared} {H : Hp} {E : XK} (hr : Room 2 (A.deeper (PyProof.Rows.envOfC "Sheet.row" (defScope s_Sheet_row) s.heap.objs.size f cdv))) : QB (cxOf CX0 P w K mg base ["self", "side"] "Sheet.row" (defScope s_Sheet_row) f cdv A outer s H E).nox [.bor, .bor] [.bor, .bor] [.bor, .bor] (defBody s_Sheet_row) p_Sheet_row := by
  exact (qb_cons (qs_expr (qe_calF c_need_side dfl_nil (hr.mono (j := 2) (by decide)) (by rfl) (qa_cons (qe_v 1 (pv 1)) qa_nil)))
  (qb_cons (qs_if (qt_eq (hr.units) (qe_v 1 (pv 1)) qe_str) (qb_one (qs_ret (qe_imm (qe_fld 6 0 T.c_Sheet T.a_Sheet_over_row (qe_v 0 (pv 0)))))) qb_nil)
  (qb_one (qs_ret (qe_imm (qe_fld 6 1 T.c_Sheet T.a_Sheet_under_row (qe_v 0 (pv 0))))))))
theorem ok_Sheet_row (T : Tx K mg) (c_need_side : Cal P w K mg base "need_side" 2 ["thing"] (spF 1 w_need_side K) []) {f : Addr} {fd : FuncData} (F : FunD K "row" "Sheet.row" (defArgs s_Sheet_row) (defBody s_Sheet_row) (defScope s_Sheet_row) [] [] f fd) : FnOk P w K mg base CX0 3 f fd ["self", "side"] (spF 2 w_Sheet_row K) := by
  refine F.ok sc_Sheet_row (fun vs H Q E h => len_F h) (fun cdv A outer s H vs Q E hr h => ?_)
  have hq := q_Sheet_row (P := P) (w := w) (base := base) (E := E) (H := H) (outer := outer) T c_need_side hr
  rw [e_Sheet_row, xF_eq] at h
  obtain ⟨t, h1, h2⟩ := body_F (N := ["self", "side"]) (n := 2) hq rfl (by decide) h
  exact ⟨t, PSs.nox h1, h2⟩
abbrev s_Sheet_changed_row : Stmt := inClass (topS 36) 3
theorem sc_Sheet_changed_row : FnScope ["self", "side", "row", "still", "left", "three"] ["self", "side", "row", "still"] (defScope s_Sheet_changed_row) := ⟨rfl, rfl, rfl, by decide +kernel, rfl, by decide +kernel, by decide +kernel⟩
theorem q_Sheet_changed_row (T : Tx K mg)  {a0 : Addr} {f : Addr} {cdv : Value} {A : Around} {outer : List Env} {s : Shared} {H : Hp} {E : XK} (hr : Room 0 (A.deeper (PyProof.Rows.envOfC "Sheet.changed_row" (defScope s_Sheet_changed_row) s.heap.objs.size f cdv))) : QBB (cxOf CX0 P w K mg base ["self", "side", "row", "still", "left", "three"] "Sheet.changed_row" (defScope s_Sheet_changed_row) f cdv A outer s H E).nox [(0, .obj (.at_ a0) [3])] [.obj (.at_ a0) [3], .sh, .sh, .sh, .tt, .sh] [.obj (.at_ a0) [3], .sh, .sh, .sh, .tt, .sh] [.obj (.at_ a0) [3], .sh, .sh, .sh, .tt, .sh] (defBody s_Sheet_changed_row) p_Sheet_changed_row := by
  exact (qbb_cons (qbb_of (xs_fldO 0 6 4 T.c_Sheet T.a_Sheet_all_known (fun h => ps_fld (pv 0) h rfl) qe_bl))
  (qbb_one (qbb_if (qt_eq (hr.units) (qe_v 1 (pv 1)) qe_str) (qbb_cons (qbb_of (xs_fldO 0 6 0 T.c_Sheet T.a_Sheet_over_row (fun h => ps_fld (pv 0) h rfl) (qe_v 2 (pv 2))))
  (qbb_one (qbb_of (xs_fldON 0 6 3 T.c_Sheet T.a_Sheet_known (fun h => ps_fld (pv 0) h rfl) (qn_dcI (own := [("left", 4), ("three", 5)]) (vs := [0, 1, 2, 4, 5]) (by rfl) sc_Sheet_changed_row.nd (hu1 hr.units) (blkOk_by (own := [("left", 4), ("three", 5)]) (by kernel_rfl)) (qz_fld 6 3 T.c_Sheet T.a_Sheet_known (qz_v 0 (pv 0))) (fun _ _ _ _ _ => by exact pg_tup (by rfl) (pgs_cons (pg_name (i := 4) sc_Sheet_changed_row.nd rfl (by first | exact Or.inl rfl | exact Or.inr rfl)) (pgs_cons (pg_name (i := 5) sc_Sheet_changed_row.nd rfl (by first | exact Or.inl rfl | exact Or.inr rfl)) pgs_nil))) (fun _ _ _ _ _ => by exact qts_one (qt_le  (qe_ix (qe_v 4 (pv 4)) qe_int) (qe_v 3 (pv 3)))) (fun _ _ _ _ _ => by exact (pv 4)) (fun _ _ _ _ _ => by exact (pv 5)) (by decide) (hw_by rfl)))))) (qbb_cons (qbb_of (xs_fldO 0 6 1 T.c_Sheet T.a_Sheet_under_row (fun h => ps_fld (pv 0) h rfl) (qe_v 2 (pv 2))))
  (qbb_one (qbb_of (xs_fldON 0 6 3 T.c_Sheet T.a_Sheet_known (fun h => ps_fld (pv 0) h rfl) (qn_dcI (own := [("left", 4), ("three", 5)]) (vs := [0, 1, 2, 4, 5]) (by rfl) sc_Sheet_changed_row.nd (hu1 hr.units) (blkOk_by (own := [("left", 4), ("three", 5)]) (by kernel_rfl)) (qz_fld 6 3 T.c_Sheet T.a_Sheet_known (qz_v 0 (pv 0))) (fun _ _ _ _ _ => by exact pg_tup (by rfl) (pgs_cons (pg_name (i := 4) sc_Sheet_changed_row.nd rfl (by first | exact Or.inl rfl | exact Or.inr rfl)) (pgs_cons (pg_name (i := 5) sc_Sheet_changed_row.nd rfl (by first | exact Or.inl rfl | exact Or.inr rfl)) pgs_nil))) (fun _ _ _ _ _ => by exact qts_one (qt_le  (qe_ix (qe_v 4 (pv 4)) qe_int) (qe_v 3 (pv 3)))) (fun _ _ _ _ _ => by exact (pv 4)) (fun _ _ _ _ _ => by exact (pv 5)) (by decide) (hw_by rfl)))))))))
theorem ok_Sheet_changed_row (T : Tx K mg)  {f : Addr} {fd : FuncData} (F : FunD K "changed_row" "Sheet.changed_row" (defArgs s_Sheet_changed_row) (defBody s_Sheet_changed_row) (defScope s_Sheet_changed_row) [] [] f fd) : FnOk P w K mg base CX0 1 f fd ["self", "side", "row", "still"] (spB [some (Lk.obj [3]), none, none, none] w_Sheet_changed_row K) := by
  refine F.ok sc_Sheet_changed_row (fun vs H Q E h => len_B h) (fun cdv A outer s H vs Q E hr h => ?_)
  have hl := len_B h
  have hrf := refs_B h
  obtain ⟨u0, u1, u2, u3, rfl⟩ : ∃ u0 u1 u2 u3 : V, vs = [u0, u1, u2, u3] := by
    match vs, hl with
    | [u0, u1, u2, u3], _ => exact ⟨_, _, _, _, rfl⟩
  obtain ⟨a0, ea0⟩ := hrf 0 (Lk.obj [3]) rfl
  simp at ea0
  subst ea0
  have hq := q_Sheet_changed_row (P := P) (w := w) (base := base) (E := E) (H := H) (outer := outer) (a0 := a0) T  hr
  rw [e_Sheet_changed_row, xB_eq] at h
  obtain ⟨t, h1, h2⟩ := body_B (N := ["self", "side", "row", "still", "left", "three"]) (ts := [some (Lk.obj [3]), none, none, none]) (vs := [.ref a0, u1, u2, u3]) hq rfl (by
    intro j t e
    rcases j with _ | _ | _ | _ | j
    all_goals first | (exfalso; simp at e; done) | (exfalso; cases e; done) | exact ⟨_, rfl, by simp [Lk.at_], rfl⟩) h
  exact ⟨t, PSs.nox h1, h2⟩
abbrev s_Sheet_put : Stmt := inClass (topS 36) 4
theorem sc_Sheet_put : FnScope ["self", "side", "at", "letters", "row"] ["self", "side", "at", "letters"] (defScope s_Sheet_put) := ⟨rfl, rfl, rfl, by decide +kernel, rfl, by decide +kernel, by decide +kernel⟩
theorem q_Sheet_put (T : Tx K mg) (c_need_side : Cal P w K mg base "need_side" 2 ["thing"] (spF 1 w_need_side K) []) (c_need_place : Cal P w K mg base "need_place" 3 ["at", "thing"] (spF 2 w_need_place K) []) (c_is_row : Cal P w K mg base "is_row" 2 ["thing"] (spF 1 w_is_row K) []) (m_Sheet_row : CalM P w K mg base "Sheet" "row" 3 ["self", "side"] (spF 2 w_Sheet_row K) []) (c_need_letters : Cal P w K mg base "need_letters" 2 ["row", "scale"] (spF 2 w_need_letters K) []) (m_Sheet_changed_row : CalM P w K mg base "Sheet" "changed_row" 1 ["self", "side", "row", "still"] (spB [some (Lk.obj [3]), none, none, none] w_Sheet_changed_row K) []) {a0 : Addr} {f : Addr} {cdv : Value} {A : Around} {outer : List Env} {s : Shared} {H : Hp} {E : XK} (hr : Room 3 (A.deeper (PyProof.Rows.envOfC "Sheet.put" (defScope s_Sheet_put) s.heap.objs.size f cdv))) : QBB (cxOf CX0 P w K mg base ["self", "side", "at", "letters", "row"] "Sheet.put" (defScope s_Sheet_put) f cdv A outer s H E).nox [(0, .obj (.at_ a0) [3])] [.obj (.at_ a0) [3], .sh, .sh, .sh, .sh] [.obj (.at_ a0) [3], .sh, .sh, .sh, .sh] [.obj (.at_ a0) [3], .sh, .sh, .sh, .sh] (defBody s_Sheet_put) p_Sheet_put := by
  exact (qbb_cons (qbb_of (qs_expr (qe_calF c_need_side dfl_nil (hr.mono (j := 2) (by decide)) (by rfl) (qa_cons (qe_v 1 (pv 1)) qa_nil))))
  (qbb_cons (qbb_of (qs_expr (qe_calF c_need_place dfl_nil (hr.mono (j := 3) (by decide)) (by rfl) (qa_cons qe_int (qa_cons (qe_v 2 (pv 2)) qa_nil)))))
  (qbb_cons (qbb_if (qt_w (qw_or (qt_not (qt_tru (qe_calF c_is_row dfl_nil (hr.mono (j := 2) (by decide)) (by rfl) (qa_cons (qe_v 3 (pv 3)) qa_nil)))) (qw_or1 (qt_eq (hr.units) (qe_v 3 (pv 3)) qe_str)))) (qbb_one (qbb_of qs_never)) qbb_nil)
  (qbb_cons (qbb_of (xs_setG (i := 4) (fun h => ps_set (i := 4) sc_Sheet_put.nd rfl (by first | exact Or.inl rfl | exact Or.inr rfl) h) (qe_mthF (c := 6) m_Sheet_row dfl_nil (hr.mono (j := 3) (by decide)) (qe_v 0 (pv 0)) (qa_cons (qe_v 1 (pv 1)) qa_nil))))
  (qbb_cons (qbb_if (qt_gt  (qe_v 2 (pv 2)) (qe_cbS len_ok call_lenA T.f_len (by rfl) (by decide +kernel) (qa_cons (qe_v 4 (pv 4)) qa_nil))) (qbb_one (qbb_of qs_never)) qbb_nil)
  (qbb_cons (qbb_if (qt_gt  (qe_add (qe_cbS len_ok call_lenA T.f_len (by rfl) (by decide +kernel) (qa_cons (qe_v 4 (pv 4)) qa_nil)) (qe_cbS len_ok call_lenA T.f_len (by rfl) (by decide +kernel) (qa_cons (qe_v 3 (pv 3)) qa_nil))) (qe_g T.g_LONGEST_ROW (by rfl))) (qbb_one (qbb_of qs_never)) qbb_nil)
  (qbb_cons (qbb_of (qs_expr (qe_calF c_need_letters dfl_nil (hr.mono (j := 2) (by decide)) (by rfl) (qa_cons (qe_v 3 (pv 3)) (qa_cons (qe_fld 6 2 T.c_Sheet T.a_Sheet_ruled (qe_v 0 (pv 0))) qa_nil)))))
  (qbb_cons (qbb_of (qs_exprF2 (qf2_mthB (c := 6) m_Sheet_changed_row (hr.mono (j := 1) (by decide)) 0 (pv 0) (qal_val (qe_v 1 (pv 1)) (qal_val (qe_add (qe_add (qe_sl (qe_v 4 (pv 4)) qo_none (qo_some (qe_v 2 (pv 2)))) (qe_v 3 (pv 3))) (qe_sl (qe_v 4 (pv 4)) (qo_some (qe_v 2 (pv 2))) qo_none)) (qal_val (qe_sub (qe_cbS len_ok call_lenA T.f_len (by rfl) (by decide +kernel) (qa_cons (qe_v 4 (pv 4)) qa_nil)) (qe_v 2 (pv 2))) qal_nil))))))
  (qbb_one (qbb_ret (qe_add (qe_v 2 (pv 2)) (qe_cbS len_ok call_lenA T.f_len (by rfl) (by decide +kernel) (qa_cons (qe_v 3 (pv 3)) qa_nil)))))))))))))
theorem ok_Sheet_put (T : Tx K mg) (c_need_side : Cal P w K mg base "need_side" 2 ["thing"] (spF 1 w_need_side K) []) (c_need_place : Cal P w K mg base "need_place" 3 ["at", "thing"] (spF 2 w_need_place K) []) (c_is_row : Cal P w K mg base "is_row" 2 ["thing"] (spF 1 w_is_row K) []) (m_Sheet_row : CalM P w K mg base "Sheet" "row" 3 ["self", "side"] (spF 2 w_Sheet_row K) []) (c_need_letters : Cal P w K mg base "need_letters" 2 ["row", "scale"] (spF 2 w_need_letters K) []) (m_Sheet_changed_row : CalM P w K mg base "Sheet" "changed_row" 1 ["self", "side", "row", "still"] (spB [some (Lk.obj [3]), none, none, none] w_Sheet_changed_row K) []) {f : Addr} {fd : FuncData} (F : FunD K "put" "Sheet.put" (defArgs s_Sheet_put) (defBody s_Sheet_put) (defScope s_Sheet_put) [] [] f fd) : FnOk P w K mg base CX0 4 f fd ["self", "side", "at", "letters"] (spB [some (Lk.obj [3]), none, none, none] w_Sheet_put K) := by
  refine F.ok sc_Sheet_put (fun vs H Q E h => len_B h) (fun cdv A outer s H vs Q E hr h => ?_)
  have hl := len_B h
  have hrf := refs_B h
  obtain ⟨u0, u1, u2, u3, rfl⟩ : ∃ u0 u1 u2 u3 : V, vs = [u0, u1, u2, u3] := by
    match vs, hl with
    | [u0, u1, u2, u3], _ => exact ⟨_, _, _, _, rfl⟩
  obtain ⟨a0, ea0⟩ := hrf 0 (Lk.obj [3]) rfl
  simp at ea0
  subst ea0
  have hq := q_Sheet_put (P := P) (w := w) (base := base) (E := E) (H := H) (outer := outer) (a0 := a0) T c_need_side c_need_place c_is_row m_Sheet_row c_need_letters m_Sheet_changed_row hr
  rw [e_Sheet_put, xB_eq] at h
  obtain ⟨t, h1, h2⟩ := body_B (N := ["self", "side", "at", "letters", "row"]) (ts := [some (Lk.obj [3]), none, none, none]) (vs := [.ref a0, u1, u2, u3]) hq rfl (by
    intro j t e
    rcases j with _ | _ | _ | _ | j
    all_goals first | (exfalso; simp at e; done) | (exfalso; cases e; done) | exact ⟨_, rfl, by simp [Lk.at_], rfl⟩) h
  exact ⟨t, PSs.nox h1, h2⟩
abbrev s_Sheet_take : Stmt := inClass (topS 36) 5
theorem sc_Sheet_take : FnScope ["self", "side", "at", "many", "row"] ["self", "side", "at", "many"] (defScope s_Sheet_take) := ⟨rfl, rfl, rfl, by decide +kernel, rfl, by decide +kernel, by decide +kernel⟩
theorem q_Sheet_take (T : Tx K mg) (c_need_side : Cal P w K mg base "need_side" 2 ["thing"] (spF 1 w_need_side K) []) (c_need_place : Cal P w K mg base "need_place" 3 ["at", "thing"] (spF 2 w_need_place K) []) (c_is_between : Cal P w K mg base "is_between" 2 ["thing", "low", "high"] (spF 3 w_is_between K) []) (m_Sheet_row : CalM P w K mg base "Sheet" "row" 3 ["self", "side"] (spF 2 w_Sheet_row K) []) (m_Sheet_changed_row : CalM P w K mg base "Sheet" "changed_row" 1 ["self", "side", "row", "still"] (spB [some (Lk.obj [3]), none, none, none] w_Sheet_changed_row K) []) {a0 : Addr} {f : Addr} {cdv : Value} {A : Around} {outer : List Env} {s : Shared} {H : Hp} {E : XK} (hr : Room 3 (A.deeper (PyProof.Rows.envOfC "Sheet.take" (defScope s_Sheet_take) s.heap.objs.size f cdv))) : QBB (cxOf CX0 P w K mg base ["self", "side", "at", "many", "row"] "Sheet.take" (defScope s_Sheet_take) f cdv A outer s H E).nox [(0, .obj (.at_ a0) [3])] [.obj (.at_ a0) [3], .sh, .sh, .sh, .sh] [.obj (.at_ a0) [3], .sh, .sh, .sh, .sh] [.obj (.at_ a0) [3], .sh, .sh, .sh, .sh] (defBody s_Sheet_take) p_Sheet_take := by
  exact (qbb_cons (qbb_of (qs_expr (qe_calF c_need_side dfl_nil (hr.mono (j := 2) (by decide)) (by rfl) (qa_cons (qe_v 1 (pv 1)) qa_nil))))
  (qbb_cons (qbb_of (qs_expr (qe_calF c_need_place dfl_nil (hr.mono (j := 3) (by decide)) (by rfl) (qa_cons qe_int (qa_cons (qe_v 2 (pv 2)) qa_nil)))))
  (qbb_cons (qbb_if (qt_not (qt_tru (qe_calF c_is_between dfl_nil (hr.mono (j := 2) (by decide)) (by rfl) (qa_cons (qe_v 3 (pv 3)) (qa_cons qe_int (qa_cons (qe_g T.g_LONGEST_ROW (by rfl)) qa_nil)))))) (qbb_one (qbb_of qs_never)) qbb_nil)
  (qbb_cons (qbb_of (xs_setG (i := 4) (fun h => ps_set (i := 4) sc_Sheet_take.nd rfl (by first | exact Or.inl rfl | exact Or.inr rfl) h) (qe_mthF (c := 6) m_Sheet_row dfl_nil (hr.mono (j := 3) (by decide)) (qe_v 0 (pv 0)) (qa_cons (qe_v 1 (pv 1)) qa_nil))))
  (qbb_cons (qbb_if (qt_gt  (qe_add (qe_v 2 (pv 2)) (qe_v 3 (pv 3))) (qe_cbS len_ok call_lenA T.f_len (by rfl) (by decide +kernel) (qa_cons (qe_v 4 (pv 4)) qa_nil))) (qbb_one (qbb_of qs_never)) qbb_nil)
  (qbb_cons (qbb_of (qs_exprF2 (qf2_mthB (c := 6) m_Sheet_changed_row (hr.mono (j := 1) (by decide)) 0 (pv 0) (qal_val (qe_v 1 (pv 1)) (qal_val (qe_add (qe_sl (qe_v 4 (pv 4)) qo_none (qo_some (qe_v 2 (pv 2)))) (qe_sl (qe_v 4 (pv 4)) (qo_some (qe_add (qe_v 2 (pv 2)) (qe_v 3 (pv 3)))) qo_none)) (qal_val (qe_sub (qe_sub (qe_cbS len_ok call_lenA T.f_len (by rfl) (by decide +kernel) (qa_cons (qe_v 4 (pv 4)) qa_nil)) (qe_v 2 (pv 2))) (qe_v 3 (pv 3))) qal_nil))))))
  (qbb_one (qbb_ret (qe_v 2 (pv 2))))))))))
theorem ok_Sheet_take (T : Tx K mg) (c_need_side : Cal P w K mg base "need_side" 2 ["thing"] (spF 1 w_need_side K) []) (c_need_place : Cal P w K mg base "need_place" 3 ["at", "thing"] (spF 2 w_need_place K) []) (c_is_between : Cal P w K mg base "is_between" 2 ["thing", "low", "high"] (spF 3 w_is_between K) []) (m_Sheet_row : CalM P w K mg base "Sheet" "row" 3 ["self", "side"] (spF 2 w_Sheet_row K) []) (m_Sheet_changed_row : CalM P w K mg base "Sheet" "changed_row" 1 ["self", "side", "row", "still"] (spB [some (Lk.obj [3]), none, none, none] w_Sheet_changed_row K) []) {f : Addr} {fd : FuncData} (F : FunD K "take" "Sheet.take" (defArgs s_Sheet_take) (defBody s_Sheet_take) (defScope s_Sheet_take) [] [] f fd) : FnOk P w K mg base CX0 4 f fd ["self", "side", "at", "many"] (spB [some (Lk.obj [3]), none, none, none] w_Sheet_take K) := by
  refine F.ok sc_Sheet_take (fun vs H Q E h => len_B h) (fun cdv A outer s H vs Q E hr h => ?_)
  have hl := len_B h
  have hrf := refs_B h
  obtain ⟨u0, u1, u2, u3, rfl⟩ : ∃ u0 u1 u2 u3 : V, vs = [u0, u1, u2, u3] := by
    match vs, hl with
    | [u0, u1, u2, u3], _ => exact ⟨_, _, _, _, rfl⟩
  obtain ⟨a0, ea0⟩ := hrf 0 (Lk.obj [3]) rfl
  simp at ea0
  subst ea0
  have hq := q_Sheet_take (P := P) (w := w) (base := base) (E := E) (H := H) (outer := outer) (a0 := a0) T c_need_side c_need_place c_is_between m_Sheet_row m_Sheet_changed_row hr
  rw [e_Sheet_take, xB_eq] at h
  obtain ⟨t, h1, h2⟩ := body_B (N := ["self", "side", "at", "many", "row"]) (ts := [some (Lk.obj [3]), none, none, none]) (vs := [.ref a0, u1, u2, u3]) hq rfl (by
    intro j t e
    rcases j with _ | _ | _ | _ | j
    all_goals first | (exfalso; simp at e; done) | (exfalso; cases e; done) | exact ⟨_, rfl, by simp [Lk.at_], rfl⟩) h
  exact ⟨t, PSs.nox h1, h2⟩
abbrev s_Sheet_turn : Stmt := inClass (topS 36) 6
theorem sc_Sheet_turn : FnScope ["self", "side", "at", "letter", "row"] ["self", "side", "at", "letter"] (defScope s_Sheet_turn) := ⟨rfl, rfl, rfl, by decide +kernel, rfl, by decide +kernel, by decide +kernel⟩
theorem q_Sheet_turn (T : Tx K mg) (c_need_side : Cal P w K mg base "need_side" 2 ["thing"] (spF 1 w_need_side K) []) (c_need_place : Cal P w K mg base "need_place" 3 ["at", "thing"] (spF 2 w_need_place K) []) (c_is_letter : Cal P w K mg base "is_letter" 2 ["thing"] (spF 1 w_is_letter K) []) (m_Sheet_row : CalM P w K mg base "Sheet" "row" 3 ["self", "side"] (spF 2 w_Sheet_row K) []) (c_need_letters : Cal P w K mg base "need_letters" 2 ["row", "scale"] (spF 2 w_need_letters K) []) (m_Sheet_changed_row : CalM P w K mg base "Sheet" "changed_row" 1 ["self", "side", "row", "still"] (spB [some (Lk.obj [3]), none, none, none] w_Sheet_changed_row K) []) {a0 : Addr} {f : Addr} {cdv : Value} {A : Around} {outer : List Env} {s : Shared} {H : Hp} {E : XK} (hr : Room 3 (A.deeper (PyProof.Rows.envOfC "Sheet.turn" (defScope s_Sheet_turn) s.heap.objs.size f cdv))) : QBB (cxOf CX0 P w K mg base ["self", "side", "at", "letter", "row"] "Sheet.turn" (defScope s_Sheet_turn) f cdv A outer s H E).nox [(0, .obj (.at_ a0) [3])] [.obj (.at_ a0) [3], .sh, .sh, .sh, .sh] [.obj (.at_ a0) [3], .sh, .sh, .sh, .sh] [.obj (.at_ a0) [3], .sh, .sh, .sh, .sh] (defBody s_Sheet_turn) p_Sheet_turn := by
  exact (qbb_cons (qbb_of (qs_expr (qe_calF c_need_side dfl_nil (hr.mono (j := 2) (by decide)) (by rfl) (qa_cons (qe_v 1 (pv 1)) qa_nil))))
  (qbb_cons (qbb_of (qs_expr (qe_calF c_need_place dfl_nil (hr.mono (j := 3) (by decide)) (by rfl) (qa_cons qe_int (qa_cons (qe_v 2 (pv 2)) qa_nil)))))
  (qbb_cons (qbb_if (qt_not (qt_tru (qe_calF c_is_letter dfl_nil (hr.mono (j := 2) (by decide)) (by rfl) (qa_cons (qe_v 3 (pv 3)) qa_nil)))) (qbb_one (qbb_of qs_never)) qbb_nil)
  (qbb_cons (qbb_of (xs_setG (i := 4) (fun h => ps_set (i := 4) sc_Sheet_turn.nd rfl (by first | exact Or.inl rfl | exact Or.inr rfl) h) (qe_mthF (c := 6) m_Sheet_row dfl_nil (hr.mono (j := 3) (by decide)) (qe_v 0 (pv 0)) (qa_cons (qe_v 1 (pv 1)) qa_nil))))
  (qbb_cons (qbb_if (qt_ge  (qe_v 2 (pv 2)) (qe_cbS len_ok call_lenA T.f_len (by rfl) (by decide +kernel) (qa_cons (qe_v 4 (pv 4)) qa_nil))) (qbb_one (qbb_of qs_never)) qbb_nil)
  (qbb_cons (qbb_of (qs_expr (qe_calF c_need_letters dfl_nil (hr.mono (j := 2) (by decide)) (by rfl) (qa_cons (qe_v 3 (pv 3)) (qa_cons (qe_fld 6 2 T.c_Sheet T.a_Sheet_ruled (qe_v 0 (pv 0))) qa_nil)))))
  (qbb_cons (qbb_of (qs_exprF2 (qf2_mthB (c := 6) m_Sheet_changed_row (hr.mono (j := 1) (by decide)) 0 (pv 0) (qal_val (qe_v 1 (pv 1)) (qal_val (qe_add (qe_add (qe_sl (qe_v 4 (pv 4)) qo_none (qo_some (qe_v 2 (pv 2)))) (qe_v 3 (pv 3))) (qe_sl (qe_v 4 (pv 4)) (qo_some (qe_add (qe_v 2 (pv 2)) qe_int)) qo_none)) (qal_val (qe_sub (qe_sub (qe_cbS len_ok call_lenA T.f_len (by rfl) (by decide +kernel) (qa_cons (qe_v 4 (pv 4)) qa_nil)) (qe_v 2 (pv 2))) qe_int) qal_nil))))))
  (qbb_one (qbb_ret (qe_add (qe_v 2 (pv 2)) qe_int))))))))))
theorem ok_Sheet_turn (T : Tx K mg) (c_need_side : Cal P w K mg base "need_side" 2 ["thing"] (spF 1 w_need_side K) []) (c_need_place : Cal P w K mg base "need_place" 3 ["at", "thing"] (spF 2 w_need_place K) []) (c_is_letter : Cal P w K mg base "is_letter" 2 ["thing"] (spF 1 w_is_letter K) []) (m_Sheet_row : CalM P w K mg base "Sheet" "row" 3 ["self", "side"] (spF 2 w_Sheet_row K) []) (c_need_letters : Cal P w K mg base "need_letters" 2 ["row", "scale"] (spF 2 w_need_letters K) []) (m_Sheet_changed_row : CalM P w K mg base "Sheet" "changed_row" 1 ["self", "side", "row", "still"] (spB [some (Lk.obj [3]), none, none, none] w_Sheet_changed_row K) []) {f : Addr} {fd : FuncData} (F : FunD K "turn" "Sheet.turn" (defArgs s_Sheet_turn) (defBody s_Sheet_turn) (defScope s_Sheet_turn) [] [] f fd) : FnOk P w K mg base CX0 4 f fd ["self", "side", "at", "letter"] (spB [some (Lk.obj [3]), none, none, none] w_Sheet_turn K) := by
  refine F.ok sc_Sheet_turn (fun vs H Q E h => len_B h) (fun cdv A outer s H vs Q E hr h => ?_)
  have hl := len_B h
  have hrf := refs_B h
  obtain ⟨u0, u1, u2, u3, rfl⟩ : ∃ u0 u1 u2 u3 : V, vs = [u0, u1, u2, u3] := by
    match vs, hl with
    | [u0, u1, u2, u3], _ => exact ⟨_, _, _, _, rfl⟩
  obtain ⟨a0, ea0⟩ := hrf 0 (Lk.obj [3]) rfl
  simp at ea0
  subst ea0
  have hq := q_Sheet_turn (P := P) (w := w) (base := base) (E := E) (H := H) (outer := outer) (a0 := a0) T c_need_side c_need_place c_is_letter m_Sheet_row c_need_letters m_Sheet_changed_row hr
  rw [e_Sheet_turn, xB_eq] at h
  obtain ⟨t, h1, h2⟩ := body_B (N := ["self", "side", "at", "letter", "row"]) (ts := [some (Lk.obj [3]), none, none, none]) (vs := [.ref a0, u1, u2, u3]) hq rfl (by
    intro j t e
    rcases j with _ | _ | _ | _ | j
    all_goals first | (exfalso; simp at e; done) | (exfalso; cases e; done) | exact ⟨_, rfl, by simp [Lk.at_], rfl⟩) h
  exact ⟨t, PSs.nox h1, h2⟩
abbrev s_law_done : Stmt := topS 47
theorem sc_law_done : FnScope ["_law_sheet", "_law_rows", "_law_deed_here", "_law_word", "_law_side", "_law_at", "_law_thing", "_law_row_here"] ["_law_sheet", "_law_rows", "_law_deed_here"] (defScope s_law_done) := ⟨rfl, rfl, rfl, by decide +kernel, rfl, by decide +kernel, by decide +kernel⟩
theorem q_law_done (T : Tx K mg) (m_Sheet_put : CalM P w K mg base "Sheet" "put" 4 ["self", "side", "at", "letters"] (spB [some (Lk.obj [3]), none, none, none] w_Sheet_put K) []) (m_Sheet_take : CalM P w K mg base "Sheet" "take" 4 ["self", "side", "at", "many"] (spB [some (Lk.obj [3]), none, none, none] w_Sheet_take K) []) (m_Sheet_turn : CalM P w K mg base "Sheet" "turn" 4 ["self", "side", "at", "letter"] (spB [some (Lk.obj [3]), none, none, none] w_Sheet_turn K) []) {a0 : Addr} {a1 : Addr} {f : Addr} {cdv : Value} {A : Around} {outer : List Env} {s : Shared} {H : Hp} {E : XK} (hr : Room 4 (A.deeper (PyProof.Rows.envOfC "_law_done" (defScope s_law_done) s.heap.objs.size f cdv))) : QBB (cxOf CX0 P w K mg base ["_law_sheet", "_law_rows", "_law_deed_here", "_law_word", "_law_side", "_law_at", "_law_thing", "_law_row_here"] "_law_done" (defScope s_law_done) f cdv A outer s H E).nox [(0, .obj (.at_ a0) [3]), (1, .ownA a1)] [.obj (.at_ a0) [3], .ownA a1, .sh, .sh, .sh, .sh, .sh, .sh] [.obj (.at_ a0) [3], .ownA a1, .sh, .sh, .sh, .sh, .sh, .sh] [.obj (.at_ a0) [3], .ownA a1, .sh, .sh, .sh, .sh, .sh, .sh] (defBody s_law_done) p_law_done := by
  exact (qbb_cons (qbb_of (qs_asg (js := [3, 4, 5, 6]) (fun h1 h2 => ps_asg h1 h2) (qe_v 2 (pv 2)) (qg_tup (by rfl) (qgs_cons (xq_name (i := 3) (pg_name (i := 3) sc_law_done.nd rfl (by first | exact Or.inl rfl | exact Or.inr rfl))) (qgs_cons (xq_name (i := 4) (pg_name (i := 4) sc_law_done.nd rfl (by first | exact Or.inl rfl | exact Or.inr rfl))) (qgs_cons (xq_name (i := 5) (pg_name (i := 5) sc_law_done.nd rfl (by first | exact Or.inl rfl | exact Or.inr rfl))) (qgs_cons (xq_name (i := 6) (pg_name (i := 6) sc_law_done.nd rfl (by first | exact Or.inl rfl | exact Or.inr rfl))) qgs_nil)))) (ml_cons xmg_name (ml_cons xmg_name (ml_cons xmg_name (ml_cons xmg_name ml_nil)))))))
  (qbb_cons (qbb_of (xs_setG (i := 7) (fun h => ps_set (i := 7) sc_law_done.nd rfl (by first | exact Or.inl rfl | exact Or.inr rfl) h) (qe_imm (qe_dget (hu1 hr.units) (qe_v 1 (pv 1)) (qe_v 4 (pv 4))))))
  (qbb_cons (qbb_if (qt_eq (hr.units) (qe_v 3 (pv 3)) qe_str) (qbb_cons (qbb_of (xs_setDX (i := 1) (fun h1 h2 => ps_asg h1 (pg_sub (pv 1) h2 (set_dict (hu1 hr.units)))) (qe_add (qe_add (qe_sl (qe_v 7 (pv 7)) qo_none (qo_some (qe_v 5 (pv 5)))) (qe_v 6 (pv 6))) (qe_sl (qe_v 7 (pv 7)) (qo_some (qe_v 5 (pv 5))) qo_none)) (qe_v 4 (pv 4))))
  (qbb_one (qbb_retF (qf2_tup (qa2_cons (qf2_mthB (c := 6) m_Sheet_put (hr.mono (j := 4) (by decide)) 0 (pv 0) (qal_val (qe_v 4 (pv 4)) (qal_val (qe_v 5 (pv 5)) (qal_val (qe_v 6 (pv 6)) qal_nil)))) (qa2_cons (qf2_of (qe_add (qe_v 5 (pv 5)) (qe_cbS len_ok call_lenA T.f_len (by rfl) (by decide +kernel) (qa_cons (qe_v 6 (pv 6)) qa_nil)))) qa2_nil)))))) qbb_nil)
  (qbb_cons (qbb_if (qt_eq (hr.units) (qe_v 3 (pv 3)) qe_str) (qbb_cons (qbb_of (xs_setDX (i := 1) (fun h1 h2 => ps_asg h1 (pg_sub (pv 1) h2 (set_dict (hu1 hr.units)))) (qe_add (qe_sl (qe_v 7 (pv 7)) qo_none (qo_some (qe_v 5 (pv 5)))) (qe_sl (qe_v 7 (pv 7)) (qo_some (qe_add (qe_v 5 (pv 5)) (qe_v 6 (pv 6)))) qo_none)) (qe_v 4 (pv 4))))
  (qbb_one (qbb_retF (qf2_tup (qa2_cons (qf2_mthB (c := 6) m_Sheet_take (hr.mono (j := 4) (by decide)) 0 (pv 0) (qal_val (qe_v 4 (pv 4)) (qal_val (qe_v 5 (pv 5)) (qal_val (qe_v 6 (pv 6)) qal_nil)))) (qa2_cons (qf2_of (qe_v 5 (pv 5))) qa2_nil)))))) qbb_nil)
  (qbb_cons (qbb_of (xs_setDX (i := 1) (fun h1 h2 => ps_asg h1 (pg_sub (pv 1) h2 (set_dict (hu1 hr.units)))) (qe_add (qe_add (qe_sl (qe_v 7 (pv 7)) qo_none (qo_some (qe_v 5 (pv 5)))) (qe_v 6 (pv 6))) (qe_sl (qe_v 7 (pv 7)) (qo_some (qe_add (qe_v 5 (pv 5)) qe_int)) qo_none)) (qe_v 4 (pv 4))))
  (qbb_one (qbb_retF (qf2_tup (qa2_cons (qf2_mthB (c := 6) m_Sheet_turn (hr.mono (j := 4) (by decide)) 0 (pv 0) (qal_val (qe_v 4 (pv 4)) (qal_val (qe_v 5 (pv 5)) (qal_val (qe_v 6 (pv 6)) qal_nil)))) (qa2_cons (qf2_of (qe_add (qe_v 5 (pv 5)) qe_int)) qa2_nil))))))))))
theorem ok_law_done (T : Tx K mg) (m_Sheet_put : CalM P w K mg base "Sheet" "put" 4 ["self", "side", "at", "letters"] (spB [some (Lk.obj [3]), none, none, none] w_Sheet_put K) []) (m_Sheet_take : CalM P w K mg base "Sheet" "take" 4 ["self", "side", "at", "many"] (spB [some (Lk.obj [3]), none, none, none] w_Sheet_take K) []) (m_Sheet_turn : CalM P w K mg base "Sheet" "turn" 4 ["self", "side", "at", "letter"] (spB [some (Lk.obj [3]), none, none, none] w_Sheet_turn K) []) {f : Addr} {fd : FuncData} (F : FunD K "_law_done" "_law_done" (defArgs s_law_done) (defBody s_law_done) (defScope s_law_done) [] [] f fd) : FnOk P w K mg base CX0 5 f fd ["_law_sheet", "_law_rows", "_law_deed_here"] (spB [some (Lk.obj [3]), some Lk.own, none] w_law_done K) := by
  refine F.ok sc_law_done (fun vs H Q E h => len_B h) (fun cdv A outer s H vs Q E hr h => ?_)
  have hl := len_B h
  have hrf := refs_B h
  obtain ⟨u0, u1, u2, rfl⟩ : ∃ u0 u1 u2 : V, vs = [u0, u1, u2] := by
    match vs, hl with
    | [u0, u1, u2], _ => exact ⟨_, _, _, rfl⟩
  obtain ⟨a0, ea0⟩ := hrf 0 (Lk.obj [3]) rfl
  obtain ⟨a1, ea1⟩ := hrf 1 Lk.own rfl
  simp at ea0 ea1
  subst ea0 ea1
  have hq := q_law_done (P := P) (w := w) (base := base) (E := E) (H := H) (outer := outer) (a0 := a0) (a1 := a1) T m_Sheet_put m_Sheet_take m_Sheet_turn hr
  rw [e_law_done, xB_eq] at h
  obtain ⟨t, h1, h2⟩ := body_B (N := ["_law_sheet", "_law_rows", "_law_deed_here", "_law_word", "_law_side", "_law_at", "_law_thing", "_law_row_here"]) (ts := [some (Lk.obj [3]), some Lk.own, none]) (vs := [.ref a0, .ref a1, u2]) hq rfl (by
    intro j t e
    rcases j with _ | _ | _ | j
    all_goals first | (exfalso; simp at e; done) | (exfalso; cases e; done) | exact ⟨_, rfl, by simp [Lk.at_], rfl⟩) h
  exact ⟨t, PSs.nox h1, h2⟩
abbrev s_law_moved : Stmt := topS 49
theorem sc_law_moved : FnScope ["_law_deed_here", "_law_word", "_law_side", "_law_at", "_law_thing"] ["_law_deed_here"] (defScope s_law_moved) := ⟨rfl, rfl, rfl, by decide +kernel, rfl, by decide +kernel, by decide +kernel⟩
theorem q_law_moved (T : Tx K mg)  {f : Addr} {cdv : Value} {A : Around} {outer : List Env} {s : Shared} {H : Hp} {E : XK} (hr : Room 0 (A.deeper (PyProof.Rows.envOfC "_law_moved" (defScope s_law_moved) s.heap.objs.size f cdv))) : QB (cxOf CX0 P w K mg base ["_law_deed_here", "_law_word", "_law_side", "_law_at", "_law_thing"] "_law_moved" (defScope s_law_moved) f cdv A outer s H E).nox [.bor, .bor, .bor, .bor, .bor] [.bor, .bor, .bor, .bor, .bor] [.bor, .bor, .bor, .bor, .bor] (defBody s_law_moved) p_law_moved := by
  exact (qb_cons (qs_asg (js := [1, 2, 3, 4]) (fun h1 h2 => ps_asg h1 h2) (qe_v 0 (pv 0)) (qg_tup (by rfl) (qgs_cons (xq_name (i := 1) (pg_name (i := 1) sc_law_moved.nd rfl (by first | exact Or.inl rfl | exact Or.inr rfl))) (qgs_cons (xq_name (i := 2) (pg_name (i := 2) sc_law_moved.nd rfl (by first | exact Or.inl rfl | exact Or.inr rfl))) (qgs_cons (xq_name (i := 3) (pg_name (i := 3) sc_law_moved.nd rfl (by first | exact Or.inl rfl | exact Or.inr rfl))) (qgs_cons (xq_name (i := 4) (pg_name (i := 4) sc_law_moved.nd rfl (by first | exact Or.inl rfl | exact Or.inr rfl))) qgs_nil)))) (ml_cons xmg_name (ml_cons xmg_name (ml_cons xmg_name (ml_cons xmg_name ml_nil))))))
  (qb_cons (qs_if (qt_eq (hr.units) (qe_v 1 (pv 1)) qe_str) (qb_one (qs_ret (qe_cbS len_ok call_lenA T.f_len (by rfl) (by decide +kernel) (qa_cons (qe_v 4 (pv 4)) qa_nil)))) qb_nil)
  (qb_cons (qs_if (qt_eq (hr.units) (qe_v 1 (pv 1)) qe_str) (qb_one (qs_ret (qe_neg (qe_v 4 (pv 4))))) qb_nil)
  (qb_one (qs_ret qe_int)))))
theorem ok_law_moved (T : Tx K mg)  {f : Addr} {fd : FuncData} (F : FunD K "_law_moved" "_law_moved" (defArgs s_law_moved) (defBody s_law_moved) (defScope s_law_moved) [] [] f fd) : FnOk P w K mg base CX0 1 f fd ["_law_deed_here"] (spF 1 w_law_moved K) := by
  refine F.ok sc_law_moved (fun vs H Q E h => len_F h) (fun cdv A outer s H vs Q E hr h => ?_)
  have hq := q_law_moved (P := P) (w := w) (base := base) (E := E) (H := H) (outer := outer) T  hr
  rw [e_law_moved, xF_eq] at h
  obtain ⟨t, h1, h2⟩ := body_F (N := ["_law_deed_here", "_law_word", "_law_side", "_law_at", "_law_thing"]) (n := 1) hq rfl (by decide) h
  exact ⟨t, PSs.nox h1, h2⟩
abbrev s_law_stay : Stmt := topS 50
theorem sc_law_stay : FnScope ["_law_elder", "_law_table_here", "_law_side", "_law_number", "_law_moved_here", "_law_at", "_law_to"] ["_law_elder", "_law_table_here", "_law_side", "_law_number", "_law_moved_here"] (defScope s_law_stay) := ⟨rfl, rfl, rfl, by decide +kernel, rfl, by decide +kernel, by decide +kernel⟩
theorem q_law_stay (T : Tx K mg)  {f : Addr} {cdv : Value} {A : Around} {outer : List Env} {s : Shared} {H : Hp} {E : XK} (hr : Room 0 (A.deeper (PyProof.Rows.envOfC "_law_stay" (defScope s_law_stay) s.heap.objs.size f cdv))) : QB (cxOf CX0 P w K mg base ["_law_elder", "_law_table_here", "_law_side", "_law_number", "_law_moved_here", "_law_at", "_law_to"] "_law_stay" (defScope s_law_stay) f cdv A outer s H E).nox [.bor, .bor, .bor, .bor, .bor, .sh, .sh] [.bor, .bor, .bor, .bor, .bor, .sh, .sh] [.bor, .bor, .bor, .bor, .bor, .sh, .sh] (defBody s_law_stay) p_law_stay := by
  exact (qb_cons (qs_locked2 1 0 (yq_for (qs_for (js := [5, 6]) (fun h1 h2 h3 => ps_for PassesOwn.never rfl h1 h2 h3) (qi_keysZ 1 (pv 1)) (qg_tup (by rfl) (qgs_cons (xq_name (i := 5) (pg_name (i := 5) sc_law_stay.nd rfl (by first | exact Or.inl rfl | exact Or.inr rfl))) (qgs_cons (xq_name (i := 6) (pg_name (i := 6) sc_law_stay.nd rfl (by first | exact Or.inl rfl | exact Or.inr rfl))) qgs_nil)) (ml_cons xmg_name (ml_cons xmg_name ml_nil))) (qb_cons (qs_if (qt_w (qw_and (qt_eq (hr.units) (qe_v 2 (pv 2)) qe_str) (qw_and (qt_ge  (qe_v 5 (pv 5)) (qe_v 3 (pv 3))) (qw_and1 (qt_ne (hr.units) (qe_dgetZ 1 (hu1 hr.units) (pv 1) (qa_cons (qe_v 5 (pv 5)) (qa_cons (qe_v 6 (pv 6)) qa_nil))) (qe_dgetT (hu1 hr.units) (qe_v 0 (pv 0)) (qa_cons (qe_sub (qe_v 5 (pv 5)) (qe_v 4 (pv 4))) (qa_cons (qe_v 6 (pv 6)) qa_nil)))))))) (qb_one (qs_ret qe_bl)) qb_nil)
  (qb_one (qs_if (qt_w (qw_and (qt_eq (hr.units) (qe_v 2 (pv 2)) qe_str) (qw_and (qt_ge  (qe_v 6 (pv 6)) (qe_v 3 (pv 3))) (qw_and1 (qt_ne (hr.units) (qe_dgetZ 1 (hu1 hr.units) (pv 1) (qa_cons (qe_v 5 (pv 5)) (qa_cons (qe_v 6 (pv 6)) qa_nil))) (qe_dgetT (hu1 hr.units) (qe_v 0 (pv 0)) (qa_cons (qe_v 5 (pv 5)) (qa_cons (qe_sub (qe_v 6 (pv 6)) (qe_v 4 (pv 4))) qa_nil)))))))) (qb_one (qs_ret qe_bl)) qb_nil))))) (yq_for (qs_for (js := [5, 6]) (fun h1 h2 h3 => ps_for PassesOwn.never rfl h1 h2 h3) (qi_keysZ 1 (pv 1)) (qg_tup (by rfl) (qgs_cons (xq_name (i := 5) (pg_name (i := 5) sc_law_stay.nd rfl (by first | exact Or.inl rfl | exact Or.inr rfl))) (qgs_cons (xq_name (i := 6) (pg_name (i := 6) sc_law_stay.nd rfl (by first | exact Or.inl rfl | exact Or.inr rfl))) qgs_nil)) (ml_cons xmg_name (ml_cons xmg_name ml_nil))) (qb_cons (qs_if (qt_w (qw_and (qt_eq (hr.units) (qe_v 2 (pv 2)) qe_str) (qw_and (qt_ge  (qe_v 5 (pv 5)) (qe_v 3 (pv 3))) (qw_and1 (qt_ne (hr.units) (qe_dgetZ 1 (hu1 hr.units) (pv 1) (qa_cons (qe_v 5 (pv 5)) (qa_cons (qe_v 6 (pv 6)) qa_nil))) (qe_dgetZ 0 (hu1 hr.units) (pv 0) (qa_cons (qe_sub (qe_v 5 (pv 5)) (qe_v 4 (pv 4))) (qa_cons (qe_v 6 (pv 6)) qa_nil)))))))) (qb_one (qs_ret qe_bl)) qb_nil)
  (qb_one (qs_if (qt_w (qw_and (qt_eq (hr.units) (qe_v 2 (pv 2)) qe_str) (qw_and (qt_ge  (qe_v 6 (pv 6)) (qe_v 3 (pv 3))) (qw_and1 (qt_ne (hr.units) (qe_dgetZ 1 (hu1 hr.units) (pv 1) (qa_cons (qe_v 5 (pv 5)) (qa_cons (qe_v 6 (pv 6)) qa_nil))) (qe_dgetZ 0 (hu1 hr.units) (pv 0) (qa_cons (qe_v 5 (pv 5)) (qa_cons (qe_sub (qe_v 6 (pv 6)) (qe_v 4 (pv 4))) qa_nil)))))))) (qb_one (qs_ret qe_bl)) qb_nil))))) (by first | exact Or.inl rfl | exact Or.inr rfl) rfl)
  (qb_one (qs_ret qe_bl)))
theorem ok_law_stay (T : Tx K mg)  {f : Addr} {fd : FuncData} (F : FunD K "_law_stay" "_law_stay" (defArgs s_law_stay) (defBody s_law_stay) (defScope s_law_stay) [] [] f fd) : FnOk P w K mg base CX0 1 f fd ["_law_elder", "_law_table_here", "_law_side", "_law_number", "_law_moved_here"] (spF 5 w_law_stay K) := by
  refine F.ok sc_law_stay (fun vs H Q E h => len_F h) (fun cdv A outer s H vs Q E hr h => ?_)
  have hq := q_law_stay (P := P) (w := w) (base := base) (E := E) (H := H) (outer := outer) T  hr
  rw [e_law_stay, xF_eq] at h
  obtain ⟨t, h1, h2⟩ := body_F (N := ["_law_elder", "_law_table_here", "_law_side", "_law_number", "_law_moved_here", "_law_at", "_law_to"]) (n := 5) hq rfl (by decide) h
  exact ⟨t, PSs.nox h1, h2⟩
abbrev s_law_bag : Stmt := topS 38
theorem sc_law_bag : FnScope ["_law_script", "_law_cell"] ["_law_script"] (defScope s_law_bag) := ⟨rfl, rfl, rfl, by decide +kernel, rfl, by decide +kernel, by decide +kernel⟩
abbrev s_law : Stmt := topS 51
theorem sc_law : FnScope ["_law_script", "_law_bag_here", "_law_scale_here", "_law_letters_here", "_law_most", "_law_rows", "_law_sheet", "_law_k", "_law_elder", "_law_deed_here", "_law_number", "_law_due", "_law_table_here", "_law_afresh", "_law_other"] ["_law_script"] (defScope s_law) := ⟨rfl, rfl, rfl, by decide +kernel, rfl, by decide +kernel, by decide +kernel⟩
end
section
variable {P : Program} {w : World} {K : Vl.Fg} {mg : Str → Option Value} {base : Heap}
theorem td_law_take (T : Tx K mg) {f : Addr} {cdv : Value} {A : Around} {outer : List Env} {s : Shared} {H : Hp} {E : XK} (hr : Room 0 (A.deeper (PyProof.Rows.envOfC "_law_take" (defScope s_law_take) s.heap.objs.size f cdv))) : PSs (cxOf CX0 P w K mg base ["_law_bag_here", "_law_many", "_law_cell", "_law_value", "_law_first", "_law_second"] "_law_take" (defScope s_law_take) f cdv A outer s H E).nox (defBody s_law_take) (t_take K) := by
  exact (pss_cons (ps_if (pt_cmpR (op_eqA hr.units) (pe_ix ix_seq (pv 0) pe_int (fun _ _ => rfl)) pe_int (nomark _)) (pss_cons (ps_set (i := 2) sc_law_take.nd rfl (by first | exact Or.inl rfl | exact Or.inr rfl) pe_int)
  (pss_cons (ps_if (pt_cmpR op_ltA (pe_ix ix_seq (pv 0) pe_int (fun _ _ => rfl)) (pe_callB call_lenA (by rfl) T.f_len (by decide +kernel) (pa_cons (pe_ix ix_seq (pv 0) pe_int (fun _ _ => rfl)) pa_nil)) (nomark _)) (pss_one (ps_set (i := 2) sc_law_take.nd rfl (by first | exact Or.inl rfl | exact Or.inr rfl) (pe_ix ix_seq (pe_ix ix_seq (pv 0) pe_int (fun _ _ => rfl)) (pe_ix ix_seq (pv 0) pe_int (fun _ _ => rfl)) (fun _ _ => rfl)))) pss_nil)
  (pss_cons (ps_augS (pv 0) pe_int get_list pe_int ip_addA set_list)
  (pss_cons (ps_if (pt_cmpR op_geA (pv 2) pe_int (nomark _)) (pss_one (ps_asg (pv 2) (pg_sub (pv 0) pe_int set_list))) pss_nil)
  (pss_one (ps_asg (pe_op op_modA (pe_op op_addA (pe_op op_addA (pe_op op_mulA (pe_ix ix_seq (pv 0) pe_int (fun _ _ => rfl)) pe_int) (pe_op op_modA (pv 2) pe_int)) (pe_op op_mulA pe_int (pe_ix ix_seq (pv 0) pe_int (fun _ _ => rfl)))) pe_int) (pg_sub (pv 0) pe_int set_list))))))) pss_nil)
  (pss_cons (ps_if (pt_cmpR op_gtA (pe_ix ix_seq (pv 0) pe_int (fun _ _ => rfl)) pe_int (nomark _)) (pss_cons (ps_set (i := 3) sc_law_take.nd rfl (by first | exact Or.inl rfl | exact Or.inr rfl) (pe_op op_modA (pe_ix ix_seq (pv 0) pe_int (fun _ _ => rfl)) (pv 1)))
  (pss_cons (ps_asg (pe_op op_divA (pe_ix ix_seq (pv 0) pe_int (fun _ _ => rfl)) (pv 1)) (pg_sub (pv 0) pe_int set_list)) (pss_one (ps_ret (pv 3))))) pss_nil)
  (pss_cons (ps_set (i := 4) sc_law_take.nd rfl (by first | exact Or.inl rfl | exact Or.inr rfl) (pe_op op_modA (pe_op op_mulA (pe_op op_addA (pe_ix ix_seq (pv 0) pe_int (fun _ _ => rfl)) pe_int) pe_int) pe_int))
  (pss_cons (ps_set (i := 5) sc_law_take.nd rfl (by first | exact Or.inl rfl | exact Or.inr rfl) (pe_op op_modA (pe_op op_mulA (pe_op op_modA (pe_op op_mulA (pv 4) (pv 4)) pe_int) pe_int) pe_int))
  (pss_cons (ps_if (pt_cmpR op_gtA (pv 1) pe_int (nomark _)) (pss_one (ps_ret (pe_op op_modA (pe_op op_addA (pe_op op_mulA (pv 5) pe_int) (pv 4)) (pv 1)))) pss_nil)
  (pss_one (ps_ret (pe_op op_modA (pe_op op_divA (pv 5) pe_int) (pv 1)))))))))
theorem ok_law_take (T : Tx K mg) {f : Addr} {fd : FuncData} (F : FunD K "_law_take" "_law_take" (defArgs s_law_take) (defBody s_law_take) (defScope s_law_take) [] [] f fd) : FnOk P w K mg base CX0 1 f fd ["_law_bag_here", "_law_many"] (spF 2 w_law_take K) := by
  refine F.ok sc_law_take (fun vs H Q E h => len_F h) (fun cdv A outer s H vs Q E hr h => ?_)
  exact ⟨_, PSs.nox (td_law_take T hr), pure_take h⟩
theorem td_law_bag (T : Tx K mg) {f : Addr} {cdv : Value} {A : Around} {outer : List Env} {s : Shared} {H : Hp} {E : XK} (hr : Room 0 (A.deeper (PyProof.Rows.envOfC "_law_bag" (defScope s_law_bag) s.heap.objs.size f cdv))) : PSs (cxOf CX0 P w K mg base ["_law_script", "_law_cell"] "_law_bag" (defScope s_law_bag) f cdv A outer s H E).nox (defBody s_law_bag) (t_bag K) := by
  exact (pss_one (ps_ret (pe_lst (pa_cons pe_int (pa_cons pe_int (pa_cons pe_int (pa_cons (pe_lc (own := [("_law_cell", 1)]) (by rfl) sc_law_bag.nd (pi_list (pe_slice sl_list (pv 0) po_none (po_some pe_int))) (blkOk_by (own := [("_law_cell", 1)]) (by kernel_rfl)) (fun _ _ _ _ _ => pg_name (i := 1) sc_law_bag.nd rfl (by first | exact Or.inl rfl | exact Or.inr rfl)) (fun _ _ _ _ _ => by exact pts_nil) (fun _ _ _ _ _ => by exact pe_callB call_absA (by rfl) T.f_abs (by decide +kernel) (pa_cons (pv 1) pa_nil))) pa_nil)))))))
theorem ok_law_bag (T : Tx K mg) {f : Addr} {fd : FuncData} (F : FunD K "_law_bag" "_law_bag" (defArgs s_law_bag) (defBody s_law_bag) (defScope s_law_bag) [] [] f fd) : FnOk P w K mg base CX0 1 f fd ["_law_script"] (spBag K) := by
  refine F.ok sc_law_bag (fun vs H Q E h => by obtain ⟨_, _, rfl, _⟩ := h; rfl) (fun cdv A outer s H vs Q E hr h => ?_)
  exact ⟨_, PSs.nox (td_law_bag T hr), pure_bag h⟩
theorem q_law (T : Tx K mg) (c_law_scale : Cal P w K mg base "_law_scale" 7 ["_law_bag_here"] (spF 1 w_law_scale K) []) (c_law_take : Cal P w K mg base "_law_take" 1 ["_law_bag_here", "_law_many"] (spF 2 w_law_take K) []) (c_law_row : Cal P w K mg base "_law_row" 2 ["_law_bag_here", "_law_letters_here", "_law_most"] (spF 3 w_law_row K) []) (ci_Sheet : CalI P w K mg base "Sheet" 3 ["self", "over", "under", "scale"] (spIB 6 3 [3] w_Sheet_init K) []) (c_law_table : Cal P w K mg base "_law_table" 7 ["_law_sheet", "_law_rows"] (spB [some (Lk.obj [3]), some Lk.own] w_law_table K) []) (c_law_deed : Cal P w K mg base "_law_deed" 2 ["_law_bag_here", "_law_rows", "_law_letters_here", "_law_most"] (spF 4 w_law_deed K) []) (c_law_done : Cal P w K mg base "_law_done" 5 ["_law_sheet", "_law_rows", "_law_deed_here"] (spB [some (Lk.obj [3]), some Lk.own, none] w_law_done K) []) (c_law_moved : Cal P w K mg base "_law_moved" 1 ["_law_deed_here"] (spF 1 w_law_moved K) []) (c_law_stay : Cal P w K mg base "_law_stay" 1 ["_law_elder", "_law_table_here", "_law_side", "_law_number", "_law_moved_here"] (spF 5 w_law_stay K) []) (c_law_bag : Cal P w K mg base "_law_bag" 1 ["_law_script"] (spBag K) []) {f : Addr} {cdv : Value} {A : Around} {outer : List Env} {s : Shared} {H : Hp} {E : XK} (hr : Room 7 (A.deeper (PyProof.Rows.envOfC "law" (defScope s_law) s.heap.objs.size f cdv))) : QB (cxOf CX0 P w K mg base ["_law_script", "_law_bag_here", "_law_scale_here", "_law_letters_here", "_law_most", "_law_rows", "_law_sheet", "_law_k", "_law_elder", "_law_deed_here", "_law_number", "_law_due", "_law_table_here", "_law_afresh", "_law_other"] "law" (defScope s_law) f cdv A outer s H E).nox [.bor, .sh, .sh, .sh, .sh, .own, .obj .any [3], .sh, .sh, .sh, .sh, .sh, .sh, .sh, .sh] [.bor, .sh, .sh, .sh, .sh, .own, .obj .any [3], .sh, .sh, .sh, .sh, .sh, .sh, .sh, .sh] [.bor, .sh, .sh, .sh, .sh, .own, .obj .any [3], .sh, .sh, .sh, .sh, .sh, .sh, .sh, .sh] (defBody s_law).tail p_law := by
  exact (qb_cons (qs_asg (js := [2, 3]) (fun h1 h2 => ps_asg h1 h2) (qe_calF c_law_scale dfl_nil (hr.mono (j := 7) (by decide)) (by rfl) (qa_cons (qe_v 1 (pv 1)) qa_nil)) (qg_tup (by rfl) (qgs_cons (xq_name (i := 2) (pg_name (i := 2) sc_law.nd rfl (by first | exact Or.inl rfl | exact Or.inr rfl))) (qgs_cons (xq_name (i := 3) (pg_name (i := 3) sc_law.nd rfl (by first | exact Or.inl rfl | exact Or.inr rfl))) qgs_nil)) (ml_cons xmg_name (ml_cons xmg_name ml_nil))))
  (qb_cons (xs_setG (i := 4) (fun h => ps_set (i := 4) sc_law.nd rfl (by first | exact Or.inl rfl | exact Or.inr rfl) h) (qe_ix (qe_lst (qa_cons qe_int (qa_cons qe_int qa_nil))) (qe_ctS int_ok call_int1A T.f_int (by rfl) (by decide +kernel) (qa_cons (qe_eq (hr.units) (qe_calF c_law_take dfl_nil (hr.mono (j := 1) (by decide)) (by rfl) (qa_cons (qe_v 1 (pv 1)) (qa_cons qe_int qa_nil))) qe_int) qa_nil))))
  (qb_cons (xs_setN (i := 5) (fun h => ps_set (i := 5) sc_law.nd rfl (by first | exact Or.inl rfl | exact Or.inr rfl) h) (qn_dict (.cons (qe_calF c_law_row dfl_nil (hr.mono (j := 2) (by decide)) (by rfl) (qa_cons (qe_v 1 (pv 1)) (qa_cons (qe_v 3 (pv 3)) (qa_cons (qe_v 4 (pv 4)) qa_nil)))) (.cons (qe_calF c_law_row dfl_nil (hr.mono (j := 2) (by decide)) (by rfl) (qa_cons (qe_v 1 (pv 1)) (qa_cons (qe_v 3 (pv 3)) (qa_cons (qe_v 4 (pv 4)) qa_nil)))) .nil))))
  (qb_cons (xs_setNO (i := 6) (fun h => ps_set (i := 6) sc_law.nd rfl (by first | exact Or.inl rfl | exact Or.inr rfl) h) (qno_mk (c := 6) ci_Sheet dfl_nil (hr.mono (j := 4) (by decide)) (by rfl) (qa_cons (qe_imm (qe_dget (hu1 hr.units) (qe_v 5 (pv 5)) qe_str)) (qa_cons (qe_imm (qe_dget (hu1 hr.units) (qe_v 5 (pv 5)) qe_str)) (qa_cons (qe_v 2 (pv 2)) qa_nil)))))
  (qb_cons (yq_for (qs_for (js := [7]) (fun h1 h2 h3 => ps_for PassesOwn.never rfl h1 h2 h3) (qi_rng (by rfl) T.f_range (qe_add qe_int (qe_calF c_law_take dfl_nil (hr.mono (j := 1) (by decide)) (by rfl) (qa_cons (qe_v 1 (pv 1)) (qa_cons qe_int qa_nil))))) (xq_name (i := 7) (pg_name (i := 7) sc_law.nd rfl (by first | exact Or.inl rfl | exact Or.inr rfl))) (qb_cons (xs_setF2 (i := 8) (fun h => ps_set (i := 8) sc_law.nd rfl (by first | exact Or.inl rfl | exact Or.inr rfl) h) (qf2_calB c_law_table (hr.mono (j := 7) (by decide)) (by rfl) (qal_lend 6 (pv 6) (qal_lend 5 (pv 5) qal_nil))))
  (qb_cons (xs_setG (i := 9) (fun h => ps_set (i := 9) sc_law.nd rfl (by first | exact Or.inl rfl | exact Or.inr rfl) h) (qe_calF c_law_deed dfl_nil (hr.mono (j := 2) (by decide)) (by rfl) (qa_cons (qe_v 1 (pv 1)) (qa_cons (qe_v 5 (pv 5)) (qa_cons (qe_v 3 (pv 3)) (qa_cons (qe_v 4 (pv 4)) qa_nil))))))
  (qb_cons (qs_asgF2 (js := [10, 11]) (fun h1 h2 => ps_asg h1 h2) (qf2_calB c_law_done (hr.mono (j := 5) (by decide)) (by rfl) (qal_lend 6 (pv 6) (qal_lend 5 (pv 5) (qal_val (qe_v 9 (pv 9)) qal_nil)))) (qg_tup (by rfl) (qgs_cons (xq_name (i := 10) (pg_name (i := 10) sc_law.nd rfl (by first | exact Or.inl rfl | exact Or.inr rfl))) (qgs_cons (xq_name (i := 11) (pg_name (i := 11) sc_law.nd rfl (by first | exact Or.inl rfl | exact Or.inr rfl))) qgs_nil)) (ml_cons xmg_name (ml_cons xmg_name ml_nil))))
  (qb_cons (qs_if (qt_ne (hr.units) (qe_v 10 (pv 10)) (qe_v 11 (pv 11))) (qb_one (qs_ret qe_bl)) qb_nil)
  (qb_cons (xs_setF2 (i := 12) (fun h => ps_set (i := 12) sc_law.nd rfl (by first | exact Or.inl rfl | exact Or.inr rfl) h) (qf2_calB c_law_table (hr.mono (j := 7) (by decide)) (by rfl) (qal_lend 6 (pv 6) (qal_lend 5 (pv 5) qal_nil))))
  (qb_cons (xs_setF2 (i := 13) (fun h => ps_set (i := 13) sc_law.nd rfl (by first | exact Or.inl rfl | exact Or.inr rfl) h) (qf2_calBn c_law_table (hr.mono (j := 7) (by decide)) (by rfl) (qno_mk (c := 6) ci_Sheet dfl_nil (hr.mono (j := 4) (by decide)) (by rfl) (qa_cons (qe_imm (qe_dget (hu1 hr.units) (qe_v 5 (pv 5)) qe_str)) (qa_cons (qe_imm (qe_dget (hu1 hr.units) (qe_v 5 (pv 5)) qe_str)) (qa_cons (qe_v 2 (pv 2)) qa_nil)))) (qal_lend 5 (pv 5) qal_nil)))
  (qb_one (yq_for (qs_for (js := [14]) (fun h1 h2 h3 => ps_for PassesOwn.never rfl h1 h2 h3) (qi_lst (qe_lst (qa_cons (qe_v 12 (pv 12)) (qa_cons (qe_v 13 (pv 13)) qa_nil)))) (xq_name (i := 14) (pg_name (i := 14) sc_law.nd rfl (by first | exact Or.inl rfl | exact Or.inr rfl))) (qb_one (qs_if (qt_not (qt_tru (qe_calF c_law_stay dfl_nil (hr.mono (j := 1) (by decide)) (by rfl) (qa_cons (qe_v 8 (pv 8)) (qa_cons (qe_v 14 (pv 14)) (qa_cons (qe_ix (qe_v 9 (pv 9)) qe_int) (qa_cons (qe_v 10 (pv 10)) (qa_cons (qe_calF c_law_moved dfl_nil (hr.mono (j := 1) (by decide)) (by rfl) (qa_cons (qe_v 9 (pv 9)) qa_nil)) qa_nil)))))))) (qb_one (qs_ret qe_bl)) qb_nil)))))))))))))
  (qb_one (qs_ret qe_bl)))))))
theorem ok_law (hp : p_law lawD (lawG 15)) (T : Tx K mg) (c_law_scale : Cal P w K mg base "_law_scale" 7 ["_law_bag_here"] (spF 1 w_law_scale K) []) (c_law_take : Cal P w K mg base "_law_take" 1 ["_law_bag_here", "_law_many"] (spF 2 w_law_take K) []) (c_law_row : Cal P w K mg base "_law_row" 2 ["_law_bag_here", "_law_letters_here", "_law_most"] (spF 3 w_law_row K) []) (ci_Sheet : CalI P w K mg base "Sheet" 3 ["self", "over", "under", "scale"] (spIB 6 3 [3] w_Sheet_init K) []) (c_law_table : Cal P w K mg base "_law_table" 7 ["_law_sheet", "_law_rows"] (spB [some (Lk.obj [3]), some Lk.own] w_law_table K) []) (c_law_deed : Cal P w K mg base "_law_deed" 2 ["_law_bag_here", "_law_rows", "_law_letters_here", "_law_most"] (spF 4 w_law_deed K) []) (c_law_done : Cal P w K mg base "_law_done" 5 ["_law_sheet", "_law_rows", "_law_deed_here"] (spB [some (Lk.obj [3]), some Lk.own, none] w_law_done K) []) (c_law_moved : Cal P w K mg base "_law_moved" 1 ["_law_deed_here"] (spF 1 w_law_moved K) []) (c_law_stay : Cal P w K mg base "_law_stay" 1 ["_law_elder", "_law_table_here", "_law_side", "_law_number", "_law_moved_here"] (spF 5 w_law_stay K) []) (c_law_bag : Cal P w K mg base "_law_bag" 1 ["_law_script"] (spBag K) []) {f : Addr} {fd : FuncData} (F : FunD K "law" "law" (defArgs s_law) (defBody s_law) (defScope s_law) [] [] f fd) : FnOk P w K mg base CX0 8 f fd ["_law_script"] (spLaw K) := by
  refine F.ok sc_law (fun vs H Q E h => by obtain ⟨_, _, rfl, _⟩ := h; rfl) (fun cdv A outer s H vs Q E hr h => ?_)
  have hq := q_law (P := P) (w := w) (base := base) (E := E) (H := H) (outer := outer) T c_law_scale c_law_take c_law_row ci_Sheet c_law_table c_law_deed c_law_done c_law_moved c_law_stay c_law_bag hr
  obtain ⟨t, h1, h2⟩ := body_law (N := ["_law_script", "_law_bag_here", "_law_scale_here", "_law_letters_here", "_law_most", "_law_rows", "_law_sheet", "_law_k", "_law_elder", "_law_deed_here", "_law_number", "_law_due", "_law_table_here", "_law_afresh", "_law_other"]) (ps_set (i := 1) sc_law.nd rfl (by first | exact Or.inl rfl | exact Or.inr rfl) (pe_cal c_law_bag (hr.mono (j := 1) (by decide)) (by rfl) (pa_cons (pv 0) pa_nil))) hq rfl (by decide) hp h
  exact ⟨t, PSs.nox h1, h2⟩
end
def dd_law_take : He.DefD := ⟨("_law_take", none), "_law_take", "_law_take", defArgs s_law_take, defBody s_law_take, defScope s_law_take, [], []⟩
def dd_law_letters : He.DefD := ⟨("_law_letters", none), "_law_letters", "_law_letters", defArgs s_law_letters, defBody s_law_letters, defScope s_law_letters, [], []⟩
def dd_law_worth : He.DefD := ⟨("_law_worth", none), "_law_worth", "_law_worth", defArgs s_law_worth, defBody s_law_worth, defScope s_law_worth, [], []⟩
def dd_law_worths : He.DefD := ⟨("_law_worths", none), "_law_worths", "_law_worths", defArgs s_law_worths, defBody s_law_worths, defScope s_law_worths, [], []⟩
def dd_law_price : He.DefD := ⟨("_law_price", none), "_law_price", "_law_price", defArgs s_law_price, defBody s_law_price, defScope s_law_price, [], []⟩
def dd_is_text_of : He.DefD := ⟨("is_text_of", none), "is_text_of", "is_text_of", defArgs s_is_text_of, defBody s_is_text_of, defScope s_is_text_of, [], []⟩
def dd_are_letters : He.DefD := ⟨("are_letters", none), "are_letters", "are_letters", defArgs s_are_letters, defBody s_are_letters, defScope s_are_letters, [], []⟩
def dd_is_whole : He.DefD := ⟨("is_whole", none), "is_whole", "is_whole", defArgs s_is_whole, defBody s_is_whole, defScope s_is_whole, [], []⟩
def dd_is_between : He.DefD := ⟨("is_between", none), "is_between", "is_between", defArgs s_is_between, defBody s_is_between, defScope s_is_between, [], []⟩
def dd_is_worth : He.DefD := ⟨("is_worth", none), "is_worth", "is_worth", defArgs s_is_worth, defBody s_is_worth, defScope s_is_worth, [], []⟩
def dd_are_worths : He.DefD := ⟨("are_worths", none), "are_worths", "are_worths", defArgs s_are_worths, defBody s_are_worths, defScope s_are_worths, [], []⟩
def dd_is_price : He.DefD := ⟨("is_price", none), "is_price", "is_price", defArgs s_is_price, defBody s_is_price, defScope s_is_price, [], []⟩
def dd_Scale_init : He.DefD := ⟨("Scale", some "__init__"), "__init__", "Scale.__init__", defArgs s_Scale_init, defBody s_Scale_init, defScope s_Scale_init, [], [("opening", .int 3), ("each", .int 1)]⟩
def dd_law_scale : He.DefD := ⟨("_law_scale", none), "_law_scale", "_law_scale", defArgs s_law_scale, defBody s_law_scale, defScope s_law_scale, [], []⟩
def dd_law_row : He.DefD := ⟨("_law_row", none), "_law_row", "_law_row", defArgs s_law_row, defBody s_law_row, defScope s_law_row, [], []⟩
def dd_is_row : He.DefD := ⟨("is_row", none), "is_row", "is_row", defArgs s_is_row, defBody s_is_row, defScope s_is_row, [], []⟩
def dd_Scale_letters : He.DefD := ⟨("Scale", some "letters"), "letters", "Scale.letters", defArgs s_Scale_letters, defBody s_Scale_letters, defScope s_Scale_letters, [], []⟩
def dd_need_letters : He.DefD := ⟨("need_letters", none), "need_letters", "need_letters", defArgs s_need_letters, defBody s_need_letters, defScope s_need_letters, [], []⟩
def dd_Sheet_init : He.DefD := ⟨("Sheet", some "__init__"), "__init__", "Sheet.__init__", defArgs s_Sheet_init, defBody s_Sheet_init, defScope s_Sheet_init, [], []⟩
def dd_is_place : He.DefD := ⟨("is_place", none), "is_place", "is_place", defArgs s_is_place, defBody s_is_place, defScope s_is_place, [], []⟩
def dd_need_place : He.DefD := ⟨("need_place", none), "need_place", "need_place", defArgs s_need_place, defBody s_need_place, defScope s_need_place, [], []⟩
def dd_is_step : He.DefD := ⟨("is_step", none), "is_step", "is_step", defArgs s_is_step, defBody s_is_step, defScope s_is_step, [], []⟩
def dd_Scale_each : He.DefD := ⟨("Scale", some "each"), "each", "Scale.each", defArgs s_Scale_each, defBody s_Scale_each, defScope s_Scale_each, [], []⟩
def dd_is_letter : He.DefD := ⟨("is_letter", none), "is_letter", "is_letter", defArgs s_is_letter, defBody s_is_letter, defScope s_is_letter, [], []⟩
def dd_Scale_worth_of : He.DefD := ⟨("Scale", some "worth_of"), "worth_of", "Scale.worth_of", defArgs s_Scale_worth_of, defBody s_Scale_worth_of, defScope s_Scale_worth_of, [], []⟩
def dd_Scale_opening : He.DefD := ⟨("Scale", some "opening"), "opening", "Scale.opening", defArgs s_Scale_opening, defBody s_Scale_opening, defScope s_Scale_opening, [], []⟩
def dd_Sheet_numbers_left : He.DefD := ⟨("Sheet", some "numbers_left"), "numbers_left", "Sheet.numbers_left", defArgs s_Sheet_numbers_left, defBody s_Sheet_numbers_left, defScope s_Sheet_numbers_left, [], []⟩
def dd_Sheet_learn : He.DefD := ⟨("Sheet", some "learn"), "learn", "Sheet.learn", defArgs s_Sheet_learn, defBody s_Sheet_learn, defScope s_Sheet_learn, [], []⟩
def dd_Sheet_bound : He.DefD := ⟨("Sheet", some "bound"), "bound", "Sheet.bound", defArgs s_Sheet_bound, defBody s_Sheet_bound, defScope s_Sheet_bound, [], []⟩
def dd_law_table : He.DefD := ⟨("_law_table", none), "_law_table", "_law_table", defArgs s_law_table, defBody s_law_table, defScope s_law_table, [], []⟩
def dd_law_deed : He.DefD := ⟨("_law_deed", none), "_law_deed", "_law_deed", defArgs s_law_deed, defBody s_law_deed, defScope s_law_deed, [], []⟩
def dd_is_side : He.DefD := ⟨("is_side", none), "is_side", "is_side", defArgs s_is_side, defBody s_is_side, defScope s_is_side, [], []⟩
def dd_need_side : He.DefD := ⟨("need_side", none), "need_side", "need_side", defArgs s_need_side, defBody s_need_side, defScope s_need_side, [], []⟩
def dd_Sheet_row : He.DefD := ⟨("Sheet", some "row"), "row", "Sheet.row", defArgs s_Sheet_row, defBody s_Sheet_row, defScope s_Sheet_row, [], []⟩
def dd_Sheet_changed_row : He.DefD := ⟨("Sheet", some "changed_row"), "changed_row", "Sheet.changed_row", defArgs s_Sheet_changed_row, defBody s_Sheet_changed_row, defScope s_Sheet_changed_row, [], []⟩
def dd_Sheet_put : He.DefD := ⟨("Sheet", some "put"), "put", "Sheet.put", defArgs s_Sheet_put, defBody s_Sheet_put, defScope s_Sheet_put, [], []⟩
def dd_Sheet_take : He.DefD := ⟨("Sheet", some "take"), "take", "Sheet.take", defArgs s_Sheet_take, defBody s_Sheet_take, defScope s_Sheet_take, [], []⟩
def dd_Sheet_turn : He.DefD := ⟨("Sheet", some "turn"), "turn", "Sheet.turn", defArgs s_Sheet_turn, defBody s_Sheet_turn, defScope s_Sheet_turn, [], []⟩
def dd_law_done : He.DefD := ⟨("_law_done", none), "_law_done", "_law_done", defArgs s_law_done, defBody s_law_done, defScope s_law_done, [], []⟩
def dd_law_moved : He.DefD := ⟨("_law_moved", none), "_law_moved", "_law_moved", defArgs s_law_moved, defBody s_law_moved, defScope s_law_moved, [], []⟩
def dd_law_stay : He.DefD := ⟨("_law_stay", none), "_law_stay", "_law_stay", defArgs s_law_stay, defBody s_law_stay, defScope s_law_stay, [], []⟩
def dd_law_bag : He.DefD := ⟨("_law_bag", none), "_law_bag", "_law_bag", defArgs s_law_bag, defBody s_law_bag, defScope s_law_bag, [], []⟩
def dd_law : He.DefD := ⟨("law", none), "law", "law", defArgs s_law, defBody s_law, defScope s_law, [], []⟩
def fn : List He.DefD := [dd_law_take, dd_law_letters, dd_law_worth, dd_law_worths, dd_law_price, dd_is_text_of, dd_are_letters, dd_is_whole, dd_is_between, dd_is_worth, dd_are_worths, dd_is_price, dd_Scale_init, dd_law_scale, dd_law_row, dd_is_row, dd_Scale_letters, dd_need_letters, dd_Sheet_init, dd_is_place, dd_need_place, dd_is_step, dd_Scale_each, dd_is_letter, dd_Scale_worth_of, dd_Scale_opening, dd_Sheet_numbers_left, dd_Sheet_learn, dd_Sheet_bound, dd_law_table, dd_law_deed, dd_is_side, dd_need_side, dd_Sheet_row, dd_Sheet_changed_row, dd_Sheet_put, dd_Sheet_take, dd_Sheet_turn, dd_law_done, dd_law_moved, dd_law_stay, dd_law_bag, dd_law]
def fa : List He.Fa := [.noat "Scale" "by_two", .noat "Scale" "kept_each", .noat "Scale" "kept_letters", .noat "Scale" "kept_opening", .noat "Sheet" "all_known", .noat "Sheet" "known", .noat "Sheet" "over_row", .noat "Sheet" "ruled", .noat "Sheet" "under_row", .cls "Scale", .cls "Sheet", .free "abs", .free "all", .free "bool", .free "enumerate", .free "int", .free "isinstance", .free "len", .free "list", .free "max", .free "min", .free "range", .free "str", .free "tuple", .glo "Scale", .glo "_law_take", .glo "_law_letters", .glo "_law_worth", .glo "_law_worths", .glo "_law_price", .glo "is_text_of", .glo "are_letters", .glo "is_whole", .glo "is_between", .glo "is_worth", .glo "are_worths", .glo "is_price", .mkr "Scale", .glo "_law_scale", .glo "_law_row", .glo "is_row", .meth "Scale" "letters", .glo "need_letters", .glo "Sheet", .mkr "Sheet", .glo "is_place", .glo "need_place", .glo "is_step", .meth "Scale" "each", .glo "is_letter", .meth "Scale" "worth_of", .meth "Scale" "opening", .meth "Sheet" "numbers_left", .meth "Sheet" "learn", .meth "Sheet" "bound", .glo "_law_table", .glo "_law_deed", .glo "is_side", .glo "need_side", .meth "Sheet" "row", .meth "Sheet" "changed_row", .meth "Sheet" "put", .meth "Sheet" "take", .meth "Sheet" "turn", .glo "_law_done", .glo "_law_moved", .glo "_law_stay", .glo "_law_bag", .glo "law"]
def exl : List (Vl.Fg → Bool) := [fun K => gvB K "COMES" (.tup [(.str "b"), (.str "o"), (.str "u")]), fun K => gvB K "LETTERS" (.str "abcdefghijklmnopqrstuvwxyz"), fun K => gvB K "LONGEST_ROW" (.int 40), fun K => gvB K "MOST_LETTERS" (.int 8), fun K => gvB K "MOST_WORTH" (.int 1000000), fun K => gvB K "SIDES" (.tup [(.str "over"), (.str "under")]), fun K => gvB K "STEPS" (.str "bou"), fun K => insB K "Scale"]
abbrev R : PySem.W.OpenRow := PySem.W.OpenLaw.row PySem.Challenge.rw_laybeside_k73_lines_stay
abbrev hk : PySem.W.Hook := He.hookX 4 fa fn [] [] (fun K => exl.all fun f => f K)
def ob (s : PySem.W.SharedT) : He.AlX := He.obsX 4 fa fn [] [] (fun K => exl.all fun f => f K) (HandSHeadRun.getT s)
theorem ob_eq (s : PySem.W.SharedT) : ob s = hk.obs s.abs := He.obsX_eq (HandSHeadRun.getT_eq s)
def nm0 : List PySem.Str := ["_wall", "LayError", "Wrong", "NoLetter", "NoPlace", "TooLong", "MOST_WORTH", "LONGEST_ROW", "LETTERS", "STEPS", "SIDES", "is_whole", "is_between", "is_text_of", "is_worth", "is_price", "is_letter", "is_row", "is_step", "is_side", "OPENING", "EACH", "MOST_LETTERS", "are_letters", "are_worths", "Scale", "is_place", "need_letters", "COMES", "need_side"]
def nm1 : List PySem.Str := ["need_place", "Sheet", "_law_bag", "_law_take", "_law_letters", "_law_worth", "_law_price", "_law_worths", "_law_scale", "_law_row", "_law_deed", "_law_done", "_law_table", "_law_moved", "_law_stay"]
abbrev loose : List PySem.Str := nm0 ++ nm1
theorem run (w : World) : HandSHeadRun.RunEq R (PySem.W.view R.prog [51]) hk ob 200000 loose w := by
  intro os
  kernel_rfl
section
variable {P : Program} {w : World} {K : Vl.Fg} {h : Heap} {mg : Str → Option Value}
theorem tx (X : K.In h) (G : h.Ns mainGlobals mg) (c : He.SaysX fa fn [] [] (fun K => exl.all fun f => f K) w h K) : Tx K mg :=
  ⟨He.noat_ok (c.t.d.fact 0 rfl),
   He.noat_ok (c.t.d.fact 1 rfl),
   He.noat_ok (c.t.d.fact 2 rfl),
   He.noat_ok (c.t.d.fact 3 rfl),
   He.noat_ok (c.t.d.fact 4 rfl),
   He.noat_ok (c.t.d.fact 5 rfl),
   He.noat_ok (c.t.d.fact 6 rfl),
   He.noat_ok (c.t.d.fact 7 rfl),
   He.noat_ok (c.t.d.fact 8 rfl),
   He.cls_ok (c.t.d.fact 9 rfl),
   He.cls_ok (c.t.d.fact 10 rfl),
   He.free_ok X G (c.t.d.fact 11 rfl),
   He.free_ok X G (c.t.d.fact 12 rfl),
   He.free_ok X G (c.t.d.fact 13 rfl),
   He.free_ok X G (c.t.d.fact 14 rfl),
   He.free_ok X G (c.t.d.fact 15 rfl),
   He.free_ok X G (c.t.d.fact 16 rfl),
   He.free_ok X G (c.t.d.fact 17 rfl),
   He.free_ok X G (c.t.d.fact 18 rfl),
   He.free_ok X G (c.t.d.fact 19 rfl),
   He.free_ok X G (c.t.d.fact 20 rfl),
   He.free_ok X G (c.t.d.fact 21 rfl),
   He.free_ok X G (c.t.d.fact 22 rfl),
   He.free_ok X G (c.t.d.fact 23 rfl),
   gvB_ok X G (all_at 0 c.more rfl),
   gvB_ok X G (all_at 1 c.more rfl),
   gvB_ok X G (all_at 2 c.more rfl),
   gvB_ok X G (all_at 3 c.more rfl),
   gvB_ok X G (all_at 4 c.more rfl),
   gvB_ok X G (all_at 5 c.more rfl),
   gvB_ok X G (all_at 6 c.more rfl),
   insB_ok (all_at 7 c.more rfl),
   He.glo_ok X G (c.t.d.fact 24 rfl)⟩
theorem facts {f : Addr} (X : K.In h) (G : h.Ns mainGlobals mg) (hp : p_law lawD (lawG 15)) (hfa : mg ("law" : Str) = some (.ref f)) (c : He.SaysX fa fn [] [] (fun K => exl.all fun f => f K) w h K) :
    ∃ fd : FuncData, (∀ (s : Shared) (v : Value), BindsTo s fd ⟨[v], []⟩ [("_law_script", v)]) ∧ ∀ base : Heap, K.In base → base.Ns mainGlobals mg → FnOk P w K mg base CX0 8 f fd ["_law_script"] (spLaw K) := by
  have T := tx X G c
  obtain ⟨fd_law, F_law⟩ := c.t.d.def_ 42 (d := dd_law) rfl
  have e := hfa.symm.trans (He.glo_ok X G (c.t.d.fact 68 rfl))
  cases e
  have b := FunD.bindsA (ps := ["_law_script"]) F_law fun _ _ _ _ _ _ us hl => match us, hl with | [_], _ => rfl
  refine ⟨fd_law, fun s v => b s [v] rfl, fun base _ _ => ?_⟩
  obtain ⟨fd_law_take, F_law_take⟩ := c.t.d.def_ 0 (d := dd_law_take) rfl
  have o_law_take := ok_law_take (P := P) (w := w) (base := base) T  F_law_take
  have c_law_take : Cal P w K mg base "_law_take" 1 ["_law_bag_here", "_law_many"] (spF 2 w_law_take K) [] := ⟨fd_law_take, [], o_law_take, (F_law_take.bindsN fun _ _ _ _ _ _ us hl => match us, hl with | [_, _], _ => rfl), .nil, He.glo_ok X G (c.t.d.fact 25 rfl), F_law_take.kp⟩
  obtain ⟨fd_law_letters, F_law_letters⟩ := c.t.d.def_ 1 (d := dd_law_letters) rfl
  have o_law_letters := ok_law_letters (P := P) (w := w) (base := base) T c_law_take F_law_letters
  have c_law_letters : Cal P w K mg base "_law_letters" 2 ["_law_bag_here", "_law_most"] (spF 2 w_law_letters K) [] := ⟨fd_law_letters, [], o_law_letters, (F_law_letters.bindsN fun _ _ _ _ _ _ us hl => match us, hl with | [_, _], _ => rfl), .nil, He.glo_ok X G (c.t.d.fact 26 rfl), F_law_letters.kp⟩
  obtain ⟨fd_law_worth, F_law_worth⟩ := c.t.d.def_ 2 (d := dd_law_worth) rfl
  have o_law_worth := ok_law_worth (P := P) (w := w) (base := base) T c_law_take F_law_worth
  have c_law_worth : Cal P w K mg base "_law_worth" 2 ["_law_bag_here"] (spF 1 w_law_worth K) [] := ⟨fd_law_worth, [], o_law_worth, (F_law_worth.bindsN fun _ _ _ _ _ _ us hl => match us, hl with | [_], _ => rfl), .nil, He.glo_ok X G (c.t.d.fact 27 rfl), F_law_worth.kp⟩
  obtain ⟨fd_law_worths, F_law_worths⟩ := c.t.d.def_ 3 (d := dd_law_worths) rfl
  have o_law_worths := ok_law_worths (P := P) (w := w) (base := base) T c_law_worth F_law_worths
  have c_law_worths : Cal P w K mg base "_law_worths" 3 ["_law_bag_here", "_law_many"] (spF 2 w_law_worths K) [] := ⟨fd_law_worths, [], o_law_worths, (F_law_worths.bindsN fun _ _ _ _ _ _ us hl => match us, hl with | [_, _], _ => rfl), .nil, He.glo_ok X G (c.t.d.fact 28 rfl), F_law_worths.kp⟩
  obtain ⟨fd_law_price, F_law_price⟩ := c.t.d.def_ 4 (d := dd_law_price) rfl
  have o_law_price := ok_law_price (P := P) (w := w) (base := base) T c_law_take F_law_price
  have c_law_price : Cal P w K mg base "_law_price" 2 ["_law_bag_here"] (spF 1 w_law_price K) [] := ⟨fd_law_price, [], o_law_price, (F_law_price.bindsN fun _ _ _ _ _ _ us hl => match us, hl with | [_], _ => rfl), .nil, He.glo_ok X G (c.t.d.fact 29 rfl), F_law_price.kp⟩
  obtain ⟨fd_is_text_of, F_is_text_of⟩ := c.t.d.def_ 5 (d := dd_is_text_of) rfl
  have o_is_text_of := ok_is_text_of (P := P) (w := w) (base := base) T  F_is_text_of
  have c_is_text_of : Cal P w K mg base "is_text_of" 1 ["thing", "signs", "least", "most"] (spF 4 w_is_text_of K) [] := ⟨fd_is_text_of, [], o_is_text_of, (F_is_text_of.bindsN fun _ _ _ _ _ _ us hl => match us, hl with | [_, _, _, _], _ => rfl), .nil, He.glo_ok X G (c.t.d.fact 30 rfl), F_is_text_of.kp⟩
  obtain ⟨fd_are_letters, F_are_letters⟩ := c.t.d.def_ 6 (d := dd_are_letters) rfl
  have o_are_letters := ok_are_letters (P := P) (w := w) (base := base) T c_is_text_of F_are_letters
  have c_are_letters : Cal P w K mg base "are_letters" 2 ["thing"] (spF 1 w_are_letters K) [] := ⟨fd_are_letters, [], o_are_letters, (F_are_letters.bindsN fun _ _ _ _ _ _ us hl => match us, hl with | [_], _ => rfl), .nil, He.glo_ok X G (c.t.d.fact 31 rfl), F_are_letters.kp⟩
  obtain ⟨fd_is_whole, F_is_whole⟩ := c.t.d.def_ 7 (d := dd_is_whole) rfl
  have o_is_whole := ok_is_whole (P := P) (w := w) (base := base) T  F_is_whole
  have c_is_whole : Cal P w K mg base "is_whole" 1 ["thing"] (spF 1 w_is_whole K) [] := ⟨fd_is_whole, [], o_is_whole, (F_is_whole.bindsN fun _ _ _ _ _ _ us hl => match us, hl with | [_], _ => rfl), .nil, He.glo_ok X G (c.t.d.fact 32 rfl), F_is_whole.kp⟩
  obtain ⟨fd_is_between, F_is_between⟩ := c.t.d.def_ 8 (d := dd_is_between) rfl
  have o_is_between := ok_is_between (P := P) (w := w) (base := base) T c_is_whole F_is_between
  have c_is_between : Cal P w K mg base "is_between" 2 ["thing", "low", "high"] (spF 3 w_is_between K) [] := ⟨fd_is_between, [], o_is_between, (F_is_between.bindsN fun _ _ _ _ _ _ us hl => match us, hl with | [_, _, _], _ => rfl), .nil, He.glo_ok X G (c.t.d.fact 33 rfl), F_is_between.kp⟩
  obtain ⟨fd_is_worth, F_is_worth⟩ := c.t.d.def_ 9 (d := dd_is_worth) rfl
  have o_is_worth := ok_is_worth (P := P) (w := w) (base := base) T c_is_between F_is_worth
  have c_is_worth : Cal P w K mg base "is_worth" 3 ["thing"] (spF 1 w_is_worth K) [] := ⟨fd_is_worth, [], o_is_worth, (F_is_worth.bindsN fun _ _ _ _ _ _ us hl => match us, hl with | [_], _ => rfl), .nil, He.glo_ok X G (c.t.d.fact 34 rfl), F_is_worth.kp⟩
  obtain ⟨fd_are_worths, F_are_worths⟩ := c.t.d.def_ 10 (d := dd_are_worths) rfl
  have o_are_worths := ok_are_worths (P := P) (w := w) (base := base) T c_is_worth F_are_worths
  have c_are_worths : Cal P w K mg base "are_worths" 4 ["thing", "many"] (spF 2 w_are_worths K) [] := ⟨fd_are_worths, [], o_are_worths, (F_are_worths.bindsN fun _ _ _ _ _ _ us hl => match us, hl with | [_, _], _ => rfl), .nil, He.glo_ok X G (c.t.d.fact 35 rfl), F_are_worths.kp⟩
  obtain ⟨fd_is_price, F_is_price⟩ := c.t.d.def_ 11 (d := dd_is_price) rfl
  have o_is_price := ok_is_price (P := P) (w := w) (base := base) T c_is_between F_is_price
  have c_is_price : Cal P w K mg base "is_price" 3 ["thing"] (spF 1 w_is_price K) [] := ⟨fd_is_price, [], o_is_price, (F_is_price.bindsN fun _ _ _ _ _ _ us hl => match us, hl with | [_], _ => rfl), .nil, He.glo_ok X G (c.t.d.fact 36 rfl), F_is_price.kp⟩
  obtain ⟨fd_Scale_init, F_Scale_init⟩ := c.t.d.def_ 12 (d := dd_Scale_init) rfl
  have o_Scale_init := ok_Scale_init (P := P) (w := w) (base := base) T c_are_letters c_are_worths c_is_price F_Scale_init
  obtain ⟨mv_Scale_init, kb_Scale_init⟩ := F_Scale_init.kbinds0 (ps := ["self", "letters", "worths", "opening", "each"]) 3 ["opening", "each"] [] (fun us _ ws => us ++ ws) (by simp [dd_Scale_init, He.DefD.kws]) (by simp) (fun r1 _ r3 => r1.append r3) fun D doc pm an cdv ct us mv ws h1 h2 h3 => match us, mv, ws, h1, h2, h3 with | [_, _, _], [], [_, _], _, _, _ => rfl
  have cik_Scale : CalIK P w K mg base "Scale" 5 ["self", "letters", "worths", "opening", "each"] (spIF 0 4 w_Scale_init K) 2 ["opening", "each"] (fun vs zs => vs ++ zs) := ⟨fd_Scale_init, _, _, o_Scale_init, kb_Scale_init, He.mkr_ok (c.t.d.fact 37 rfl), He.glo_ok X G (c.t.d.fact 24 rfl)⟩
  obtain ⟨fd_law_scale, F_law_scale⟩ := c.t.d.def_ 13 (d := dd_law_scale) rfl
  have o_law_scale := ok_law_scale (P := P) (w := w) (base := base) T c_law_letters c_law_worths c_law_take c_law_price cik_Scale F_law_scale
  have c_law_scale : Cal P w K mg base "_law_scale" 7 ["_law_bag_here"] (spF 1 w_law_scale K) [] := ⟨fd_law_scale, [], o_law_scale, (F_law_scale.bindsN fun _ _ _ _ _ _ us hl => match us, hl with | [_], _ => rfl), .nil, He.glo_ok X G (c.t.d.fact 38 rfl), F_law_scale.kp⟩
  obtain ⟨fd_law_row, F_law_row⟩ := c.t.d.def_ 14 (d := dd_law_row) rfl
  have o_law_row := ok_law_row (P := P) (w := w) (base := base) T c_law_take F_law_row
  have c_law_row : Cal P w K mg base "_law_row" 2 ["_law_bag_here", "_law_letters_here", "_law_most"] (spF 3 w_law_row K) [] := ⟨fd_law_row, [], o_law_row, (F_law_row.bindsN fun _ _ _ _ _ _ us hl => match us, hl with | [_, _, _], _ => rfl), .nil, He.glo_ok X G (c.t.d.fact 39 rfl), F_law_row.kp⟩
  obtain ⟨fd_is_row, F_is_row⟩ := c.t.d.def_ 15 (d := dd_is_row) rfl
  have o_is_row := ok_is_row (P := P) (w := w) (base := base) T c_is_text_of F_is_row
  have c_is_row : Cal P w K mg base "is_row" 2 ["thing"] (spF 1 w_is_row K) [] := ⟨fd_is_row, [], o_is_row, (F_is_row.bindsN fun _ _ _ _ _ _ us hl => match us, hl with | [_], _ => rfl), .nil, He.glo_ok X G (c.t.d.fact 40 rfl), F_is_row.kp⟩
  obtain ⟨fd_Scale_letters, F_Scale_letters⟩ := c.t.d.def_ 16 (d := dd_Scale_letters) rfl
  have o_Scale_letters := ok_Scale_letters (P := P) (w := w) (base := base) T  F_Scale_letters
  have m_Scale_letters : CalM P w K mg base "Scale" "letters" 1 ["self"] (spF 1 w_Scale_letters K) [] := ⟨fd_Scale_letters, [], _, o_Scale_letters, (F_Scale_letters.bindsN fun _ _ _ _ _ _ us hl => match us, hl with | [_], _ => rfl), .nil, He.meth_ok (c.t.d.fact 41 rfl), He.cls_ok (c.t.d.fact 9 rfl)⟩
  obtain ⟨fd_need_letters, F_need_letters⟩ := c.t.d.def_ 17 (d := dd_need_letters) rfl
  have o_need_letters := ok_need_letters (P := P) (w := w) (base := base) T m_Scale_letters F_need_letters
  have c_need_letters : Cal P w K mg base "need_letters" 2 ["row", "scale"] (spF 2 w_need_letters K) [] := ⟨fd_need_letters, [], o_need_letters, (F_need_letters.bindsN fun _ _ _ _ _ _ us hl => match us, hl with | [_, _], _ => rfl), .nil, He.glo_ok X G (c.t.d.fact 42 rfl), F_need_letters.kp⟩
  obtain ⟨fd_Sheet_init, F_Sheet_init⟩ := c.t.d.def_ 18 (d := dd_Sheet_init) rfl
  have o_Sheet_init := ok_Sheet_init (P := P) (w := w) (base := base) T c_is_row c_need_letters F_Sheet_init
  have ci_Sheet : CalI P w K mg base "Sheet" 3 ["self", "over", "under", "scale"] (spIB 6 3 [3] w_Sheet_init K) [] := ⟨fd_Sheet_init, [], _, o_Sheet_init, (F_Sheet_init.bindsN fun _ _ _ _ _ _ us hl => match us, hl with | [_, _, _, _], _ => rfl), .nil, He.mkr_ok (c.t.d.fact 44 rfl), He.glo_ok X G (c.t.d.fact 43 rfl)⟩
  obtain ⟨fd_is_place, F_is_place⟩ := c.t.d.def_ 19 (d := dd_is_place) rfl
  have o_is_place := ok_is_place (P := P) (w := w) (base := base) T c_is_whole F_is_place
  have c_is_place : Cal P w K mg base "is_place" 2 ["thing"] (spF 1 w_is_place K) [] := ⟨fd_is_place, [], o_is_place, (F_is_place.bindsN fun _ _ _ _ _ _ us hl => match us, hl with | [_], _ => rfl), .nil, He.glo_ok X G (c.t.d.fact 45 rfl), F_is_place.kp⟩
  obtain ⟨fd_need_place, F_need_place⟩ := c.t.d.def_ 20 (d := dd_need_place) rfl
  have o_need_place := ok_need_place (P := P) (w := w) (base := base) T c_is_place F_need_place
  have c_need_place : Cal P w K mg base "need_place" 3 ["at", "thing"] (spF 2 w_need_place K) [] := ⟨fd_need_place, [], o_need_place, (F_need_place.bindsN fun _ _ _ _ _ _ us hl => match us, hl with | [_, _], _ => rfl), .nil, He.glo_ok X G (c.t.d.fact 46 rfl), F_need_place.kp⟩
  obtain ⟨fd_is_step, F_is_step⟩ := c.t.d.def_ 21 (d := dd_is_step) rfl
  have o_is_step := ok_is_step (P := P) (w := w) (base := base) T c_is_text_of F_is_step
  have c_is_step : Cal P w K mg base "is_step" 2 ["thing"] (spF 1 w_is_step K) [] := ⟨fd_is_step, [], o_is_step, (F_is_step.bindsN fun _ _ _ _ _ _ us hl => match us, hl with | [_], _ => rfl), .nil, He.glo_ok X G (c.t.d.fact 47 rfl), F_is_step.kp⟩
  obtain ⟨fd_Scale_each, F_Scale_each⟩ := c.t.d.def_ 22 (d := dd_Scale_each) rfl
  have o_Scale_each := ok_Scale_each (P := P) (w := w) (base := base) T  F_Scale_each
  have m_Scale_each : CalM P w K mg base "Scale" "each" 1 ["self"] (spF 1 w_Scale_each K) [] := ⟨fd_Scale_each, [], _, o_Scale_each, (F_Scale_each.bindsN fun _ _ _ _ _ _ us hl => match us, hl with | [_], _ => rfl), .nil, He.meth_ok (c.t.d.fact 48 rfl), He.cls_ok (c.t.d.fact 9 rfl)⟩
  obtain ⟨fd_is_letter, F_is_letter⟩ := c.t.d.def_ 23 (d := dd_is_letter) rfl
  have o_is_letter := ok_is_letter (P := P) (w := w) (base := base) T c_is_text_of F_is_letter
  have c_is_letter : Cal P w K mg base "is_letter" 2 ["thing"] (spF 1 w_is_letter K) [] := ⟨fd_is_letter, [], o_is_letter, (F_is_letter.bindsN fun _ _ _ _ _ _ us hl => match us, hl with | [_], _ => rfl), .nil, He.glo_ok X G (c.t.d.fact 49 rfl), F_is_letter.kp⟩
  obtain ⟨fd_Scale_worth_of, F_Scale_worth_of⟩ := c.t.d.def_ 24 (d := dd_Scale_worth_of) rfl
  have o_Scale_worth_of := ok_Scale_worth_of (P := P) (w := w) (base := base) T c_is_letter F_Scale_worth_of
  have m_Scale_worth_of : CalM P w K mg base "Scale" "worth_of" 3 ["self", "one", "other"] (spF 3 w_Scale_worth_of K) [] := ⟨fd_Scale_worth_of, [], _, o_Scale_worth_of, (F_Scale_worth_of.bindsN fun _ _ _ _ _ _ us hl => match us, hl with | [_, _, _], _ => rfl), .nil, He.meth_ok (c.t.d.fact 50 rfl), He.cls_ok (c.t.d.fact 9 rfl)⟩
  obtain ⟨fd_Scale_opening, F_Scale_opening⟩ := c.t.d.def_ 25 (d := dd_Scale_opening) rfl
  have o_Scale_opening := ok_Scale_opening (P := P) (w := w) (base := base) T  F_Scale_opening
  have m_Scale_opening : CalM P w K mg base "Scale" "opening" 1 ["self"] (spF 1 w_Scale_opening K) [] := ⟨fd_Scale_opening, [], _, o_Scale_opening, (F_Scale_opening.bindsN fun _ _ _ _ _ _ us hl => match us, hl with | [_], _ => rfl), .nil, He.meth_ok (c.t.d.fact 51 rfl), He.cls_ok (c.t.d.fact 9 rfl)⟩
  obtain ⟨fd_Sheet_numbers_left, F_Sheet_numbers_left⟩ := c.t.d.def_ 26 (d := dd_Sheet_numbers_left) rfl
  have o_Sheet_numbers_left := ok_Sheet_numbers_left (P := P) (w := w) (base := base) T m_Scale_each m_Scale_worth_of m_Scale_opening F_Sheet_numbers_left
  have m_Sheet_numbers_left : CalM P w K mg base "Sheet" "numbers_left" 4 ["self", "left_over", "left_under", "come"] (spF 4 w_Sheet_numbers_left K) [] := ⟨fd_Sheet_numbers_left, [], _, o_Sheet_numbers_left, (F_Sheet_numbers_left.bindsN fun _ _ _ _ _ _ us hl => match us, hl with | [_, _, _, _], _ => rfl), .nil, He.meth_ok (c.t.d.fact 52 rfl), He.cls_ok (c.t.d.fact 10 rfl)⟩
  obtain ⟨fd_Sheet_learn, F_Sheet_learn⟩ := c.t.d.def_ 27 (d := dd_Sheet_learn) rfl
  have o_Sheet_learn := ok_Sheet_learn (P := P) (w := w) (base := base) T m_Sheet_numbers_left F_Sheet_learn
  have m_Sheet_learn : CalM P w K mg base "Sheet" "learn" 5 ["self"] (spB [some (Lk.obj [3])] w_Sheet_learn K) [] := ⟨fd_Sheet_learn, [], _, o_Sheet_learn, (F_Sheet_learn.bindsN fun _ _ _ _ _ _ us hl => match us, hl with | [_], _ => rfl), .nil, He.meth_ok (c.t.d.fact 53 rfl), He.cls_ok (c.t.d.fact 10 rfl)⟩
  obtain ⟨fd_Sheet_bound, F_Sheet_bound⟩ := c.t.d.def_ 28 (d := dd_Sheet_bound) rfl
  have o_Sheet_bound := ok_Sheet_bound (P := P) (w := w) (base := base) T c_need_place c_is_step m_Sheet_learn F_Sheet_bound
  have m_Sheet_bound : CalM P w K mg base "Sheet" "bound" 6 ["self", "at", "to", "step"] (spB [some (Lk.obj [3]), none, none, none] w_Sheet_bound K) [] := ⟨fd_Sheet_bound, [], _, o_Sheet_bound, (F_Sheet_bound.bindsN fun _ _ _ _ _ _ us hl => match us, hl with | [_, _, _, _], _ => rfl), .nil, He.meth_ok (c.t.d.fact 54 rfl), He.cls_ok (c.t.d.fact 10 rfl)⟩
  obtain ⟨fd_law_table, F_law_table⟩ := c.t.d.def_ 29 (d := dd_law_table) rfl
  have o_law_table := ok_law_table (P := P) (w := w) (base := base) T m_Sheet_bound F_law_table
  have c_law_table : Cal P w K mg base "_law_table" 7 ["_law_sheet", "_law_rows"] (spB [some (Lk.obj [3]), some Lk.own] w_law_table K) [] := ⟨fd_law_table, [], o_law_table, (F_law_table.bindsN fun _ _ _ _ _ _ us hl => match us, hl with | [_, _], _ => rfl), .nil, He.glo_ok X G (c.t.d.fact 55 rfl), F_law_table.kp⟩
  obtain ⟨fd_law_deed, F_law_deed⟩ := c.t.d.def_ 30 (d := dd_law_deed) rfl
  have o_law_deed := ok_law_deed (P := P) (w := w) (base := base) T c_law_take F_law_deed
  have c_law_deed : Cal P w K mg base "_law_deed" 2 ["_law_bag_here", "_law_rows", "_law_letters_here", "_law_most"] (spF 4 w_law_deed K) [] := ⟨fd_law_deed, [], o_law_deed, (F_law_deed.bindsN fun _ _ _ _ _ _ us hl => match us, hl with | [_, _, _, _], _ => rfl), .nil, He.glo_ok X G (c.t.d.fact 56 rfl), F_law_deed.kp⟩
  obtain ⟨fd_is_side, F_is_side⟩ := c.t.d.def_ 31 (d := dd_is_side) rfl
  have o_is_side := ok_is_side (P := P) (w := w) (base := base) T  F_is_side
  have c_is_side : Cal P w K mg base "is_side" 1 ["thing"] (spF 1 w_is_side K) [] := ⟨fd_is_side, [], o_is_side, (F_is_side.bindsN fun _ _ _ _ _ _ us hl => match us, hl with | [_], _ => rfl), .nil, He.glo_ok X G (c.t.d.fact 57 rfl), F_is_side.kp⟩
  obtain ⟨fd_need_side, F_need_side⟩ := c.t.d.def_ 32 (d := dd_need_side) rfl
  have o_need_side := ok_need_side (P := P) (w := w) (base := base) T c_is_side F_need_side
  have c_need_side : Cal P w K mg base "need_side" 2 ["thing"] (spF 1 w_need_side K) [] := ⟨fd_need_side, [], o_need_side, (F_need_side.bindsN fun _ _ _ _ _ _ us hl => match us, hl with | [_], _ => rfl), .nil, He.glo_ok X G (c.t.d.fact 58 rfl), F_need_side.kp⟩
  obtain ⟨fd_Sheet_row, F_Sheet_row⟩ := c.t.d.def_ 33 (d := dd_Sheet_row) rfl
  have o_Sheet_row := ok_Sheet_row (P := P) (w := w) (base := base) T c_need_side F_Sheet_row
  have m_Sheet_row : CalM P w K mg base "Sheet" "row" 3 ["self", "side"] (spF 2 w_Sheet_row K) [] := ⟨fd_Sheet_row, [], _, o_Sheet_row, (F_Sheet_row.bindsN fun _ _ _ _ _ _ us hl => match us, hl with | [_, _], _ => rfl), .nil, He.meth_ok (c.t.d.fact 59 rfl), He.cls_ok (c.t.d.fact 10 rfl)⟩
  obtain ⟨fd_Sheet_changed_row, F_Sheet_changed_row⟩ := c.t.d.def_ 34 (d := dd_Sheet_changed_row) rfl
  have o_Sheet_changed_row := ok_Sheet_changed_row (P := P) (w := w) (base := base) T  F_Sheet_changed_row
  have m_Sheet_changed_row : CalM P w K mg base "Sheet" "changed_row" 1 ["self", "side", "row", "still"] (spB [some (Lk.obj [3]), none, none, none] w_Sheet_changed_row K) [] := ⟨fd_Sheet_changed_row, [], _, o_Sheet_changed_row, (F_Sheet_changed_row.bindsN fun _ _ _ _ _ _ us hl => match us, hl with | [_, _, _, _], _ => rfl), .nil, He.meth_ok (c.t.d.fact 60 rfl), He.cls_ok (c.t.d.fact 10 rfl)⟩
  obtain ⟨fd_Sheet_put, F_Sheet_put⟩ := c.t.d.def_ 35 (d := dd_Sheet_put) rfl
  have o_Sheet_put := ok_Sheet_put (P := P) (w := w) (base := base) T c_need_side c_need_place c_is_row m_Sheet_row c_need_letters m_Sheet_changed_row F_Sheet_put
  have m_Sheet_put : CalM P w K mg base "Sheet" "put" 4 ["self", "side", "at", "letters"] (spB [some (Lk.obj [3]), none, none, none] w_Sheet_put K) [] := ⟨fd_Sheet_put, [], _, o_Sheet_put, (F_Sheet_put.bindsN fun _ _ _ _ _ _ us hl => match us, hl with | [_, _, _, _], _ => rfl), .nil, He.meth_ok (c.t.d.fact 61 rfl), He.cls_ok (c.t.d.fact 10 rfl)⟩
  obtain ⟨fd_Sheet_take, F_Sheet_take⟩ := c.t.d.def_ 36 (d := dd_Sheet_take) rfl
  have o_Sheet_take := ok_Sheet_take (P := P) (w := w) (base := base) T c_need_side c_need_place c_is_between m_Sheet_row m_Sheet_changed_row F_Sheet_take
  have m_Sheet_take : CalM P w K mg base "Sheet" "take" 4 ["self", "side", "at", "many"] (spB [some (Lk.obj [3]), none, none, none] w_Sheet_take K) [] := ⟨fd_Sheet_take, [], _, o_Sheet_take, (F_Sheet_take.bindsN fun _ _ _ _ _ _ us hl => match us, hl with | [_, _, _, _], _ => rfl), .nil, He.meth_ok (c.t.d.fact 62 rfl), He.cls_ok (c.t.d.fact 10 rfl)⟩
  obtain ⟨fd_Sheet_turn, F_Sheet_turn⟩ := c.t.d.def_ 37 (d := dd_Sheet_turn) rfl
  have o_Sheet_turn := ok_Sheet_turn (P := P) (w := w) (base := base) T c_need_side c_need_place c_is_letter m_Sheet_row c_need_letters m_Sheet_changed_row F_Sheet_turn
  have m_Sheet_turn : CalM P w K mg base "Sheet" "turn" 4 ["self", "side", "at", "letter"] (spB [some (Lk.obj [3]), none, none, none] w_Sheet_turn K) [] := ⟨fd_Sheet_turn, [], _, o_Sheet_turn, (F_Sheet_turn.bindsN fun _ _ _ _ _ _ us hl => match us, hl with | [_, _, _, _], _ => rfl), .nil, He.meth_ok (c.t.d.fact 63 rfl), He.cls_ok (c.t.d.fact 10 rfl)⟩
  obtain ⟨fd_law_done, F_law_done⟩ := c.t.d.def_ 38 (d := dd_law_done) rfl
  have o_law_done := ok_law_done (P := P) (w := w) (base := base) T m_Sheet_put m_Sheet_take m_Sheet_turn F_law_done
  have c_law_done : Cal P w K mg base "_law_done" 5 ["_law_sheet", "_law_rows", "_law_deed_here"] (spB [some (Lk.obj [3]), some Lk.own, none] w_law_done K) [] := ⟨fd_law_done, [], o_law_done, (F_law_done.bindsN fun _ _ _ _ _ _ us hl => match us, hl with | [_, _, _], _ => rfl), .nil, He.glo_ok X G (c.t.d.fact 64 rfl), F_law_done.kp⟩
  obtain ⟨fd_law_moved, F_law_moved⟩ := c.t.d.def_ 39 (d := dd_law_moved) rfl
  have o_law_moved := ok_law_moved (P := P) (w := w) (base := base) T  F_law_moved
  have c_law_moved : Cal P w K mg base "_law_moved" 1 ["_law_deed_here"] (spF 1 w_law_moved K) [] := ⟨fd_law_moved, [], o_law_moved, (F_law_moved.bindsN fun _ _ _ _ _ _ us hl => match us, hl with | [_], _ => rfl), .nil, He.glo_ok X G (c.t.d.fact 65 rfl), F_law_moved.kp⟩
  obtain ⟨fd_law_stay, F_law_stay⟩ := c.t.d.def_ 40 (d := dd_law_stay) rfl
  have o_law_stay := ok_law_stay (P := P) (w := w) (base := base) T  F_law_stay
  have c_law_stay : Cal P w K mg base "_law_stay" 1 ["_law_elder", "_law_table_here", "_law_side", "_law_number", "_law_moved_here"] (spF 5 w_law_stay K) [] := ⟨fd_law_stay, [], o_law_stay, (F_law_stay.bindsN fun _ _ _ _ _ _ us hl => match us, hl with | [_, _, _, _, _], _ => rfl), .nil, He.glo_ok X G (c.t.d.fact 66 rfl), F_law_stay.kp⟩
  obtain ⟨fd_law_bag, F_law_bag⟩ := c.t.d.def_ 41 (d := dd_law_bag) rfl
  have o_law_bag := ok_law_bag (P := P) (w := w) (base := base) T  F_law_bag
  have c_law_bag : Cal P w K mg base "_law_bag" 1 ["_law_script"] (spBag K) [] := ⟨fd_law_bag, [], o_law_bag, (F_law_bag.bindsN fun _ _ _ _ _ _ us hl => match us, hl with | [_], _ => rfl), .nil, He.glo_ok X G (c.t.d.fact 67 rfl), F_law_bag.kp⟩
  exact ok_law hp T c_law_scale c_law_take c_law_row ci_Sheet c_law_table c_law_deed c_law_done c_law_moved c_law_stay c_law_bag F_law
end
end Lw
namespace Lw
open PySem PySem.Spec L2 Lb Vl
local macro_rules | `(tactic| walk_at "sd") => `(tactic| first | with_reducible rfl | assumption | omega | (simp only [List.length_map, List.length_range, List.length_append, List.length_cons, List.length_nil]; omega) | rfl | (constructor <;> omega) | (simp only [List.length_map, List.length_range]; constructor <;> omega) | (refine few ?_; simp; done) | (refine few ?_; simp; omega) | (refine few ?_; omega) | (refine few1 ?_; simp; done) | (refine few1 ?_; simp; omega) | walk_at "sdx" | (simp; done) | (simp; omega))
local macro_rules | `(tactic| walk_at "sdx") => `(tactic| fail)
local macro_rules | `(tactic| walk_at "call") => `(tactic| fail)
local macro_rules | `(tactic| walk_at "go1") => `(tactic| first | walk_at "call" | refine And.intro (by walk_at "sd") ?_ | refine bift (by walk_at "sd") ?_ | refine biff (by walk_at "sd") ?_ | refine nbift (by walk_at "sd") ?_ | refine nbiff (by walk_at "sd") ?_ | with_reducible refine yfor_cons ?_ | with_reducible refine yfor_nil ?_ | with_reducible refine ylc_cons ?_ | with_reducible refine ylc_nil ?_ | rw [peq_int])
local macro_rules | `(tactic| walk_at "go") => `(tactic| ((repeat ((conv => whnf); walk_at "go1")); try (conv => whnf)))
theorem if2 {c : Prop} [Decidable c] {A B : Prop} (h1 : c → A) (h2 : ¬ c → B) : bfi (decide c) A B := by
  by_cases h : c
  · rw [decide_eq_true h]; exact h1 h
  · rw [decide_eq_false h]; exact h2 h
theorem L_is_whole {i : Int} {Q : PV → Prop} (k : Q (.bl true)) : w_is_whole [.int i] Q := by rw [e_is_whole]; exact k
theorem L_is_between {i lo hi : Int} {Q : PV → Prop} (k : Q (.bl (decide (lo ≤ i ∧ i ≤ hi)))) : w_is_between [.int i, .int lo, .int hi] Q := by
  rw [e_is_between]
  conv => whnf
  refine L_is_whole ?_
  conv => whnf
  refine if2 (fun h => ?_) fun h => ?_
  · have : decide (lo ≤ i ∧ i ≤ hi) = decide (i ≤ hi) := by simp [h]
    rw [this] at k; exact k
  · have : decide (lo ≤ i ∧ i ≤ hi) = false := by simp [h]
    rw [this] at k; exact k
theorem L_is_place {i : Int} {Q : PV → Prop} (h : 0 ≤ i) (k : Q (.bl true)) : w_is_place [.int i] Q := by
  rw [e_is_place]
  conv => whnf
  refine L_is_whole ?_
  conv => whnf
  rw [decide_eq_true h]; exact k
/-- a comprehension whose element is told for each item -/
theorem lcM {α : Type} {g : GG} {e : GE} {γ : G} {h f : α → PV} : ∀ {l : List α} {Q : List PV → Prop}, (∀ a ∈ l, ∀ Q, Q (f a) → g (h a) γ fun γ2 => e γ2 Q) → Q (l.map f) → lcP g pYes e γ (l.map h) Q
  | [], _, _, k => k
  | a :: l, Q, hf, k => by
    show g (h a) γ fun γ2 => pYes γ2 fun b => bfi b (e γ2 fun y => lcP g pYes e γ (l.map h) fun ys => Q (y :: ys)) (lcP g pYes e γ (l.map h) Q)
    exact hf a (by simp) _ (lcM (fun b m => hf b (by simp [m])) k)
theorem len_pv {α : Type} {f : α → PV} {l : List α} (h : l.length ≤ 1000) : (l.map f).length ≤ sizeLine := by rw [List.length_map]; exact few h
abbrev pvI (l : List Int) : PV := .lst (l.map PV.int)
abbrev pvR (l : List (List Int)) : PV := .lst (l.map pvI)
theorem bools_true {α : Type} : ∀ l : List α, pBools (l.map fun _ => PV.bl true) = some (l.map fun _ => true)
  | [] => rfl
  | a :: l => by simp [pBools, bools_true l]
theorem all_true {α : Type} (l : List α) : allB (l.map fun _ => true) = true := by simp [allB]
abbrev okW (i : Int) : Prop := -1000000000000 ≤ i ∧ i ≤ 1000000000000
abbrev okP (i : Int) : Prop := 0 ≤ i ∧ i ≤ 1000000000000
theorem peq_int (i j : Int) : peq (.int i) (.int j) = decide (i = j) := by
  simp only [peq, toD, PyData.eqv]
  by_cases h : i = j
  · simp [h]
  · simp [h]
theorem atI_at {α β : Type} {f : α → β} {l : List α} {n : Nat} {a : α} (h : l[n]? = some a) : atI (l.map f) (n : Int) = some (f a) := by
  have hn : n < l.length := (List.getElem?_eq_some_iff.mp h).1
  unfold atI ixN
  rw [List.length_map, if_pos (by omega), if_pos (by omega)]
  simp [h]
/-- a field -/
structure Fd where
  pairs : List (List Int)
  over : List Int
  under : List Int
  op : Int
structure Fd.Ok (F : Fd) : Prop where
  h : F.over.length ≤ 60
  w : F.under.length ≤ 60
  ph : F.pairs.length = F.over.length
  pw : ∀ r ∈ F.pairs, r.length = F.under.length ∧ ∀ i ∈ r, okW i
  po : ∀ i ∈ F.over, okP i
  pu : ∀ i ∈ F.under, okP i
  pp : okP F.op
def Fd.pr (F : Fd) (i j : Nat) : Int := (F.pairs.getD i []).getD j 0
def Fd.ov (F : Fd) (i : Nat) : Int := F.over.getD i 0
def Fd.un (F : Fd) (j : Nat) : Int := F.under.getD j 0
local macro_rules | `(tactic| walk_at "call") => `(tactic| refine L_is_whole ?_)
local macro_rules | `(tactic| walk_at "call") => `(tactic| refine L_is_place (by walk_at "sd") ?_)
end Lw
namespace Lw
open PySem PySem.Spec L2 Lb Vl
local macro_rules | `(tactic| walk_at "sd") => `(tactic| first | with_reducible rfl | assumption | omega | (simp only [List.length_map, List.length_range, List.length_append, List.length_cons, List.length_nil]; omega) | rfl | (constructor <;> omega) | (simp only [List.length_map, List.length_range]; constructor <;> omega) | (refine few ?_; simp; done) | (refine few ?_; simp; omega) | (refine few ?_; omega) | (refine few1 ?_; simp; done) | (refine few1 ?_; simp; omega) | walk_at "sdx" | (simp; done) | (simp; omega))
local macro_rules | `(tactic| walk_at "sdx") => `(tactic| fail)
local macro_rules | `(tactic| walk_at "call") => `(tactic| fail)
local macro_rules | `(tactic| walk_at "go1") => `(tactic| first | walk_at "call" | refine And.intro (by walk_at "sd") ?_ | refine bift (by walk_at "sd") ?_ | refine biff (by walk_at "sd") ?_ | refine nbift (by walk_at "sd") ?_ | refine nbiff (by walk_at "sd") ?_ | with_reducible refine yfor_cons ?_ | with_reducible refine yfor_nil ?_ | with_reducible refine ylc_cons ?_ | with_reducible refine ylc_nil ?_ | rw [peq_int])
local macro_rules | `(tactic| walk_at "go") => `(tactic| ((repeat ((conv => whnf); walk_at "go1")); try (conv => whnf)))
local macro_rules | `(tactic| walk_at "call") => `(tactic| refine L_is_whole ?_)
local macro_rules | `(tactic| walk_at "call") => `(tactic| refine L_is_place (by walk_at "sd") ?_)
inductive Stp where
  | b | o | u
  deriving DecidableEq
def Stp.s : Stp → Str
  | .b => "b"
  | .o => "o"
  | .u => "u"
structure Ens where
  oh : Bool
  ot : Bool
  uh : Bool
  ut : Bool
theorem bools_f {α : Type} {f : α → Bool} (l : List α) : pBools (l.map fun x => PV.bl (f x)) = some (l.map f) := bools_map l
theorem allB_f {α : Type} {f : α → Bool} (l : List α) : allB (l.map f) = l.all f := by simp [allB]
theorem L_is_text_of {z sg : Str} {lo hi : Int} {Q : PV → Prop} (hz : z.length ≤ 1000) (k : Q (.bl (decide (lo ≤ (z.length : Int) ∧ (z.length : Int) ≤ hi) && z.cps.toList.all fun c => decide (c ∈ sg.cps.toList)))) : w_is_text_of [.str z, .str sg, .int lo, .int hi] Q := by
  rw [e_is_text_of]
  (conv => whnf)
  refine ⟨few hz, ?_⟩
  (conv => whnf)
  by_cases h : lo ≤ (z.length : Int)
  · rw [decide_eq_true h]
    (conv => whnf)
    by_cases h' : (z.length : Int) ≤ hi
    · rw [decide_eq_true h']
      (conv => whnf)
      refine ⟨len_pv (by simpa [Str.length] using hz), lcM (f := fun c => .bl (decide (c ∈ sg.cps.toList))) (fun c m Q k => ⟨rfl, k⟩) ?_⟩
      (conv => whnf)
      rw [bools_f]
      show Q (.bl (allB _))
      rw [allB_f]
      have : decide (lo ≤ (z.length : Int) ∧ (z.length : Int) ≤ hi) = true := decide_eq_true ⟨h, h'⟩
      rw [this, Bool.true_and] at k; exact k
    · rw [decide_eq_false h']
      (conv => whnf)
      have : decide (lo ≤ (z.length : Int) ∧ (z.length : Int) ≤ hi) = false := decide_eq_false (fun z => h' z.2)
      rw [this, Bool.false_and] at k; exact k
  · rw [decide_eq_false h]
    (conv => whnf)
    have : decide (lo ≤ (z.length : Int) ∧ (z.length : Int) ≤ hi) = false := decide_eq_false (fun z => h z.1)
    rw [this, Bool.false_and] at k; exact k
theorem L_is_step {s : Stp} {Q : PV → Prop} (k : Q (.bl true)) : w_is_step [.str s.s] Q := by
  rw [e_is_step]
  refine L_is_text_of (by cases s <;> decide +kernel) ?_
  have : (decide ((1 : Int) ≤ (s.s.length : Int) ∧ (s.s.length : Int) ≤ 1) && s.s.cps.toList.all fun c => decide (c ∈ ("bou" : Str).cps.toList)) = true := by cases s <;> decide +kernel
  rw [this]; exact k
def sw (F : Fd) (e : Ens) (i j : Nat) (s a : Stp) : Int := match s with
  | .b => F.pr i j
  | .o => if (j = 0 ∧ e.oh = true) ∨ (j = F.under.length ∧ e.ot = true) then 0 else -(F.ov i + if a = .o then 0 else F.op)
  | .u => if (i = 0 ∧ e.uh = true) ∨ (i = F.over.length ∧ e.ut = true) then 0 else -(F.un j + if a = .u then 0 else F.op)
/-- a step leads on -/
def lead (F : Fd) (i j : Nat) : Stp → Prop
  | .b => i < F.over.length ∧ j < F.under.length
  | .o => i < F.over.length ∧ j ≤ F.under.length
  | .u => i ≤ F.over.length ∧ j < F.under.length
theorem dat_stp (s : Stp) : dat 8 (.str s.s) = true := by cases s <;> decide +kernel
theorem peq_stp (s t : Stp) : peq (.str s.s) (.str t.s) = decide (s = t) := by cases s <;> cases t <;> decide +kernel
theorem peq_o (s : Stp) : peq (.str s.s) (.str (Str.ofString "o")) = decide (s = .o) := peq_stp s .o
theorem peq_u (s : Stp) : peq (.str s.s) (.str (Str.ofString "u")) = decide (s = .u) := peq_stp s .u
theorem dat_o : dat 8 (.str (Str.ofString "o")) = true := dat_stp .o
theorem dat_u : dat 8 (.str (Str.ofString "u")) = true := dat_stp .u
local macro_rules | `(tactic| walk_at "call") => `(tactic| refine L_is_step ?_)
end Lw
namespace Lw
open PySem PySem.Spec L2 Lb Vl
local macro_rules | `(tactic| walk_at "sd") => `(tactic| first | with_reducible rfl | assumption | omega | (simp only [List.length_map, List.length_range, List.length_append, List.length_cons, List.length_nil]; omega) | rfl | (constructor <;> omega) | (simp only [List.length_map, List.length_range]; constructor <;> omega) | (refine few ?_; simp; done) | (refine few ?_; simp; omega) | (refine few ?_; omega) | (refine few1 ?_; simp; done) | (refine few1 ?_; simp; omega) | walk_at "sdx" | (simp; done) | (simp; omega))
local macro_rules | `(tactic| walk_at "sdx") => `(tactic| fail)
local macro_rules | `(tactic| walk_at "call") => `(tactic| fail)
local macro_rules | `(tactic| walk_at "go1") => `(tactic| first | walk_at "call" | refine And.intro (by walk_at "sd") ?_ | refine bift (by walk_at "sd") ?_ | refine biff (by walk_at "sd") ?_ | refine nbift (by walk_at "sd") ?_ | refine nbiff (by walk_at "sd") ?_ | with_reducible refine yfor_cons ?_ | with_reducible refine yfor_nil ?_ | with_reducible refine ylc_cons ?_ | with_reducible refine ylc_nil ?_ | rw [peq_int])
local macro_rules | `(tactic| walk_at "go") => `(tactic| ((repeat ((conv => whnf); walk_at "go1")); try (conv => whnf)))
local macro_rules | `(tactic| walk_at "call") => `(tactic| refine L_is_whole ?_)
local macro_rules | `(tactic| walk_at "call") => `(tactic| refine L_is_place (by walk_at "sd") ?_)
local macro_rules | `(tactic| walk_at "call") => `(tactic| refine L_is_step ?_)
theorem few1 {n : Nat} (h : n + 1 ≤ 1000) : n < sizeLine := few h
structure Ld where
  s : Stp
  i : Nat
  j : Nat
  g : Int
  o : Int
def lds (F : Fd) (e : Ens) (i j : Nat) : List Ld :=
  (if i < F.over.length ∧ j < F.under.length then [⟨.b, i + 1, j + 1, F.pr i j, F.pr i j⟩] else []) ++
  (if i < F.over.length then [⟨.o, i + 1, j, sw F e i j .o .o, sw F e i j .o .b⟩] else []) ++
  (if j < F.under.length then [⟨.u, i, j + 1, sw F e i j .u .u, sw F e i j .u .b⟩] else [])
end Lw
namespace Lw
open PySem PySem.Spec L2 Lb Vl
local macro_rules | `(tactic| walk_at "sd") => `(tactic| first | with_reducible rfl | assumption | omega | (simp only [List.length_map, List.length_range, List.length_append, List.length_cons, List.length_nil]; omega) | rfl | (constructor <;> omega) | (simp only [List.length_map, List.length_range]; constructor <;> omega) | (refine few ?_; simp; done) | (refine few ?_; simp; omega) | (refine few ?_; omega) | (refine few1 ?_; simp; done) | (refine few1 ?_; simp; omega) | walk_at "sdx" | (simp; done) | (simp; omega))
local macro_rules | `(tactic| walk_at "sdx") => `(tactic| fail)
local macro_rules | `(tactic| walk_at "call") => `(tactic| fail)
local macro_rules | `(tactic| walk_at "go1") => `(tactic| first | walk_at "call" | refine And.intro (by walk_at "sd") ?_ | refine bift (by walk_at "sd") ?_ | refine biff (by walk_at "sd") ?_ | refine nbift (by walk_at "sd") ?_ | refine nbiff (by walk_at "sd") ?_ | with_reducible refine yfor_cons ?_ | with_reducible refine yfor_nil ?_ | with_reducible refine ylc_cons ?_ | with_reducible refine ylc_nil ?_ | rw [peq_int])
local macro_rules | `(tactic| walk_at "go") => `(tactic| ((repeat ((conv => whnf); walk_at "go1")); try (conv => whnf)))
local macro_rules | `(tactic| walk_at "call") => `(tactic| refine L_is_whole ?_)
local macro_rules | `(tactic| walk_at "call") => `(tactic| refine L_is_place (by walk_at "sd") ?_)
local macro_rules | `(tactic| walk_at "call") => `(tactic| refine L_is_step ?_)
abbrev Tb := Nat → Nat → Stp → Int
def pvC (c : Stp → Int) : PV := .tup [.int (c .b), .int (c .o), .int (c .u)]
def tr (f : Tb) (a : Stp) (x : Ld) : Int := f x.i x.j x.s + if x.s = a then x.g else x.o
end Lw
namespace Lw
open PySem PySem.Spec L2 Lb Vl
local macro_rules | `(tactic| walk_at "sd") => `(tactic| first | with_reducible rfl | assumption | omega | (simp only [List.length_map, List.length_range, List.length_append, List.length_cons, List.length_nil]; omega) | rfl | (constructor <;> omega) | (simp only [List.length_map, List.length_range]; constructor <;> omega) | (refine few ?_; simp; done) | (refine few ?_; simp; omega) | (refine few ?_; omega) | (refine few1 ?_; simp; done) | (refine few1 ?_; simp; omega) | walk_at "sdx" | (simp; done) | (simp; omega))
local macro_rules | `(tactic| walk_at "sdx") => `(tactic| fail)
local macro_rules | `(tactic| walk_at "call") => `(tactic| fail)
local macro_rules | `(tactic| walk_at "go1") => `(tactic| first | walk_at "call" | refine And.intro (by walk_at "sd") ?_ | refine bift (by walk_at "sd") ?_ | refine biff (by walk_at "sd") ?_ | refine nbift (by walk_at "sd") ?_ | refine nbiff (by walk_at "sd") ?_ | with_reducible refine yfor_cons ?_ | with_reducible refine yfor_nil ?_ | with_reducible refine ylc_cons ?_ | with_reducible refine ylc_nil ?_ | rw [peq_int])
local macro_rules | `(tactic| walk_at "go") => `(tactic| ((repeat ((conv => whnf); walk_at "go1")); try (conv => whnf)))
local macro_rules | `(tactic| walk_at "call") => `(tactic| refine L_is_whole ?_)
local macro_rules | `(tactic| walk_at "call") => `(tactic| refine L_is_place (by walk_at "sd") ?_)
local macro_rules | `(tactic| walk_at "call") => `(tactic| refine L_is_step ?_)
def MetAt (F : Fd) (e : Ens) (f : Tb) (i j : Nat) : Prop := ∀ a, f i j a = if lds F e i j = [] then 0 else maxL ((lds F e i j).map (tr f a))
theorem ints_map {α : Type} (f : α → Int) : ∀ l : List α, pInts (l.map fun x => .int (f x)) = some (l.map f)
  | [] => rfl
  | a :: l => by simp [pInts, ints_map f l]
theorem lds_len {F : Fd} {e : Ens} {i j : Nat} : (lds F e i j).length ≤ 10 := by
  simp only [lds, List.length_append]
  split <;> split <;> split <;> simp
end Lw
namespace Lw
open PySem PySem.Spec L2 Lb Vl
local macro_rules | `(tactic| walk_at "sd") => `(tactic| first | with_reducible rfl | assumption | omega | (simp only [List.length_map, List.length_range, List.length_append, List.length_cons, List.length_nil]; omega) | rfl | (constructor <;> omega) | (simp only [List.length_map, List.length_range]; constructor <;> omega) | (refine few ?_; simp; done) | (refine few ?_; simp; omega) | (refine few ?_; omega) | (refine few1 ?_; simp; done) | (refine few1 ?_; simp; omega) | walk_at "sdx" | (simp; done) | (simp; omega))
local macro_rules | `(tactic| walk_at "sdx") => `(tactic| fail)
local macro_rules | `(tactic| walk_at "call") => `(tactic| fail)
local macro_rules | `(tactic| walk_at "go1") => `(tactic| first | walk_at "call" | refine And.intro (by walk_at "sd") ?_ | refine bift (by walk_at "sd") ?_ | refine biff (by walk_at "sd") ?_ | refine nbift (by walk_at "sd") ?_ | refine nbiff (by walk_at "sd") ?_ | with_reducible refine yfor_cons ?_ | with_reducible refine yfor_nil ?_ | with_reducible refine ylc_cons ?_ | with_reducible refine ylc_nil ?_ | rw [peq_int])
local macro_rules | `(tactic| walk_at "go") => `(tactic| ((repeat ((conv => whnf); walk_at "go1")); try (conv => whnf)))
local macro_rules | `(tactic| walk_at "call") => `(tactic| refine L_is_whole ?_)
local macro_rules | `(tactic| walk_at "call") => `(tactic| refine L_is_place (by walk_at "sd") ?_)
local macro_rules | `(tactic| walk_at "call") => `(tactic| refine L_is_step ?_)
def Met (F : Fd) (e : Ens) (f : Tb) : Prop := ∀ i j, i ≤ F.over.length → j ≤ F.under.length → MetAt F e f i j
end Lw
namespace Lw
open PySem PySem.Spec L2 Lb Vl
local macro_rules | `(tactic| walk_at "sd") => `(tactic| first | with_reducible rfl | assumption | omega | (simp only [List.length_map, List.length_range, List.length_append, List.length_cons, List.length_nil]; omega) | rfl | (constructor <;> omega) | (simp only [List.length_map, List.length_range]; constructor <;> omega) | (refine few ?_; simp; done) | (refine few ?_; simp; omega) | (refine few ?_; omega) | (refine few1 ?_; simp; done) | (refine few1 ?_; simp; omega) | walk_at "sdx" | (simp; done) | (simp; omega))
local macro_rules | `(tactic| walk_at "sdx") => `(tactic| fail)
local macro_rules | `(tactic| walk_at "call") => `(tactic| fail)
local macro_rules | `(tactic| walk_at "go1") => `(tactic| first | walk_at "call" | refine And.intro (by walk_at "sd") ?_ | refine bift (by walk_at "sd") ?_ | refine biff (by walk_at "sd") ?_ | refine nbift (by walk_at "sd") ?_ | refine nbiff (by walk_at "sd") ?_ | with_reducible refine yfor_cons ?_ | with_reducible refine yfor_nil ?_ | with_reducible refine ylc_cons ?_ | with_reducible refine ylc_nil ?_ | rw [peq_int])
local macro_rules | `(tactic| walk_at "go") => `(tactic| ((repeat ((conv => whnf); walk_at "go1")); try (conv => whnf)))
local macro_rules | `(tactic| walk_at "call") => `(tactic| refine L_is_whole ?_)
local macro_rules | `(tactic| walk_at "call") => `(tactic| refine L_is_place (by walk_at "sd") ?_)
local macro_rules | `(tactic| walk_at "call") => `(tactic| refine L_is_step ?_)
structure Nx where
  s : Stp
  i : Nat
  j : Nat
def nxs (h w i j : Nat) : List Nx :=
  (if i < h ∧ j < w then [⟨.b, i + 1, j + 1⟩] else []) ++ (if i < h then [⟨.o, i + 1, j⟩] else []) ++ (if j < w then [⟨.u, i, j + 1⟩] else [])
theorem nxs_lead {F : Fd} {i j : Nat} (hi : i ≤ F.over.length) (hj : j ≤ F.under.length) : ∀ x ∈ nxs F.over.length F.under.length i j, lead F i j x.s ∧ x.i ≤ F.over.length ∧ x.j ≤ F.under.length ∧ i + j < x.i + x.j := by
  intro x m
  simp only [nxs, List.mem_append] at m
  rcases m with (m | m) | m <;> split at m <;> simp at m <;> subst m <;> simp [lead] <;> omega
end Lw
namespace Lw
open PySem PySem.Spec L2 Lb Vl
local macro_rules | `(tactic| walk_at "sd") => `(tactic| first | with_reducible rfl | assumption | omega | (simp only [List.length_map, List.length_range, List.length_append, List.length_cons, List.length_nil]; omega) | rfl | (constructor <;> omega) | (simp only [List.length_map, List.length_range]; constructor <;> omega) | (refine few ?_; simp; done) | (refine few ?_; simp; omega) | (refine few ?_; omega) | (refine few1 ?_; simp; done) | (refine few1 ?_; simp; omega) | walk_at "sdx" | (simp; done) | (simp; omega))
local macro_rules | `(tactic| walk_at "sdx") => `(tactic| fail)
local macro_rules | `(tactic| walk_at "call") => `(tactic| fail)
local macro_rules | `(tactic| walk_at "go1") => `(tactic| first | walk_at "call" | refine And.intro (by walk_at "sd") ?_ | refine bift (by walk_at "sd") ?_ | refine biff (by walk_at "sd") ?_ | refine nbift (by walk_at "sd") ?_ | refine nbiff (by walk_at "sd") ?_ | with_reducible refine yfor_cons ?_ | with_reducible refine yfor_nil ?_ | with_reducible refine ylc_cons ?_ | with_reducible refine ylc_nil ?_ | rw [peq_int])
local macro_rules | `(tactic| walk_at "go") => `(tactic| ((repeat ((conv => whnf); walk_at "go1")); try (conv => whnf)))
local macro_rules | `(tactic| walk_at "call") => `(tactic| refine L_is_whole ?_)
local macro_rules | `(tactic| walk_at "call") => `(tactic| refine L_is_place (by walk_at "sd") ?_)
local macro_rules | `(tactic| walk_at "call") => `(tactic| refine L_is_step ?_)
end Lw
namespace Lw
open PySem PySem.Spec L2 Lb Vl
local macro_rules | `(tactic| walk_at "sd") => `(tactic| first | with_reducible rfl | assumption | omega | (simp only [List.length_map, List.length_range, List.length_append, List.length_cons, List.length_nil]; omega) | rfl | (constructor <;> omega) | (simp only [List.length_map, List.length_range]; constructor <;> omega) | (refine few ?_; simp; done) | (refine few ?_; simp; omega) | (refine few ?_; omega) | (refine few1 ?_; simp; done) | (refine few1 ?_; simp; omega) | walk_at "sdx" | (simp; done) | (simp; omega))
local macro_rules | `(tactic| walk_at "sdx") => `(tactic| fail)
local macro_rules | `(tactic| walk_at "call") => `(tactic| fail)
local macro_rules | `(tactic| walk_at "go1") => `(tactic| first | walk_at "call" | refine And.intro (by walk_at "sd") ?_ | refine bift (by walk_at "sd") ?_ | refine biff (by walk_at "sd") ?_ | refine nbift (by walk_at "sd") ?_ | refine nbiff (by walk_at "sd") ?_ | with_reducible refine yfor_cons ?_ | with_reducible refine yfor_nil ?_ | with_reducible refine ylc_cons ?_ | with_reducible refine ylc_nil ?_ | rw [peq_int])
local macro_rules | `(tactic| walk_at "go") => `(tactic| ((repeat ((conv => whnf); walk_at "go1")); try (conv => whnf)))
local macro_rules | `(tactic| walk_at "call") => `(tactic| refine L_is_whole ?_)
local macro_rules | `(tactic| walk_at "call") => `(tactic| refine L_is_place (by walk_at "sd") ?_)
local macro_rules | `(tactic| walk_at "call") => `(tactic| refine L_is_step ?_)
def ldOf (F : Fd) (e : Ens) (i j : Nat) (x : Nx) : Ld := ⟨x.s, x.i, x.j, sw F e i j x.s x.s, sw F e i j x.s .b⟩
theorem lds_nxs {F : Fd} {e : Ens} {i j : Nat} : lds F e i j = (nxs F.over.length F.under.length i j).map (ldOf F e i j) := by
  unfold lds nxs
  by_cases h1 : i < F.over.length <;> by_cases h2 : j < F.under.length <;> simp [h1, h2, ldOf, sw]
theorem tr_sw {F : Fd} {e : Ens} {f : Tb} {i j : Nat} {a : Stp} (x : Nx) : tr f a (ldOf F e i j x) = sw F e i j x.s a + f x.i x.j x.s := by
  obtain ⟨s, i', j'⟩ := x
  cases s <;> cases a <;> simp [tr, ldOf, sw, Int.add_comm]
end Lw
namespace Lw
open PySem PySem.Spec L2 Lb Vl
local macro_rules | `(tactic| walk_at "sd") => `(tactic| first | with_reducible rfl | assumption | omega | (simp only [List.length_map, List.length_range, List.length_append, List.length_cons, List.length_nil]; omega) | rfl | (constructor <;> omega) | (simp only [List.length_map, List.length_range]; constructor <;> omega) | (refine few ?_; simp; done) | (refine few ?_; simp; omega) | (refine few ?_; omega) | (refine few1 ?_; simp; done) | (refine few1 ?_; simp; omega) | walk_at "sdx" | (simp; done) | (simp; omega))
local macro_rules | `(tactic| walk_at "sdx") => `(tactic| fail)
local macro_rules | `(tactic| walk_at "call") => `(tactic| fail)
local macro_rules | `(tactic| walk_at "go1") => `(tactic| first | walk_at "call" | refine And.intro (by walk_at "sd") ?_ | refine bift (by walk_at "sd") ?_ | refine biff (by walk_at "sd") ?_ | refine nbift (by walk_at "sd") ?_ | refine nbiff (by walk_at "sd") ?_ | with_reducible refine yfor_cons ?_ | with_reducible refine yfor_nil ?_ | with_reducible refine ylc_cons ?_ | with_reducible refine ylc_nil ?_ | rw [peq_int])
local macro_rules | `(tactic| walk_at "go") => `(tactic| ((repeat ((conv => whnf); walk_at "go1")); try (conv => whnf)))
local macro_rules | `(tactic| walk_at "call") => `(tactic| refine L_is_whole ?_)
local macro_rules | `(tactic| walk_at "call") => `(tactic| refine L_is_place (by walk_at "sd") ?_)
local macro_rules | `(tactic| walk_at "call") => `(tactic| refine L_is_step ?_)
theorem listOf {α β : Type} {f : α → β} {p : α → Prop} : ∀ {ys : List β}, (∀ y ∈ ys, ∃ a, y = f a ∧ p a) → ∃ l : List α, ys = l.map f ∧ ∀ a ∈ l, p a
  | [], _ => ⟨[], rfl, by simp⟩
  | y :: ys, h => by
    obtain ⟨a, rfl, ha⟩ := h y (by simp)
    obtain ⟨l, rfl, hl⟩ := listOf (ys := ys) fun z m => h z (by simp [m])
    exact ⟨a :: l, rfl, fun b m => (List.mem_cons.mp m).elim (fun e => e ▸ ha) (hl b)⟩
end Lw
namespace Lw
open PySem PySem.Spec L2 Lb Vl
local macro_rules | `(tactic| walk_at "sd") => `(tactic| first | with_reducible rfl | assumption | omega | (simp only [List.length_map, List.length_range, List.length_append, List.length_cons, List.length_nil]; omega) | rfl | (constructor <;> omega) | (simp only [List.length_map, List.length_range]; constructor <;> omega) | (refine few ?_; simp; done) | (refine few ?_; simp; omega) | (refine few ?_; omega) | (refine few1 ?_; simp; done) | (refine few1 ?_; simp; omega) | walk_at "sdx" | (simp; done) | (simp; omega))
local macro_rules | `(tactic| walk_at "sdx") => `(tactic| fail)
local macro_rules | `(tactic| walk_at "call") => `(tactic| fail)
local macro_rules | `(tactic| walk_at "go1") => `(tactic| first | walk_at "call" | refine And.intro (by walk_at "sd") ?_ | refine bift (by walk_at "sd") ?_ | refine biff (by walk_at "sd") ?_ | refine nbift (by walk_at "sd") ?_ | refine nbiff (by walk_at "sd") ?_ | with_reducible refine yfor_cons ?_ | with_reducible refine yfor_nil ?_ | with_reducible refine ylc_cons ?_ | with_reducible refine ylc_nil ?_ | rw [peq_int])
local macro_rules | `(tactic| walk_at "go") => `(tactic| ((repeat ((conv => whnf); walk_at "go1")); try (conv => whnf)))
local macro_rules | `(tactic| walk_at "call") => `(tactic| refine L_is_whole ?_)
local macro_rules | `(tactic| walk_at "call") => `(tactic| refine L_is_place (by walk_at "sd") ?_)
local macro_rules | `(tactic| walk_at "call") => `(tactic| refine L_is_step ?_)
end Lw
namespace Lw
open PySem PySem.Spec L2 Lb Vl
local macro_rules | `(tactic| walk_at "sd") => `(tactic| first | with_reducible rfl | assumption | omega | (simp only [List.length_map, List.length_range, List.length_append, List.length_cons, List.length_nil]; omega) | rfl | (constructor <;> omega) | (simp only [List.length_map, List.length_range]; constructor <;> omega) | (refine few ?_; simp; done) | (refine few ?_; simp; omega) | (refine few ?_; omega) | (refine few1 ?_; simp; done) | (refine few1 ?_; simp; omega) | walk_at "sdx" | (simp; done) | (simp; omega))
local macro_rules | `(tactic| walk_at "sdx") => `(tactic| fail)
local macro_rules | `(tactic| walk_at "call") => `(tactic| fail)
local macro_rules | `(tactic| walk_at "go1") => `(tactic| first | walk_at "call" | refine And.intro (by walk_at "sd") ?_ | refine bift (by walk_at "sd") ?_ | refine biff (by walk_at "sd") ?_ | refine nbift (by walk_at "sd") ?_ | refine nbiff (by walk_at "sd") ?_ | with_reducible refine yfor_cons ?_ | with_reducible refine yfor_nil ?_ | with_reducible refine ylc_cons ?_ | with_reducible refine ylc_nil ?_ | rw [peq_int])
local macro_rules | `(tactic| walk_at "go") => `(tactic| ((repeat ((conv => whnf); walk_at "go1")); try (conv => whnf)))
local macro_rules | `(tactic| walk_at "call") => `(tactic| refine L_is_whole ?_)
local macro_rules | `(tactic| walk_at "call") => `(tactic| refine L_is_place (by walk_at "sd") ?_)
local macro_rules | `(tactic| walk_at "call") => `(tactic| refine L_is_step ?_)
end Lw
namespace Lw
open PySem PySem.Spec L2 Lb Vl
local macro_rules | `(tactic| walk_at "sd") => `(tactic| first | with_reducible rfl | assumption | omega | (simp only [List.length_map, List.length_range, List.length_append, List.length_cons, List.length_nil]; omega) | rfl | (constructor <;> omega) | (simp only [List.length_map, List.length_range]; constructor <;> omega) | (refine few ?_; simp; done) | (refine few ?_; simp; omega) | (refine few ?_; omega) | (refine few1 ?_; simp; done) | (refine few1 ?_; simp; omega) | walk_at "sdx" | (simp; done) | (simp; omega))
local macro_rules | `(tactic| walk_at "sdx") => `(tactic| fail)
local macro_rules | `(tactic| walk_at "call") => `(tactic| fail)
local macro_rules | `(tactic| walk_at "go1") => `(tactic| first | walk_at "call" | refine And.intro (by walk_at "sd") ?_ | refine bift (by walk_at "sd") ?_ | refine biff (by walk_at "sd") ?_ | refine nbift (by walk_at "sd") ?_ | refine nbiff (by walk_at "sd") ?_ | with_reducible refine yfor_cons ?_ | with_reducible refine yfor_nil ?_ | with_reducible refine ylc_cons ?_ | with_reducible refine ylc_nil ?_ | rw [peq_int])
local macro_rules | `(tactic| walk_at "go") => `(tactic| ((repeat ((conv => whnf); walk_at "go1")); try (conv => whnf)))
local macro_rules | `(tactic| walk_at "call") => `(tactic| refine L_is_whole ?_)
local macro_rules | `(tactic| walk_at "call") => `(tactic| refine L_is_place (by walk_at "sd") ?_)
local macro_rules | `(tactic| walk_at "call") => `(tactic| refine L_is_step ?_)
def Stp.c : Stp → Nat
  | .b => 98
  | .o => 111
  | .u => 117
def mtB (F : Fd) (e : Ens) (f : Tb) (i j : Nat) (a : Stp) (x : Nx) : Bool := decide (sw F e i j x.s a + f x.i x.j x.s = f i j a)
def nxF (F : Fd) (e : Ens) (f : Tb) (i j : Nat) (a : Stp) : List Nx := (nxs F.over.length F.under.length i j).filter (mtB F e f i j a)
theorem nxs_ne {h w i j : Nat} (hi : i ≤ h) (hj : j ≤ w) (hn : ¬ (i = h ∧ j = w)) : nxs h w i j ≠ [] := by
  unfold nxs
  by_cases h1 : i < h
  · simp [h1]
  · have h2 : j < w := by omega
    simp [h1, h2]
/-- the least of the best paths, step by step -/
inductive Pth (F : Fd) (e : Ens) (f : Tb) : Nat → Nat → Stp → List Stp → Prop
  | nil (a : Stp) : Pth F e f F.over.length F.under.length a []
  | cons {i j : Nat} {a : Stp} {x : Nx} {t : List Stp} : ¬ (i = F.over.length ∧ j = F.under.length) → (nxF F e f i j a).head? = some x → Pth F e f x.i x.j x.s t → Pth F e f i j a (x.s :: t)
theorem Pth.det {F : Fd} {e : Ens} {f : Tb} {i j : Nat} {a : Stp} {p : List Stp} (h : Pth F e f i j a p) : ∀ {q : List Stp}, Pth F e f i j a q → p = q := by
  induction h with
  | nil a => intro q h; cases h with
    | nil => rfl
    | cons n _ _ => exact absurd ⟨rfl, rfl⟩ n
  | cons n hx _ ih => intro q h; cases h with
    | nil => exact absurd ⟨rfl, rfl⟩ n
    | cons _ hy hq =>
      rw [hx] at hy; cases hy
      rw [ih hq]
def Stp.ix : Stp → Nat
  | .b => 0
  | .o => 1
  | .u => 2
theorem at_C (c : Stp → Int) (s : Stp) : atI [PV.int (c .b), PV.int (c .o), PV.int (c .u)] (s.ix : Int) = some (.int (c s)) := by
  cases s <;> rfl
theorem mem_stp (s : Stp) : s.s ∈ [Str.ofString "b", Str.ofString "o", Str.ofString "u"] := by cases s <;> simp [Stp.s]
theorem ix_stp (s : Stp) : [Str.ofString "b", Str.ofString "o", Str.ofString "u"].idxOf s.s = s.ix := by cases s <;> decide +kernel
theorem lds_len3 {F : Fd} {e : Ens} {i j : Nat} : (lds F e i j).length ≤ 1000 := by
  have := lds_len (F := F) (e := e) (i := i) (j := j); omega
local macro_rules | `(tactic| walk_at "sdx") => `(tactic| exact len_pv lds_len3)
end Lw
namespace Lw
open PySem PySem.Spec L2 Lb Vl
local macro_rules | `(tactic| walk_at "sd") => `(tactic| first | with_reducible rfl | assumption | omega | (simp only [List.length_map, List.length_range, List.length_append, List.length_cons, List.length_nil]; omega) | rfl | (constructor <;> omega) | (simp only [List.length_map, List.length_range]; constructor <;> omega) | (refine few ?_; simp; done) | (refine few ?_; simp; omega) | (refine few ?_; omega) | (refine few1 ?_; simp; done) | (refine few1 ?_; simp; omega) | walk_at "sdx" | (simp; done) | (simp; omega))
local macro_rules | `(tactic| walk_at "sdx") => `(tactic| fail)
local macro_rules | `(tactic| walk_at "call") => `(tactic| fail)
local macro_rules | `(tactic| walk_at "go1") => `(tactic| first | walk_at "call" | refine And.intro (by walk_at "sd") ?_ | refine bift (by walk_at "sd") ?_ | refine biff (by walk_at "sd") ?_ | refine nbift (by walk_at "sd") ?_ | refine nbiff (by walk_at "sd") ?_ | with_reducible refine yfor_cons ?_ | with_reducible refine yfor_nil ?_ | with_reducible refine ylc_cons ?_ | with_reducible refine ylc_nil ?_ | rw [peq_int])
local macro_rules | `(tactic| walk_at "go") => `(tactic| ((repeat ((conv => whnf); walk_at "go1")); try (conv => whnf)))
local macro_rules | `(tactic| walk_at "call") => `(tactic| refine L_is_whole ?_)
local macro_rules | `(tactic| walk_at "call") => `(tactic| refine L_is_place (by walk_at "sd") ?_)
local macro_rules | `(tactic| walk_at "call") => `(tactic| refine L_is_step ?_)
local macro_rules | `(tactic| walk_at "sdx") => `(tactic| exact len_pv lds_len3)
def abA : List Nat := (Str.ofString "abcdefghijklmnopqrstuvwxyz").cps.toList
def txA (l : List Nat) : Str := ⟨l.toArray⟩
def chA (c : Nat) : PV := .str ⟨#[c]⟩
theorem toN {n : Int} (h : 0 ≤ n) : ∃ k : Nat, n = k := Int.eq_ofNat_of_zero_le h
theorem tx_len (l : List Nat) : (txA l).length = l.length := by show (List.toArray _).size = _; simp
theorem ab_tx : (Str.ofString "abcdefghijklmnopqrstuvwxyz") = txA abA := by unfold txA abA; simp
theorem nil_tx : Str.ofString "" = txA [] := by decide +kernel
theorem ab_len : abA.length = 26 := by decide +kernel
theorem ab_nd : abA.Nodup := by decide +kernel
theorem chars_tx (l : List Nat) : chars (txA l) = l.map chA := by unfold chars txA; simp; intro a _; rfl
theorem tx_snoc (l : List Nat) (c : Nat) : txA l ++ (⟨#[c]⟩ : Str) = txA (l ++ [c]) := by
  show (⟨l.toArray ++ #[c]⟩ : Str) = txA (l ++ [c])
  unfold txA; simp
theorem tx_app (l m : List Nat) : txA l ++ txA m = txA (l ++ m) := by
  show (⟨l.toArray ++ m.toArray⟩ : Str) = txA (l ++ m)
  unfold txA; simp
theorem tx_cut (l : List Nat) (i j : Option Int) : cutS (txA l) i j = txA ((l.drop (HT.sIx l.length 0 i)).take (HT.sIx l.length l.length j - HT.sIx l.length 0 i)) := by
  unfold cutS
  rw [tx_len]
  unfold txA
  simp
abbrev okS (i : Int) : Prop := -1000000 ≤ i ∧ i ≤ 1000000
theorem pow6 : (10 : Int) ^ Int.toNat 6 = 1000000 := by decide
theorem cpow6 : CPow 10 6 := by unfold CPow; decide
theorem L15_worth {Q : PV → Prop} (k : ∀ i : Int, okS i → Q (.int i)) : w_law_worth [.bag] Q := by
  rw [e_law_worth]
  walk_at "go"
  intro w w1 w2
  walk_at "go"
  by_cases h1 : w < 2
  · rw [decide_eq_true h1]
    walk_at "go"
    intro v v1 v2
    walk_at "go"
    exact k _ ⟨by omega, by omega⟩
  · rw [decide_eq_false h1]
    walk_at "go"
    by_cases h2 : w = 2
    · rw [decide_eq_true h2]
      (conv => whnf)
      refine ⟨cpow6, ?_⟩
      rw [pow6]
      (conv => whnf)
      refine ⟨.inl ⟨by omega, by omega⟩, ?_⟩
      (conv => whnf)
      refine ⟨⟨by omega, by omega⟩, ?_⟩
      intro v v1 v2
      (conv => whnf)
      refine ⟨cpow6, ?_⟩
      rw [pow6]
      (conv => whnf)
      exact k _ ⟨by omega, by omega⟩
    · rw [decide_eq_false h2]
      (conv => whnf)
      refine ⟨cpow6, ?_⟩
      rw [pow6]
      (conv => whnf)
      refine ⟨cpow6, ?_⟩
      rw [pow6]
      (conv => whnf)
      refine ⟨⟨by omega, by omega⟩, ?_⟩
      intro v v1 v2
      have : v = 0 ∨ v = 1 ∨ v = 2 ∨ v = 3 := by omega
      rcases this with rfl | rfl | rfl | rfl
      · exact k 1000000 ⟨by omega, by omega⟩
      · exact k (-1000000) ⟨by omega, by omega⟩
      · exact k 0 ⟨by omega, by omega⟩
      · exact k 0 ⟨by omega, by omega⟩
def okR (n : Nat) (R : List (List Int)) : Prop := R.length = n ∧ ∀ r ∈ R, r.length = n ∧ ∀ i ∈ r, okS i
theorem L_worths {n : Nat} (hn : n ≤ 8) {Q : PV → Prop} (k : ∀ R, okR n R → Q (pvR R)) : w_law_worths [.bag, .int n] Q := by
  rw [e_law_worths]
  (conv => whnf)
  refine ⟨⟨by omega, by omega⟩, ?_⟩
  rw [show ((n : Int)).toNat = n by omega]
  unfold Vl.upTo
  refine ⟨by rw [List.length_map, List.length_range, sizeLine_eq]; omega, ?_⟩
  (conv => whnf)
  refine ylcD (P := fun y => ∃ r : List Int, y = pvI r ∧ (r.length = n ∧ ∀ i ∈ r, okS i)) (fun a ma Q k => ?_) fun ys hl hp => ?_
  · (conv => whnf)
    refine ⟨⟨by omega, by omega⟩, ?_⟩
    rw [show ((n : Int)).toNat = n by omega]
    unfold Vl.upTo
    refine ⟨by rw [List.length_map, List.length_range, sizeLine_eq]; omega, ?_⟩
    (conv => whnf)
    refine ylcD (P := fun y => ∃ i : Int, y = .int i ∧ okS i) (fun a ma Q k => ?_) fun ys hl hp => ?_
    · (conv => whnf)
      exact L15_worth fun i hi => k _ ⟨i, rfl, hi⟩
    · obtain ⟨r, rfl, hr⟩ := listOf hp
      (conv => whnf)
      exact k _ ⟨r, rfl, by simpa using hl, hr⟩
  · obtain ⟨R, rfl, hR⟩ := listOf hp
    (conv => whnf)
    exact k _ ⟨by simpa using hl, hR⟩
theorem tx_cps (l : List Nat) : (txA l).cps.toList = l := by simp [txA]
theorem tx_sz (l : List Nat) : (txA l).cps.size = l.length := by simp [txA]
theorem dst_nd {l : List Nat} (nd : l.Nodup) : ∀ j, j ≤ l.length → dst l j = j
  | 0, _ => rfl
  | j + 1, h => by
    have ih := dst_nd nd j (by omega)
    have hj : j < l.length := h
    have e : l[j]? = some l[j] := List.getElem?_eq_getElem hj
    have no : ¬ sjS l j (.inr ⟨#[l[j]]⟩) = true := by
      unfold sjS
      intro z
      obtain ⟨c, mc, ec⟩ := List.any_eq_true.mp z
      have ec := of_decide_eq_true ec
      have e2 : l[j] = c := by
        have := Sum.inr.inj ec
        have := congrArg (fun s : Str => s.cps.toList) this
        simpa using this
      obtain ⟨i, hi, ei⟩ := List.getElem_of_mem mc
      rw [List.length_take] at hi
      rw [List.getElem_take] at ei
      exact List.pairwise_iff_getElem.mp nd i j (by omega) hj (by omega) (ei.trans e2.symm)
    show (match l[j]? with | some c => if sjS l j (.inr ⟨#[c]⟩) = true then dst l j else dst l j + 1 | none => dst l j) = j + 1
    rw [e]
    show (if sjS l j (.inr ⟨#[l[j]]⟩) = true then dst l j else dst l j + 1) = j + 1
    rw [if_neg no, ih]
theorem all_ab {l : List Nat} (h : ∀ c ∈ l, c ∈ abA) : ((txA l).cps.toList.all fun c => decide (c ∈ (Str.ofString "abcdefghijklmnopqrstuvwxyz").cps.toList)) = true := by
  rw [List.all_eq_true]
  intro c hc
  exact decide_eq_true (h c (by simpa [txA] using hc))
theorem L_are_letters {l : List Nat} (nd : l.Nodup) (h1 : 1 ≤ l.length) (h2 : l.length ≤ 8) (ha : ∀ c ∈ l, c ∈ abA) {Q : PV → Prop} (k : Q (.bl true)) : w_are_letters [.str (txA l)] Q := by
  rw [e_are_letters]
  (conv => whnf)
  refine L_is_text_of (by rw [tx_len]; omega) ?_
  rw [all_ab ha, tx_len, decide_eq_true (by omega), Bool.and_self]
  (conv => whnf)
  refine ⟨Nat.lt_succ_self 1, by rw [tx_len]; omega, ?_⟩
  rw [tx_sz, tx_cps, dst_nd nd _ (Nat.le_refl _)]
  (conv => whnf)
  refine ⟨by rw [tx_len]; exact few (by omega), ?_⟩
  rw [tx_len]
  (conv => whnf)
  refine ⟨rfl, rfl, ?_⟩
  rw [peq_int, decide_eq_true rfl]
  exact k
theorem L_is_row {l : List Nat} (h2 : l.length ≤ 40) (ha : ∀ c ∈ l, c ∈ abA) {Q : PV → Prop} (k : Q (.bl true)) : w_is_row [.str (txA l)] Q := by
  rw [e_is_row]
  (conv => whnf)
  refine L_is_text_of (by rw [tx_len]; omega) ?_
  rw [all_ab ha, tx_len, decide_eq_true (by omega), Bool.and_self]
  exact k
theorem L_is_worth {i : Int} (h : okS i) {Q : PV → Prop} (k : Q (.bl true)) : w_is_worth [.int i] Q := by
  rw [e_is_worth]
  (conv => whnf)
  refine L_is_between ?_
  rw [decide_eq_true h]
  exact k
theorem L_is_price {i : Int} (h : 0 ≤ i ∧ i ≤ 1000000) {Q : PV → Prop} (k : Q (.bl true)) : w_is_price [.int i] Q := by
  rw [e_is_price]
  (conv => whnf)
  refine L_is_between ?_
  rw [decide_eq_true h]
  exact k
theorem L_are_worths {n : Nat} (hn : n ≤ 8) {R : List (List Int)} (hR : okR n R) {Q : PV → Prop} (k : Q (.bl true)) : w_are_worths [pvR R, .int n] Q := by
  rw [e_are_worths]
  (conv => whnf)
  rw [List.length_map, hR.1]
  refine ⟨rfl, rfl, ?_⟩
  rw [peq_int, decide_eq_true rfl]
  (conv => whnf)
  refine yforI (h := pvI) (fun l γ => (∀ r ∈ l, r.length = n ∧ ∀ i ∈ r, okS i) ∧ ∃ b2 b3, γ = [some (pvR R), some (.int n), b2, b3]) ⟨hR.2, _, _, rfl⟩ ?_ ?_
  · rintro r l γ ⟨h, b2, b3, rfl⟩ K hK
    obtain ⟨r1, r2⟩ := h r (by simp)
    (conv => whnf)
    rw [List.length_map, r1]
    refine ⟨rfl, rfl, ?_⟩
    rw [peq_int, decide_eq_true rfl]
    (conv => whnf)
    refine ⟨len_pv (by omega), ?_⟩
    (conv => whnf)
    refine ylcM (f := fun _ => .bl true) (fun i mi Q k => ?_) ?_
    · (conv => whnf)
      exact L_is_worth (r2 i mi) k
    (conv => whnf)
    rw [bools_true]
    (conv => whnf)
    rw [all_true]
    (conv => whnf)
    exact hK _ ⟨fun x hx => h x (by simp [hx]), _, _, rfl⟩
  · rintro γ ⟨-, b2, b3, rfl⟩
    (conv => whnf)
    exact k
theorem en_map : ∀ (l : List Nat) (s : Nat), enumL s (l.map chA) = (l.zipIdx s).map fun p => .tup [.int (p.2 : Nat), chA p.1]
  | [], _ => rfl
  | c :: l, s => by simp only [List.map_cons, enumL, List.zipIdx_cons, en_map l (s + 1)]
theorem ck_by {g : GG} {t : GT} {b : GB} {γ : G} {α : Type} {h : α → PV} {Q : KVs → Prop} (I : List α → KVs → Prop) : ∀ {l : List α} {d : KVs}, I l d → (∀ a l d, I (a :: l) d → ∀ K : KVs → Prop, (∀ d', I l d' → K d') → g (h a) γ fun γ2 => t γ2 fun c => bfi c (b γ2 d K) (K d)) → (∀ d, I [] d → Q d) → ckP g t b γ (l.map h) d Q
  | [], d, i, _, k => ck_nil (k d i)
  | a :: l, d, i, hs, k => ck_cons (hs a l d i _ fun d' i' => ck_by I i' hs k)
theorem zix_lt (l : List Nat) : ∀ p ∈ l.zipIdx, p.2 < l.length := fun p m => by
  have := List.snd_lt_of_mem_zipIdx m
  omega
end Lw
namespace Lw
open PySem PySem.Spec L2 Lb Vl
local macro_rules | `(tactic| walk_at "sd") => `(tactic| first | with_reducible rfl | assumption | omega | (simp only [List.length_map, List.length_range, List.length_append, List.length_cons, List.length_nil]; omega) | rfl | (constructor <;> omega) | (simp only [List.length_map, List.length_range]; constructor <;> omega) | (refine few ?_; simp; done) | (refine few ?_; simp; omega) | (refine few ?_; omega) | (refine few1 ?_; simp; done) | (refine few1 ?_; simp; omega) | walk_at "sdx" | (simp; done) | (simp; omega))
local macro_rules | `(tactic| walk_at "sdx") => `(tactic| fail)
local macro_rules | `(tactic| walk_at "call") => `(tactic| fail)
local macro_rules | `(tactic| walk_at "go1") => `(tactic| first | walk_at "call" | refine And.intro (by walk_at "sd") ?_ | refine bift (by walk_at "sd") ?_ | refine biff (by walk_at "sd") ?_ | refine nbift (by walk_at "sd") ?_ | refine nbiff (by walk_at "sd") ?_ | with_reducible refine yfor_cons ?_ | with_reducible refine yfor_nil ?_ | with_reducible refine ylc_cons ?_ | with_reducible refine ylc_nil ?_ | rw [peq_int])
local macro_rules | `(tactic| walk_at "go") => `(tactic| ((repeat ((conv => whnf); walk_at "go1")); try (conv => whnf)))
local macro_rules | `(tactic| walk_at "call") => `(tactic| refine L_is_whole ?_)
local macro_rules | `(tactic| walk_at "call") => `(tactic| refine L_is_place (by walk_at "sd") ?_)
local macro_rules | `(tactic| walk_at "call") => `(tactic| refine L_is_step ?_)
local macro_rules | `(tactic| walk_at "sdx") => `(tactic| exact len_pv lds_len3)
theorem joinA_nil : ∀ ys : List (List Nat), TL.joinL [] ys = ys.flatten
  | [] => rfl
  | [p] => by simp [TL.joinL]
  | p :: q :: r => by
    have := joinA_nil (q :: r)
    simp only [TL.joinL, this, List.nil_append, List.flatten_cons]
def sgn (c : Nat) : Str := ⟨#[c]⟩
theorem flatA (l : List Nat) : (l.map fun c => [c]).flatten = l := by
  induction l with
  | nil => rfl
  | cons s t ih => simp only [List.map_cons, List.flatten_cons, ih]; rfl
theorem join_a (l : List Nat) : Txt.join (Str.ofString "") (l.map sgn) = txA l := by
  have h : l.map sgn = (l.map fun c => [c]).map SX.S := by rw [List.map_map]; rfl
  have e : (Str.ofString "") = SX.S [] := by decide +kernel
  rw [h, e, SX.join_S, joinA_nil, flatA]; rfl
theorem strs_a (l : List Nat) : pStrs (l.map chA) = some (l.map sgn) := by
  induction l with
  | nil => rfl
  | cons s t ih => simp only [List.map_cons, chA, pStrs]; rw [show pStrs (t.map chA) = _ from ih]; rfl
theorem lens_a (l : List Nat) : ((l.map sgn).map (·.length)).sum = l.length := by
  induction l with
  | nil => rfl
  | cons s t ih => simp only [List.map_cons, List.sum_cons, List.length_cons, ih]; show 1 + _ = _; omega
theorem atI_nat {α : Type} {l : List α} {n : Nat} (h : n < l.length) : atI l (n : Int) = some l[n] := by
  have := atI_at (f := fun x : α => x) (List.getElem?_eq_getElem h)
  rw [List.map_id'] at this
  exact this
end Lw
namespace Lw
open PySem PySem.Spec L2 Lb Vl
local macro_rules | `(tactic| walk_at "sd") => `(tactic| first | with_reducible rfl | assumption | omega | (simp only [List.length_map, List.length_range, List.length_append, List.length_cons, List.length_nil]; omega) | rfl | (constructor <;> omega) | (simp only [List.length_map, List.length_range]; constructor <;> omega) | (refine few ?_; simp; done) | (refine few ?_; simp; omega) | (refine few ?_; omega) | (refine few1 ?_; simp; done) | (refine few1 ?_; simp; omega) | walk_at "sdx" | (simp; done) | (simp; omega))
local macro_rules | `(tactic| walk_at "sdx") => `(tactic| fail)
local macro_rules | `(tactic| walk_at "call") => `(tactic| fail)
local macro_rules | `(tactic| walk_at "go1") => `(tactic| first | walk_at "call" | refine And.intro (by walk_at "sd") ?_ | refine bift (by walk_at "sd") ?_ | refine biff (by walk_at "sd") ?_ | refine nbift (by walk_at "sd") ?_ | refine nbiff (by walk_at "sd") ?_ | with_reducible refine yfor_cons ?_ | with_reducible refine yfor_nil ?_ | with_reducible refine ylc_cons ?_ | with_reducible refine ylc_nil ?_ | rw [peq_int])
local macro_rules | `(tactic| walk_at "go") => `(tactic| ((repeat ((conv => whnf); walk_at "go1")); try (conv => whnf)))
local macro_rules | `(tactic| walk_at "call") => `(tactic| refine L_is_whole ?_)
local macro_rules | `(tactic| walk_at "call") => `(tactic| refine L_is_place (by walk_at "sd") ?_)
local macro_rules | `(tactic| walk_at "call") => `(tactic| refine L_is_step ?_)
local macro_rules | `(tactic| walk_at "sdx") => `(tactic| exact len_pv lds_len3)
structure Sc where
  l : List Nat
  R : List (List Int)
  o : Int
  c : Int
def Sc.w (S : Sc) (a b : Nat) : Int := (S.R.getD (S.l.idxOf a) []).getD (S.l.idxOf b) 0
structure Sc.Ok (S : Sc) : Prop where
  nd : S.l.Nodup
  h1 : 1 ≤ S.l.length
  h2 : S.l.length ≤ 8
  ha : ∀ c ∈ S.l, c ∈ abA
  hR : okR S.l.length S.R
  po : 0 ≤ S.o ∧ S.o ≤ 1000000
  pc : 0 ≤ S.c ∧ S.c ≤ 1000000
def pvSc (S : Sc) (d : KVs) : PV := .ins 0 [.str (txA S.l), .dT d, .int S.o, .int S.c]
def keyL (a b : Nat) : List Key := [.inr (sgn a), .inr (sgn b)]
theorem sgn_inj {a b : Nat} (h : sgn a = sgn b) : a = b := by
  have := congrArg (fun s : Str => s.cps.toList) h
  simpa [sgn] using this
theorem keyL_inj {a b a' b' : Nat} (h : keyL a b = keyL a' b') : a = a' ∧ b = b' := by
  unfold keyL at h
  simp only [List.cons.injEq, Sum.inr.injEq, and_true] at h
  exact ⟨sgn_inj h.1, sgn_inj h.2⟩
def DOk (S : Sc) (d : KVs) : Prop := ∀ a ∈ S.l, ∀ b ∈ S.l, valP d (keyL a b) = some (.int (S.w a b))
theorem Sc.Ok.w {S : Sc} (ok : S.Ok) {a b : Nat} (ha : a ∈ S.l) (hb : b ∈ S.l) : okS (S.w a b) := by
  unfold Sc.w
  have h1 := List.idxOf_lt_length_iff.mpr ha
  have h2 := List.idxOf_lt_length_iff.mpr hb
  obtain ⟨q1, q2⟩ := ok.hR
  have e1 : S.R.getD (S.l.idxOf a) [] = S.R[S.l.idxOf a]'(by omega) := by simp [List.getD, List.getElem?_eq_getElem (show S.l.idxOf a < S.R.length by omega)]
  rw [e1]
  have q := q2 _ (List.getElem_mem (show S.l.idxOf a < S.R.length by omega))
  have e2 : (S.R[S.l.idxOf a]'(by omega)).getD (S.l.idxOf b) 0 = (S.R[S.l.idxOf a]'(by omega))[S.l.idxOf b]'(by omega) := by simp [List.getD, List.getElem?_eq_getElem (show S.l.idxOf b < (S.R[S.l.idxOf a]'(by omega)).length by omega)]
  rw [e2]
  exact q.2 _ (List.getElem_mem _)
theorem zix_at {l : List Nat} {p : Nat × Nat} (m : p ∈ l.zipIdx) : l[p.2]? = some p.1 := List.mem_zipIdx_iff_getElem?.mp m
theorem zix_idx {l : List Nat} (nd : l.Nodup) {p : Nat × Nat} (m : p ∈ l.zipIdx) : l.idxOf p.1 = p.2 := by
  have h := zix_at m
  obtain ⟨h1, h2⟩ := List.getElem?_eq_some_iff.mp h
  rw [← h2]
  exact nd.idxOf_getElem p.2 h1
theorem Sc.Ok.at_ {S : Sc} (ok : S.Ok) {p q : Nat × Nat} (mp : p ∈ S.l.zipIdx) (mq : q ∈ S.l.zipIdx) : ∃ r : List Int, atI (S.R.map pvI) (p.2 : Int) = some (pvI r) ∧ atI (r.map PV.int) (q.2 : Int) = some (.int (S.w p.1 q.1)) := by
  have h1 := zix_lt S.l p mp
  have h2 := zix_lt S.l q mq
  obtain ⟨q1, q2⟩ := ok.hR
  have h3 : p.2 < S.R.length := by omega
  have h4 := (q2 S.R[p.2] (List.getElem_mem h3)).1
  refine ⟨S.R[p.2], atI_at (List.getElem?_eq_getElem h3), ?_⟩
  have e : S.w p.1 q.1 = (S.R[p.2])[q.2]'(by omega) := by
    unfold Sc.w
    rw [zix_idx ok.nd mp, zix_idx ok.nd mq]
    simp [List.getD, List.getElem?_eq_getElem h3, List.getElem?_eq_getElem (show q.2 < (S.R[p.2]).length by omega)]
  rw [e]
  exact atI_at (List.getElem?_eq_getElem (by omega))
theorem zix_mem {l : List Nat} {a : Nat} (h : a ∈ l) : a ∈ l.zipIdx.map (·.1) := by
  rw [show l.zipIdx.map (·.1) = l by simp]; exact h
theorem put_w {S : Sc} {d : KVs} {a b a' b' : Nat} : valP (putP d (keyL a b) (.int (S.w a b))) (keyL a' b') = if a = a' ∧ b = b' then some (.int (S.w a' b')) else valP d (keyL a' b') := by
  rw [valP_put]
  by_cases h : keyL a b = keyL a' b'
  · obtain ⟨rfl, rfl⟩ := keyL_inj h
    rw [if_pos rfl, if_pos ⟨rfl, rfl⟩]
  · rw [if_neg h, if_neg fun z => h (by rw [z.1, z.2])]
theorem L_Sc {S : Sc} (ok : S.Ok) {Q : PV → Prop} (k : ∀ d, DOk S d → Q (pvSc S d)) : w_Scale_init [.str (txA S.l), pvR S.R, .int S.o, .int S.c] Q := by
  rw [e_Scale_init]
  have h1 := ok.h1
  have h2 := ok.h2
  (conv => whnf)
  refine L_are_letters ok.nd ok.h1 ok.h2 ok.ha ?_
  (conv => whnf)
  refine ⟨by rw [tx_len]; exact few (by omega), ?_⟩
  rw [tx_len]
  (conv => whnf)
  refine L_are_worths h2 ok.hR ?_
  (conv => whnf)
  try refine ⟨rfl, ?_⟩
  (conv => whnf)
  try refine ⟨rfl, ?_⟩
  (conv => whnf)
  refine yfor_cons ?_
  (conv => whnf)
  refine L_is_price ok.po ?_
  (conv => whnf)
  refine yfor_cons ?_
  (conv => whnf)
  refine L_is_price ok.pc ?_
  (conv => whnf)
  refine yfor_nil ?_
  (conv => whnf)
  refine ⟨rfl, ?_⟩
  (conv => whnf)
  refine ⟨rfl, ?_⟩
  (conv => whnf)
  rw [chars_tx, en_map]
  refine ck_by (fun (es : List (Nat × Nat)) d => (∀ p ∈ es, p ∈ S.l.zipIdx) ∧ d.length + es.length * S.l.length ≤ 64 ∧ ∀ a ∈ S.l, ∀ b ∈ S.l, a ∈ es.map (·.1) ∨ valP d (keyL a b) = some (.int (S.w a b))) ⟨fun _ m => m, ?_, fun a ha b _ => .inl (zix_mem ha)⟩ ?_ ?_
  · rw [List.length_zipIdx, List.length_nil, Nat.zero_add]
    exact Nat.mul_le_mul h2 h2
  · rintro p es d ⟨g1, g2, g3⟩ K hK
    have gp := g1 p (by simp)
    (conv => whnf)
    rw [chars_tx, en_map]
    refine ck_by (fun (fs : List (Nat × Nat)) d => (∀ p ∈ fs, p ∈ S.l.zipIdx) ∧ d.length + fs.length + es.length * S.l.length ≤ 64 ∧ ∀ a ∈ S.l, ∀ b ∈ S.l, a ∈ es.map (·.1) ∨ (a = p.1 ∧ b ∈ fs.map (·.1)) ∨ valP d (keyL a b) = some (.int (S.w a b))) ⟨fun _ m => m, ?_, ?_⟩ ?_ ?_
    · rw [List.length_zipIdx]
      simp only [List.length_cons, Nat.add_mul, Nat.one_mul] at g2
      omega
    · intro a ha b hb
      rcases g3 a ha b hb with z | z
      · rcases List.mem_cons.mp z with z | z
        · exact .inr (.inl ⟨z, zix_mem hb⟩)
        · exact .inl z
      · exact .inr (.inr z)
    · rintro q fs d ⟨f1, f2, f3⟩ K hK
      have fq := f1 q (by simp)
      obtain ⟨r, e1, e2⟩ := ok.at_ gp fq
      simp only [List.length_cons] at f2
      (conv => whnf)
      rw [e1]
      (conv => whnf)
      rw [e2]
      (conv => whnf)
      refine ⟨rfl, few1 (by omega), hK _ ⟨fun z m => f1 z (by simp [m]), ?_, fun a ha b hb => ?_⟩⟩
      · refine Nat.le_trans (Nat.add_le_add_right (Nat.add_le_add_right (len_putP _ _ _) _) _) (by omega)
      · show _ ∨ _ ∨ valP (putP d (keyL p.1 q.1) (.int (S.w p.1 q.1))) (keyL a b) = _
        rw [put_w]
        by_cases e : p.1 = a ∧ q.1 = b
        · rw [if_pos e]; exact .inr (.inr rfl)
        · rw [if_neg e]
          rcases f3 a ha b hb with z | ⟨z1, z2⟩ | z
          · exact .inl z
          · rcases List.mem_cons.mp z2 with z2 | z2
            · exact absurd ⟨z1.symm, z2.symm⟩ e
            · exact .inr (.inl ⟨z1, z2⟩)
          · exact .inr (.inr z)
    · rintro d ⟨_, f2, f3⟩
      refine hK _ ⟨fun z m => g1 z (by simp [m]), by simpa using f2, fun a ha b hb => ?_⟩
      rcases f3 a ha b hb with z | ⟨_, z⟩ | z
      · exact .inl z
      · cases z
      · exact .inr z
  · rintro d ⟨_, g2, g3⟩
    (conv => whnf)
    refine ⟨rfl, ?_⟩
    (conv => whnf)
    refine ⟨rfl, ?_⟩
    (conv => whnf)
    refine ⟨rfl, ?_⟩
    (conv => whnf)
    refine ⟨rfl, Nat.le_refl 2, ?_⟩
    (conv => whnf)
    refine ⟨rfl, Nat.le_refl 3, ?_⟩
    (conv => whnf)
    exact k d fun a ha b hb => (g3 a ha b hb).elim (fun z => by cases z) id
theorem L_Sc_letters {S : Sc} {d : KVs} {Q : PV → Prop} (k : Q (.str (txA S.l))) : w_Scale_letters [pvSc S d] Q := by
  rw [e_Scale_letters]
  exact ⟨rfl, rfl, k⟩
theorem L_Sc_each {S : Sc} {d : KVs} {Q : PV → Prop} (k : Q (.int S.c)) : w_Scale_each [pvSc S d] Q := by
  rw [e_Scale_each]
  exact ⟨rfl, rfl, k⟩
theorem L_Sc_opening {S : Sc} {d : KVs} {Q : PV → Prop} (k : Q (.int S.o)) : w_Scale_opening [pvSc S d] Q := by
  rw [e_Scale_opening]
  exact ⟨rfl, rfl, k⟩
theorem L_is_letter {c : Nat} (h : c ∈ abA) {Q : PV → Prop} (k : Q (.bl true)) : w_is_letter [chA c] Q := by
  rw [e_is_letter]
  have e : chA c = .str (txA [c]) := rfl
  rw [e]
  (conv => whnf)
  refine L_is_text_of (by rw [tx_len]; simp) ?_
  rw [all_ab (by simpa using h), tx_len, decide_eq_true (by simp), Bool.and_self]
  exact k
theorem L_worth_of {S : Sc} (ok : S.Ok) {d : KVs} (hd : DOk S d) {a b : Nat} (ha : a ∈ S.l) (hb : b ∈ S.l) {Q : PV → Prop} (k : Q (.int (S.w a b))) : w_Scale_worth_of [pvSc S d, chA a, chA b] Q := by
  rw [e_Scale_worth_of]
  (conv => whnf)
  try refine ⟨rfl, ?_⟩
  (conv => whnf)
  try refine ⟨rfl, ?_⟩
  (conv => whnf)
  refine yfor_cons ?_
  (conv => whnf)
  refine L_is_letter (ok.ha a ha) ?_
  (conv => whnf)
  refine yfor_cons ?_
  (conv => whnf)
  refine L_is_letter (ok.ha b hb) ?_
  (conv => whnf)
  refine yfor_nil ?_
  (conv => whnf)
  refine yfor_cons ?_
  (conv => whnf)
  refine ⟨rfl, ?_⟩
  (conv => whnf)
  refine ⟨rfl, ?_⟩
  rw [tx_cps]
  show bfi (!decide (a ∈ S.l)) _ _
  rw [decide_eq_true ha]
  (conv => whnf)
  refine yfor_cons ?_
  (conv => whnf)
  refine ⟨rfl, ?_⟩
  (conv => whnf)
  refine ⟨rfl, ?_⟩
  rw [tx_cps]
  show bfi (!decide (b ∈ S.l)) _ _
  rw [decide_eq_true hb]
  (conv => whnf)
  refine yfor_nil ?_
  (conv => whnf)
  refine ⟨rfl, ?_⟩
  (conv => whnf)
  rw [show valP d [.inr ⟨#[a]⟩, .inr ⟨#[b]⟩] = some (.int (S.w a b)) from hd a ha b hb]
  (conv => whnf)
  exact ⟨rfl, k⟩
theorem L_need_letters {S : Sc} {d : KVs} {r : List Nat} (h1 : r.length ≤ 1000) (hr : ∀ c ∈ r, c ∈ S.l) {Q : PV → Prop} (k : Q .non) : w_need_letters [.str (txA r), pvSc S d] Q := by
  rw [e_need_letters]
  (conv => whnf)
  rw [chars_tx]
  refine yforI (h := chA) (fun l γ => (∀ c ∈ l, c ∈ S.l) ∧ ∃ b2, γ = [some (.str (txA r)), some (pvSc S d), b2]) ⟨hr, _, rfl⟩ ?_ ?_
  · rintro c l γ ⟨h, b2, rfl⟩ K hK
    (conv => whnf)
    refine ⟨rfl, L_Sc_letters ?_⟩
    (conv => whnf)
    refine ⟨rfl, ?_⟩
    rw [tx_cps]
    show bfi (!decide (c ∈ S.l)) _ _
    rw [decide_eq_true (h c (by simp))]
    (conv => whnf)
    exact hK _ ⟨fun x m => h x (by simp [m]), _, rfl⟩
  · rintro γ ⟨_, b2, rfl⟩
    exact k
/-- the field of two rows by a scale -/
def fdOf (S : Sc) (r t : List Nat) : Fd := ⟨r.map fun a => t.map fun b => S.w a b, List.replicate r.length S.c, List.replicate t.length S.c, S.o⟩
theorem pr_fd {S : Sc} {r t : List Nat} {i j : Nat} {a b : Nat} (h1 : r[i]? = some a) (h2 : t[j]? = some b) : (fdOf S r t).pr i j = S.w a b := by
  simp [Fd.pr, fdOf, List.getD, h1, h2]
end Lw
namespace Lw
open PySem PySem.Spec L2 Lb Vl
local macro_rules | `(tactic| walk_at "sd") => `(tactic| first | with_reducible rfl | assumption | omega | (simp only [List.length_map, List.length_range, List.length_append, List.length_cons, List.length_nil]; omega) | rfl | (constructor <;> omega) | (simp only [List.length_map, List.length_range]; constructor <;> omega) | (refine few ?_; simp; done) | (refine few ?_; simp; omega) | (refine few ?_; omega) | (refine few1 ?_; simp; done) | (refine few1 ?_; simp; omega) | walk_at "sdx" | (simp; done) | (simp; omega))
local macro_rules | `(tactic| walk_at "sdx") => `(tactic| fail)
local macro_rules | `(tactic| walk_at "call") => `(tactic| fail)
local macro_rules | `(tactic| walk_at "go1") => `(tactic| first | walk_at "call" | refine And.intro (by walk_at "sd") ?_ | refine bift (by walk_at "sd") ?_ | refine biff (by walk_at "sd") ?_ | refine nbift (by walk_at "sd") ?_ | refine nbiff (by walk_at "sd") ?_ | with_reducible refine yfor_cons ?_ | with_reducible refine yfor_nil ?_ | with_reducible refine ylc_cons ?_ | with_reducible refine ylc_nil ?_ | rw [peq_int])
local macro_rules | `(tactic| walk_at "go") => `(tactic| ((repeat ((conv => whnf); walk_at "go1")); try (conv => whnf)))
local macro_rules | `(tactic| walk_at "call") => `(tactic| refine L_is_whole ?_)
local macro_rules | `(tactic| walk_at "call") => `(tactic| refine L_is_place (by walk_at "sd") ?_)
local macro_rules | `(tactic| walk_at "call") => `(tactic| refine L_is_step ?_)
local macro_rules | `(tactic| walk_at "sdx") => `(tactic| exact len_pv lds_len3)
theorem tx_lo {l : List Nat} {j : Nat} (h : j ≤ l.length) : cutS (txA l) none (some (j : Int)) = txA (l.take j) := by
  rw [tx_cut, HT.sIx_none, HT.sIx_nat, List.drop_zero, Nat.sub_zero, Nat.min_eq_left h]
theorem tx_hi {l : List Nat} {j : Nat} (h : j ≤ l.length) : cutS (txA l) (some (j : Int)) none = txA (l.drop j) := by
  rw [tx_cut, HT.sIx_none, HT.sIx_nat, Nat.min_eq_left h]
  congr 1
  rw [List.take_of_length_le (by rw [List.length_drop]; omega)]
end Lw
namespace Lw
open PySem PySem.Spec L2 Lb Vl
local macro_rules | `(tactic| walk_at "sd") => `(tactic| first | with_reducible rfl | assumption | omega | (simp only [List.length_map, List.length_range, List.length_append, List.length_cons, List.length_nil]; omega) | rfl | (constructor <;> omega) | (simp only [List.length_map, List.length_range]; constructor <;> omega) | (refine few ?_; simp; done) | (refine few ?_; simp; omega) | (refine few ?_; omega) | (refine few1 ?_; simp; done) | (refine few1 ?_; simp; omega) | walk_at "sdx" | (simp; done) | (simp; omega))
local macro_rules | `(tactic| walk_at "sdx") => `(tactic| fail)
local macro_rules | `(tactic| walk_at "call") => `(tactic| fail)
local macro_rules | `(tactic| walk_at "go1") => `(tactic| first | walk_at "call" | refine And.intro (by walk_at "sd") ?_ | refine bift (by walk_at "sd") ?_ | refine biff (by walk_at "sd") ?_ | refine nbift (by walk_at "sd") ?_ | refine nbiff (by walk_at "sd") ?_ | with_reducible refine yfor_cons ?_ | with_reducible refine yfor_nil ?_ | with_reducible refine ylc_cons ?_ | with_reducible refine ylc_nil ?_ | rw [peq_int])
local macro_rules | `(tactic| walk_at "go") => `(tactic| ((repeat ((conv => whnf); walk_at "go1")); try (conv => whnf)))
local macro_rules | `(tactic| walk_at "call") => `(tactic| refine L_is_whole ?_)
local macro_rules | `(tactic| walk_at "call") => `(tactic| refine L_is_place (by walk_at "sd") ?_)
local macro_rules | `(tactic| walk_at "call") => `(tactic| refine L_is_step ?_)
local macro_rules | `(tactic| walk_at "sdx") => `(tactic| exact len_pv lds_len3)
end Lw
namespace Lw
open PySem PySem.Spec L2 Lb Vl
local macro_rules | `(tactic| walk_at "sd") => `(tactic| first | with_reducible rfl | assumption | omega | (simp only [List.length_map, List.length_range, List.length_append, List.length_cons, List.length_nil]; omega) | rfl | (constructor <;> omega) | (simp only [List.length_map, List.length_range]; constructor <;> omega) | (refine few ?_; simp; done) | (refine few ?_; simp; omega) | (refine few ?_; omega) | (refine few1 ?_; simp; done) | (refine few1 ?_; simp; omega) | walk_at "sdx" | (simp; done) | (simp; omega))
local macro_rules | `(tactic| walk_at "sdx") => `(tactic| fail)
local macro_rules | `(tactic| walk_at "call") => `(tactic| fail)
local macro_rules | `(tactic| walk_at "go1") => `(tactic| first | walk_at "call" | refine And.intro (by walk_at "sd") ?_ | refine bift (by walk_at "sd") ?_ | refine biff (by walk_at "sd") ?_ | refine nbift (by walk_at "sd") ?_ | refine nbiff (by walk_at "sd") ?_ | with_reducible refine yfor_cons ?_ | with_reducible refine yfor_nil ?_ | with_reducible refine ylc_cons ?_ | with_reducible refine ylc_nil ?_ | rw [peq_int])
local macro_rules | `(tactic| walk_at "go") => `(tactic| ((repeat ((conv => whnf); walk_at "go1")); try (conv => whnf)))
local macro_rules | `(tactic| walk_at "call") => `(tactic| refine L_is_whole ?_)
local macro_rules | `(tactic| walk_at "call") => `(tactic| refine L_is_place (by walk_at "sd") ?_)
local macro_rules | `(tactic| walk_at "call") => `(tactic| refine L_is_step ?_)
local macro_rules | `(tactic| walk_at "sdx") => `(tactic| exact len_pv lds_len3)
def bdN (F : Fd) (e : Ens) : Nat → Tb
  | 0 => fun _ _ _ => 0
  | n + 1 => fun i j a => if lds F e i j = [] then 0 else maxL ((lds F e i j).map (tr (bdN F e n) a))
def lft (F : Fd) (i j : Nat) : Nat := (F.over.length - i) + (F.under.length - j)
theorem lds_lft {F : Fd} {e : Ens} {i j : Nat} (hi : i ≤ F.over.length) (hj : j ≤ F.under.length) {x : Ld} (hx : x ∈ lds F e i j) : lft F x.i x.j < lft F i j ∧ x.i ≤ F.over.length ∧ x.j ≤ F.under.length := by
  rw [lds_nxs] at hx
  obtain ⟨y, hy, rfl⟩ := List.mem_map.mp hx
  have := nxs_lead hi hj y hy
  unfold lft ldOf
  simp only
  omega
theorem lds_end {F : Fd} {e : Ens} {i j : Nat} (hi : i ≤ F.over.length) (hj : j ≤ F.under.length) (h : lft F i j = 0) : lds F e i j = [] := by
  unfold lft at h
  have h1 : i = F.over.length := by omega
  have h2 : j = F.under.length := by omega
  subst h1; subst h2
  simp [lds]
theorem bdN_eq {F : Fd} {e : Ens} : ∀ (n m i j : Nat) (a : Stp), i ≤ F.over.length → j ≤ F.under.length → lft F i j ≤ n → lft F i j ≤ m → bdN F e n i j a = bdN F e m i j a := by
  intro n
  induction n with
  | zero =>
    intro m i j a hi hj h1 h2
    cases m with
    | zero => rfl
    | succ m => simp only [bdN]; rw [if_pos (lds_end hi hj (by omega))]
  | succ n ih =>
    intro m i j a hi hj h1 h2
    cases m with
    | zero => simp only [bdN]; rw [if_pos (lds_end hi hj (by omega))]
    | succ m =>
      simp only [bdN]
      congr 2
      apply List.map_congr_left
      intro x hx
      have l := lds_lft hi hj hx
      simp only [tr]
      rw [ih m x.i x.j x.s l.2.1 l.2.2 (by omega) (by omega)]
def bdF (F : Fd) (e : Ens) : Tb := fun i j => bdN F e (lft F i j) i j
theorem met_bdF (F : Fd) (e : Ens) : Met F e (bdF F e) := by
  intro i j hi hj a
  show bdN F e (lft F i j) i j a = _
  rw [bdN_eq (lft F i j) (lft F i j + 1) i j a hi hj (Nat.le_refl _) (by omega)]
  simp only [bdN]
  congr 2
  apply List.map_congr_left
  intro x hx
  have l := lds_lft hi hj hx
  simp only [tr]
  rw [show bdF F e x.i x.j x.s = bdN F e (lft F x.i x.j) x.i x.j x.s from rfl, bdN_eq (lft F i j) (lft F x.i x.j) x.i x.j x.s l.2.1 l.2.2 (by omega) (Nat.le_refl _)]
/-- the bounds are told by their law alone -/
theorem met_uniq {F : Fd} {e : Ens} {f g : Tb} (mf : Met F e f) (mg : Met F e g) : ∀ (n i j : Nat) (a : Stp), i ≤ F.over.length → j ≤ F.under.length → lft F i j ≤ n → f i j a = g i j a := by
  intro n
  induction n with
  | zero =>
    intro i j a hi hj h
    rw [mf i j hi hj a, mg i j hi hj a, if_pos (lds_end hi hj (by omega)), if_pos (lds_end hi hj (by omega))]
  | succ n ih =>
    intro i j a hi hj h
    rw [mf i j hi hj a, mg i j hi hj a]
    congr 2
    apply List.map_congr_left
    intro x hx
    have l := lds_lft hi hj hx
    simp only [tr]
    rw [ih x.i x.j x.s l.2.1 l.2.2 (by omega)]
inductive Seg (F : Fd) (e : Ens) (f : Tb) : Nat → Nat → Stp → List Stp → Nat → Nat → Stp → Prop
  | refl (i j : Nat) (a : Stp) : Seg F e f i j a [] i j a
  | cons {i j : Nat} {a : Stp} {x : Nx} {t : List Stp} {i' j' : Nat} {a' : Stp} : ¬ (i = F.over.length ∧ j = F.under.length) → (nxF F e f i j a).head? = some x → Seg F e f x.i x.j x.s t i' j' a' → Seg F e f i j a (x.s :: t) i' j' a'
theorem Seg.trans {F : Fd} {e : Ens} {f : Tb} {i j : Nat} {a : Stp} {p : List Stp} {i1 j1 : Nat} {a1 : Stp} (h : Seg F e f i j a p i1 j1 a1) : ∀ {q : List Stp} {i2 j2 : Nat} {a2 : Stp}, Seg F e f i1 j1 a1 q i2 j2 a2 → Seg F e f i j a (p ++ q) i2 j2 a2 := by
  induction h with
  | refl => intro q i2 j2 a2 h; exact h
  | cons n hx _ ih => intro q i2 j2 a2 h; exact .cons n hx (ih h)
end Lw
namespace Lw
open PySem PySem.Spec L2 Lb Vl
local macro_rules | `(tactic| walk_at "sd") => `(tactic| first | with_reducible rfl | assumption | omega | (simp only [List.length_map, List.length_range, List.length_append, List.length_cons, List.length_nil]; omega) | rfl | (constructor <;> omega) | (simp only [List.length_map, List.length_range]; constructor <;> omega) | (refine few ?_; simp; done) | (refine few ?_; simp; omega) | (refine few ?_; omega) | (refine few1 ?_; simp; done) | (refine few1 ?_; simp; omega) | walk_at "sdx" | (simp; done) | (simp; omega))
local macro_rules | `(tactic| walk_at "sdx") => `(tactic| fail)
local macro_rules | `(tactic| walk_at "call") => `(tactic| fail)
local macro_rules | `(tactic| walk_at "go1") => `(tactic| first | walk_at "call" | refine And.intro (by walk_at "sd") ?_ | refine bift (by walk_at "sd") ?_ | refine biff (by walk_at "sd") ?_ | refine nbift (by walk_at "sd") ?_ | refine nbiff (by walk_at "sd") ?_ | with_reducible refine yfor_cons ?_ | with_reducible refine yfor_nil ?_ | with_reducible refine ylc_cons ?_ | with_reducible refine ylc_nil ?_ | rw [peq_int])
local macro_rules | `(tactic| walk_at "go") => `(tactic| ((repeat ((conv => whnf); walk_at "go1")); try (conv => whnf)))
local macro_rules | `(tactic| walk_at "call") => `(tactic| refine L_is_whole ?_)
local macro_rules | `(tactic| walk_at "call") => `(tactic| refine L_is_place (by walk_at "sd") ?_)
local macro_rules | `(tactic| walk_at "call") => `(tactic| refine L_is_step ?_)
local macro_rules | `(tactic| walk_at "sdx") => `(tactic| exact len_pv lds_len3)
def Wz : Ens := ⟨false, false, false, false⟩
theorem fd_ov {S : Sc} {r t : List Nat} {i : Nat} (h : i < r.length) : (fdOf S r t).ov i = S.c := by simp [Fd.ov, fdOf, List.getD, h]
theorem fd_un {S : Sc} {r t : List Nat} {j : Nat} (h : j < t.length) : (fdOf S r t).un j = S.c := by simp [Fd.un, fdOf, List.getD, h]
theorem fd_h {S : Sc} {r t : List Nat} : (fdOf S r t).over.length = r.length := by simp [fdOf]
theorem fd_w {S : Sc} {r t : List Nat} : (fdOf S r t).under.length = t.length := by simp [fdOf]
@[irreducible] def bdZ (F : Fd) : Tb := bdF F Wz
theorem met_bdZ (F : Fd) : Met F Wz (bdZ F) := by unfold bdZ; exact met_bdF F Wz
theorem met_n {F : Fd} {e : Ens} {f : Tb} {i j : Nat} (m : MetAt F e f i j) (a : Stp) : f i j a = if nxs F.over.length F.under.length i j = [] then 0 else maxL ((nxs F.over.length F.under.length i j).map fun x => sw F e i j x.s a + f x.i x.j x.s) := by
  rw [m a, lds_nxs]
  by_cases h : nxs F.over.length F.under.length i j = []
  · rw [h]; rfl
  · rw [if_neg (by simpa using h), if_neg h, List.map_map]
    congr 1
    apply List.map_congr_left
    intro x _
    exact tr_sw x
theorem sw_sfx {S : Sc} {r t : List Nat} {i j i' j' : Nat} {s a : Stp} (h : lead (fdOf S (r.drop i) (t.drop j)) i' j' s) : sw (fdOf S r t) Wz (i + i') (j + j') s a = sw (fdOf S (r.drop i) (t.drop j)) Wz i' j' s a := by
  cases s with
  | b =>
    obtain ⟨h1, h2⟩ := h
    rw [fd_h, List.length_drop] at h1
    rw [fd_w, List.length_drop] at h2
    show (fdOf S r t).pr _ _ = (fdOf S (r.drop i) (t.drop j)).pr _ _
    have e1 : r[i + i']? = some r[i + i'] := List.getElem?_eq_getElem (by omega)
    have e2 : t[j + j']? = some t[j + j'] := List.getElem?_eq_getElem (by omega)
    rw [pr_fd e1 e2, pr_fd (by rw [List.getElem?_drop]; exact e1) (by rw [List.getElem?_drop]; exact e2)]
  | o =>
    obtain ⟨h1, h2⟩ := h
    rw [fd_h, List.length_drop] at h1
    simp only [sw, Wz, fd_ov (S := S) (r := r) (t := t) (show i + i' < r.length by omega), fd_ov (S := S) (r := r.drop i) (t := t.drop j) (show i' < (r.drop i).length by rw [List.length_drop]; omega)]
    simp
    rfl
  | u =>
    obtain ⟨h1, h2⟩ := h
    rw [fd_w, List.length_drop] at h2
    simp only [sw, Wz, fd_un (S := S) (r := r) (t := t) (show j + j' < t.length by omega), fd_un (S := S) (r := r.drop i) (t := t.drop j) (show j' < (t.drop j).length by rw [List.length_drop]; omega)]
    simp
    rfl
theorem nxs_sfx {h w i j i' j' : Nat} (hi : i ≤ h) (hj : j ≤ w) : nxs h w (i + i') (j + j') = (nxs (h - i) (w - j) i' j').map fun x => ⟨x.s, i + x.i, j + x.j⟩ := by
  unfold nxs
  by_cases h1 : i + i' < h <;> by_cases h2 : j + j' < w
  · simp [h1, h2, show i' < h - i by omega, show j' < w - j by omega, Nat.add_assoc]
  · simp [h1, h2, show i' < h - i by omega, show ¬ j' < w - j by omega, Nat.add_assoc]
  · simp [h1, h2, show ¬ i' < h - i by omega, show j' < w - j by omega, Nat.add_assoc]
  · simp [h1, h2, show ¬ i' < h - i by omega, show ¬ j' < w - j by omega]
def sB (S : Sc) (r t : List Nat) : Stp → Int := bdZ (fdOf S r t) 0 0
theorem met_of_n {F : Fd} {e : Ens} {f : Tb} (h : ∀ i j, i ≤ F.over.length → j ≤ F.under.length → ∀ a, f i j a = if nxs F.over.length F.under.length i j = [] then 0 else maxL ((nxs F.over.length F.under.length i j).map fun x => sw F e i j x.s a + f x.i x.j x.s)) : Met F e f := by
  intro i j hi hj a
  rw [h i j hi hj a, lds_nxs]
  by_cases hn : nxs F.over.length F.under.length i j = []
  · rw [hn]; rfl
  · rw [if_neg hn, if_neg (by simpa using hn), List.map_map]
    congr 1
    apply List.map_congr_left
    intro x _
    exact (tr_sw x).symm
theorem bd_sfx {S : Sc} {r t : List Nat} {i j : Nat} (hi : i ≤ r.length) (hj : j ≤ t.length) : bdZ (fdOf S r t) i j = sB S (r.drop i) (t.drop j) := by
  have m : Met (fdOf S (r.drop i) (t.drop j)) Wz (fun i' j' => bdZ (fdOf S r t) (i + i') (j + j')) := by
    refine met_of_n fun i' j' h1 h2 a => ?_
    rw [fd_h, List.length_drop] at h1
    rw [fd_w, List.length_drop] at h2
    have m0 := met_n (met_bdZ (fdOf S r t) (i + i') (j + j') (by rw [fd_h]; omega) (by rw [fd_w]; omega)) a
    rw [m0, fd_h, fd_w, fd_h, fd_w, List.length_drop, List.length_drop, nxs_sfx hi hj]
    by_cases hn : nxs (r.length - i) (t.length - j) i' j' = []
    · rw [hn]; rfl
    · rw [if_neg (by simpa using hn), if_neg hn, List.map_map]
      congr 1
      apply List.map_congr_left
      intro x hx
      have l := (nxs_lead (F := fdOf S (r.drop i) (t.drop j)) (i := i') (j := j') (by rw [fd_h, List.length_drop]; exact h1) (by rw [fd_w, List.length_drop]; exact h2) x (by rw [fd_h, fd_w, List.length_drop, List.length_drop]; exact hx)).1
      show sw (fdOf S r t) Wz (i + i') (j + j') x.s a + _ = _
      rw [sw_sfx l]
  funext a
  have u := met_uniq m (met_bdZ (fdOf S (r.drop i) (t.drop j))) _ 0 0 a (Nat.zero_le _) (Nat.zero_le _) (Nat.le_refl _)
  exact u
def lastN (n : Nat) (l : List Nat) : List Nat := l.drop (l.length - n)
theorem last_app {n : Nat} {p q : List Nat} (h : n ≤ q.length) : lastN n (p ++ q) = lastN n q := by
  unfold lastN
  rw [List.length_append, show p.length + q.length - n = p.length + (q.length - n) by omega]
  rw [← List.drop_drop, List.drop_left]
theorem last_drop {n i : Nat} {q : List Nat} (h : n ≤ q.length - i) : lastN n (q.drop i) = lastN n q := by
  conv => rhs; rw [← List.take_append_drop i q]
  rw [last_app (by rw [List.length_drop]; exact h)]
theorem last_at {S : Sc} {r t : List Nat} {l m : Nat} (hl : l ≤ r.length) (hm : m ≤ t.length) : sB S (lastN l r) (lastN m t) = bdZ (fdOf S r t) (r.length - l) (t.length - m) := (bd_sfx (by omega) (by omega)).symm
def key2 (l m : Nat) : List Key := [.inl l, .inl m]
theorem key2_inj {l m l' m' : Nat} (h : key2 l m = key2 l' m') : l = l' ∧ m = m' := by
  unfold key2 at h
  simp only [List.cons.injEq, Sum.inl.injEq, and_true] at h
  exact ⟨by omega, by omega⟩
structure Kn (S : Sc) (r t : List Nat) (d : KVs) : Prop where
  nd : (d.map (·.1)).Nodup
  sub : ∀ kv ∈ d, ∃ l m, l ≤ r.length ∧ m ≤ t.length ∧ kv = (key2 l m, pvC (sB S (lastN l r) (lastN m t)))
  z : ∃ v, valP d (key2 0 0) = some v
theorem valP_mem {d : KVs} {k : List Key} {v : PV} (h : valP d k = some v) : (k, v) ∈ d := by
  unfold valP at h
  cases e : d.find? fun kv => decide (kv.1 = k) with
  | none => rw [e] at h; cases h
  | some kv =>
    rw [e] at h
    have m := List.mem_of_find?_eq_some e
    have p := List.find?_some e
    simp at h p
    rw [← h, ← p]; exact m
theorem valP_none {d : KVs} {k : List Key} (h : valP d k = none) : k ∉ d.map (·.1) := by
  unfold valP at h
  intro m
  obtain ⟨kv, mk, e⟩ := List.mem_map.mp m
  have := List.find?_eq_none.mp (Option.map_eq_none_iff.mp h) kv mk
  simp at this
  exact this e
theorem mem_valP {d : KVs} {k : List Key} {v : PV} (nd : (d.map (·.1)).Nodup) (h : (k, v) ∈ d) : valP d k = some v := by
  cases e : valP d k with
  | none => exact absurd (List.mem_map.mpr ⟨_, h, rfl⟩) (valP_none e)
  | some w =>
    have m := valP_mem e
    have : ∀ {d : KVs}, (d.map (·.1)).Nodup → (k, v) ∈ d → (k, w) ∈ d → w = v := by
      intro d
      induction d with
      | nil => intro _ h; simp at h
      | cons p d ih =>
        intro nd h h'
        simp only [List.map_cons, List.nodup_cons] at nd
        rcases List.mem_cons.mp h with z | z <;> rcases List.mem_cons.mp h' with z' | z'
        · rw [← z] at z'; exact (Prod.mk.inj z').2
        · exact absurd (List.mem_map.mpr ⟨_, z', by rw [← z]⟩) nd.1
        · exact absurd (List.mem_map.mpr ⟨_, z, by rw [← z']⟩) nd.1
        · exact ih nd.2 z z'
    rw [this nd h m]
theorem Kn.at_ {S : Sc} {r t : List Nat} {d : KVs} (k : Kn S r t d) {l m : Nat} {v : PV} (h : valP d (key2 l m) = some v) : v = pvC (sB S (lastN l r) (lastN m t)) := by
  obtain ⟨l', m', _, _, e⟩ := k.sub _ (valP_mem h)
  obtain ⟨e1, e2⟩ := Prod.mk.inj e
  obtain ⟨rfl, rfl⟩ := key2_inj e1
  exact e2
theorem len_sub {α : Type} [DecidableEq α] : ∀ {l m : List α}, l.Nodup → (∀ x ∈ l, x ∈ m) → l.length ≤ m.length
  | [], _, _, _ => Nat.zero_le _
  | x :: l, m, nd, h => by
    obtain ⟨n1, n2⟩ := List.nodup_cons.mp nd
    have hx := h x (by simp)
    have := len_sub (l := l) (m := m.erase x) n2 fun y my => (List.mem_erase_of_ne (fun z => n1 (by rw [← z]; exact my))).mpr (h y (by simp [my]))
    rw [List.length_erase_of_mem hx] at this
    have : 0 < m.length := List.length_pos_of_mem hx
    simp only [List.length_cons]
    omega
def grid (h w : Nat) : List (List Key) := ((List.range (h + 1)).map fun l => (List.range (w + 1)).map fun m => key2 l m).flatten
theorem grid_len {h w : Nat} : (grid h w).length = (h + 1) * (w + 1) := by
  unfold grid
  rw [List.length_flatten, List.map_map]
  have : (List.length ∘ fun l => (List.range (w + 1)).map fun m => key2 l m) = fun _ => w + 1 := by funext l; simp
  rw [this, List.map_const']
  simp
theorem Kn.len {S : Sc} {r t : List Nat} {d : KVs} (k : Kn S r t d) (h1 : r.length ≤ 40) (h2 : t.length ≤ 40) : d.length ≤ 1681 := by
  have a := len_sub (m := grid r.length t.length) k.nd fun x mx => by
    obtain ⟨kv, mk, rfl⟩ := List.mem_map.mp mx
    obtain ⟨l, m, hl, hm, e⟩ := k.sub kv mk
    rw [e]
    unfold grid
    exact List.mem_flatten.mpr ⟨_, List.mem_map.mpr ⟨l, List.mem_range.mpr (by omega), rfl⟩, List.mem_map.mpr ⟨m, List.mem_range.mpr (by omega), rfl⟩⟩
  rw [List.length_map, grid_len] at a
  exact Nat.le_trans a (Nat.mul_le_mul (show r.length + 1 ≤ 41 by omega) (show t.length + 1 ≤ 41 by omega))
theorem put_fresh {d : KVs} {k : List Key} {v : PV} (h : valP d k = none) : putP d k v = d ++ [(k, v)] := by
  unfold putP
  rw [if_neg]
  intro z
  obtain ⟨kv, m, e⟩ := List.any_eq_true.mp z
  exact valP_none h (List.mem_map.mpr ⟨kv, m, by simpa using e⟩)
theorem Kn.put {S : Sc} {r t : List Nat} {d : KVs} (k : Kn S r t d) {l m : Nat} (hl : l ≤ r.length) (hm : m ≤ t.length) (h : valP d (key2 l m) = none) : Kn S r t (putP d (key2 l m) (pvC (sB S (lastN l r) (lastN m t)))) := by
  refine ⟨?_, fun kv mk => ?_, ?_⟩
  · rw [put_fresh h, List.map_append, List.nodup_append]
    refine ⟨k.nd, by simp, fun a ma b mb e => ?_⟩
    simp at mb
    rw [e, mb] at ma
    exact valP_none h ma
  · rw [put_fresh h] at mk
    rcases List.mem_append.mp mk with z | z
    · exact k.sub kv z
    · simp at z; exact ⟨l, m, hl, hm, z⟩
  · rw [valP_put]
    split
    · exact ⟨_, rfl⟩
    · exact k.z
/-- what stays known where a row is changed -/
theorem Kn.keep {S : Sc} {r t r' t' : List Nat} {d : KVs} (k : Kn S r t d) (f : List Key × PV → Bool) (hf : ∀ l m v, f (key2 l m, v) = true → l ≤ r.length → m ≤ t.length → l ≤ r'.length ∧ m ≤ t'.length ∧ lastN l r' = lastN l r ∧ lastN m t' = lastN m t) (h0 : ∀ v, f (key2 0 0, v) = true) : Kn S r' t' (d.filter f) := by
  refine ⟨?_, fun kv mk => ?_, ?_⟩
  · exact List.Nodup.sublist (List.Sublist.map _ List.filter_sublist) k.nd
  · obtain ⟨m1, m2⟩ := List.mem_filter.mp mk
    obtain ⟨l, m, hl, hm, rfl⟩ := k.sub kv m1
    obtain ⟨q1, q2, q3, q4⟩ := hf l m _ m2 hl hm
    exact ⟨l, m, q1, q2, by rw [q3, q4]⟩
  · obtain ⟨v, e⟩ := k.z
    exact ⟨v, mem_valP (List.Nodup.sublist (List.Sublist.map _ List.filter_sublist) k.nd) (List.mem_filter.mpr ⟨valP_mem e, h0 v⟩)⟩
end Lw
namespace Lw
open PySem PySem.Spec L2 Lb Vl
local macro_rules | `(tactic| walk_at "sd") => `(tactic| first | with_reducible rfl | assumption | omega | (simp only [List.length_map, List.length_range, List.length_append, List.length_cons, List.length_nil]; omega) | rfl | (constructor <;> omega) | (simp only [List.length_map, List.length_range]; constructor <;> omega) | (refine few ?_; simp; done) | (refine few ?_; simp; omega) | (refine few ?_; omega) | (refine few1 ?_; simp; done) | (refine few1 ?_; simp; omega) | walk_at "sdx" | (simp; done) | (simp; omega))
local macro_rules | `(tactic| walk_at "sdx") => `(tactic| fail)
local macro_rules | `(tactic| walk_at "call") => `(tactic| fail)
local macro_rules | `(tactic| walk_at "go1") => `(tactic| first | walk_at "call" | refine And.intro (by walk_at "sd") ?_ | refine bift (by walk_at "sd") ?_ | refine biff (by walk_at "sd") ?_ | refine nbift (by walk_at "sd") ?_ | refine nbiff (by walk_at "sd") ?_ | with_reducible refine yfor_cons ?_ | with_reducible refine yfor_nil ?_ | with_reducible refine ylc_cons ?_ | with_reducible refine ylc_nil ?_ | rw [peq_int])
local macro_rules | `(tactic| walk_at "go") => `(tactic| ((repeat ((conv => whnf); walk_at "go1")); try (conv => whnf)))
local macro_rules | `(tactic| walk_at "call") => `(tactic| refine L_is_whole ?_)
local macro_rules | `(tactic| walk_at "call") => `(tactic| refine L_is_place (by walk_at "sd") ?_)
local macro_rules | `(tactic| walk_at "call") => `(tactic| refine L_is_step ?_)
local macro_rules | `(tactic| walk_at "sdx") => `(tactic| exact len_pv lds_len3)
def pvSh (S : Sc) (r t : List Nat) (ds d : KVs) (b : Bool) : PV := .ins 6 [.str (txA r), .str (txA t), pvSc S ds, .dT d, .bl b]
structure RwOk (S : Sc) (r : List Nat) : Prop where
  le : r.length ≤ 40
  mem : ∀ c ∈ r, c ∈ S.l
def pvQ (S : Sc) (r t : List Nat) (i j : Nat) (a : Stp) (x : Nx) : PV := .tup [.str x.s.s, .int (sw (fdOf S r t) Wz i j x.s a + bdZ (fdOf S r t) x.i x.j x.s)]
theorem atI_neg {α : Type} {l : List α} {n : Nat} (h0 : 0 < n) (h : n ≤ l.length) : atI l (-(n : Int)) = some (l[l.length - n]'(by omega)) := by
  unfold atI ixN
  rw [if_neg (by omega), if_pos (by omega)]
  rw [show ((-(n : Int)) + (l.length : Int)).toNat = l.length - n by omega]
  simp
theorem kn_some {S : Sc} {r t : List Nat} {d : KVs} (k : Kn S r t d) {l m : Nat} (h : valP d (key2 l m) ≠ none) : valP d (key2 l m) = some (pvC (sB S (lastN l r) (lastN m t))) := by
  cases e : valP d (key2 l m) with
  | none => exact absurd e h
  | some v => rw [k.at_ e]
local macro_rules | `(tactic| walk_at "call") => `(tactic| refine L_Sc_opening ?_)
local macro_rules | `(tactic| walk_at "call") => `(tactic| refine L_Sc_each ?_)
theorem cmul_b (i : Int) (b : Bool) : CMul i (if b = true then 1 else 0) := .inr (by cases b <;> decide)
theorem i_pred {l : Nat} (h : 0 < l) : (l : Int) - 1 = ((l - 1 : Nat) : Int) := by omega
theorem i_b {n l : Nat} (h0 : 0 < l) (h : l ≤ n) : n - (l - 1) = n - l + 1 := by omega
theorem L_numbers_left {S : Sc} (ok : S.Ok) {ds : KVs} (hds : DOk S ds) {r t : List Nat} (hr : RwOk S r) (ht : RwOk S t) {d : KVs} (kn : Kn S r t d) {b : Bool} {l m : Nat} {a : Stp} (hl : l ≤ r.length) (hm : m ≤ t.length)
    (kb : 0 < l → 0 < m → valP d (key2 (l - 1) (m - 1)) ≠ none) (ko : 0 < l → valP d (key2 (l - 1) m) ≠ none) (ku : 0 < m → valP d (key2 l (m - 1)) ≠ none) {Q : PV → Prop}
    (k : Q (.lst ((nxs r.length t.length (r.length - l) (t.length - m)).map (pvQ S r t (r.length - l) (t.length - m) a)))) : w_Sheet_numbers_left [pvSh S r t ds d b, .int l, .int m, .str a.s] Q := by
  have h1 := hr.le
  have h2 := ht.le
  have vb : 0 < l → 0 < m → valP d [.inl ((l : Int) - 1), .inl ((m : Int) - 1)] = some (pvC (bdZ (fdOf S r t) (r.length - l + 1) (t.length - m + 1))) := fun q1 q2 => by
    have := kn_some kn (kb q1 q2)
    rw [last_at (by omega) (by omega), i_b q1 hl, i_b q2 hm] at this
    rw [i_pred q1, i_pred q2]; exact this
  have vo : 0 < l → valP d [.inl ((l : Int) - 1), .inl (m : Int)] = some (pvC (bdZ (fdOf S r t) (r.length - l + 1) (t.length - m))) := fun q1 => by
    have := kn_some kn (ko q1)
    rw [last_at (by omega) (by omega), i_b q1 hl] at this
    rw [i_pred q1]; exact this
  have vu : 0 < m → valP d [.inl (l : Int), .inl ((m : Int) - 1)] = some (pvC (bdZ (fdOf S r t) (r.length - l) (t.length - m + 1))) := fun q2 => by
    have := kn_some kn (ku q2)
    rw [last_at (by omega) (by omega), i_b q2 hm] at this
    rw [i_pred q2]; exact this
  have swb : ∀ (q1 : 0 < l) (q2 : 0 < m), sw (fdOf S r t) Wz (r.length - l) (t.length - m) .b a = S.w (r[r.length - l]'(by omega)) (t[t.length - m]'(by omega)) := fun q1 q2 => by
    show (fdOf S r t).pr _ _ = _
    exact pr_fd (List.getElem?_eq_getElem (by omega)) (List.getElem?_eq_getElem (by omega))
  have swp : ∀ p q : Int, p - q = -q + p := fun p q => by omega
  have swo : 0 < l → sw (fdOf S r t) Wz (r.length - l) (t.length - m) .o a = -(S.c + if a = .o then 0 else S.o) := fun q1 => by
    simp only [sw, Wz, fd_ov (S := S) (r := r) (t := t) (show r.length - l < r.length by omega)]
    simp
    rfl
  have swu : 0 < m → sw (fdOf S r t) Wz (r.length - l) (t.length - m) .u a = -(S.c + if a = .u then 0 else S.o) := fun q1 => by
    simp only [sw, Wz, fd_un (S := S) (r := r) (t := t) (show t.length - m < t.length by omega)]
    simp
    rfl
  have so : S.c + S.o * (if (!decide (a = .o)) = true then 1 else 0) = S.c + if a = .o then 0 else S.o := by cases a <;> simp
  have su : S.c + S.o * (if (!decide (a = .u)) = true then 1 else 0) = S.c + if a = .u then 0 else S.o := by cases a <;> simp
  rw [e_Sheet_numbers_left]
  by_cases hl0 : 0 < l <;> by_cases hm0 : 0 < m
  · (conv => whnf)
    refine ⟨rfl, ?_⟩
    (conv => whnf)
    refine ⟨rfl, L_Sc_each ?_⟩
    walk_at "go"
    refine j_go ?_
    walk_at "go"
    refine ⟨by rw [tx_len]; exact few (by omega), ?_⟩
    rw [tx_cps, atI_neg hl0 hl]
    walk_at "go"
    refine ⟨by rw [tx_len]; exact few (by omega), ?_⟩
    rw [tx_cps, atI_neg hm0 hm]
    (conv => whnf)
    refine L_worth_of ok hds (hr.mem _ (List.getElem_mem _)) (ht.mem _ (List.getElem_mem _)) ?_
    walk_at "go"
    rw [show valP d _ = _ from vb hl0 hm0]
    walk_at "go"
    refine j_go ?_
    walk_at "go"
    refine ⟨dat_stp _, dat_o, ?_⟩
    (conv => whnf)
    rw [peq_o]
    walk_at "go"
    refine ⟨cmul_b _ _, ?_⟩
    walk_at "go"
    rw [show valP d _ = _ from vo hl0]
    walk_at "go"
    refine j_go ?_
    walk_at "go"
    refine ⟨dat_stp _, dat_u, ?_⟩
    (conv => whnf)
    rw [peq_u]
    walk_at "go"
    refine ⟨cmul_b _ _, ?_⟩
    walk_at "go"
    rw [show valP d _ = _ from vu hm0]
    walk_at "go"
    have e : nxs r.length t.length (r.length - l) (t.length - m) = [⟨.b, r.length - l + 1, t.length - m + 1⟩, ⟨.o, r.length - l + 1, t.length - m⟩, ⟨.u, r.length - l, t.length - m + 1⟩] := by
      unfold nxs
      rw [if_pos ⟨by omega, by omega⟩, if_pos (by omega), if_pos (by omega)]; rfl
    rw [e] at k
    simp only [List.map_cons, List.map_nil, pvQ, swb hl0 hm0, swo hl0, swu hm0] at k
    rw [so, su, swp, swp]
    simp only [List.nil_append, List.cons_append]
    exact k
  · (conv => whnf)
    refine ⟨rfl, ?_⟩
    (conv => whnf)
    refine ⟨rfl, L_Sc_each ?_⟩
    walk_at "go"
    refine j_go ?_
    walk_at "go"
    refine j_go ?_
    walk_at "go"
    refine ⟨dat_stp _, dat_o, ?_⟩
    (conv => whnf)
    rw [peq_o]
    walk_at "go"
    refine ⟨cmul_b _ _, ?_⟩
    walk_at "go"
    rw [show valP d _ = _ from vo hl0]
    walk_at "go"
    refine j_go ?_
    walk_at "go"
    have e : nxs r.length t.length (r.length - l) (t.length - m) = [⟨.o, r.length - l + 1, t.length - m⟩] := by
      unfold nxs
      rw [if_neg (by omega), if_pos (by omega), if_neg (by omega)]; rfl
    rw [e] at k
    simp only [List.map_cons, List.map_nil, pvQ, swo hl0] at k
    rw [so, swp]
    exact k
  · (conv => whnf)
    refine ⟨rfl, ?_⟩
    (conv => whnf)
    refine ⟨rfl, L_Sc_each ?_⟩
    walk_at "go"
    refine j_go ?_
    walk_at "go"
    refine j_go ?_
    walk_at "go"
    refine j_go ?_
    walk_at "go"
    refine ⟨dat_stp _, dat_u, ?_⟩
    (conv => whnf)
    rw [peq_u]
    walk_at "go"
    refine ⟨cmul_b _ _, ?_⟩
    walk_at "go"
    rw [show valP d _ = _ from vu hm0]
    walk_at "go"
    have e : nxs r.length t.length (r.length - l) (t.length - m) = [⟨.u, r.length - l, t.length - m + 1⟩] := by
      unfold nxs
      rw [if_neg (by omega), if_neg (by omega), if_pos (by omega)]; rfl
    rw [e] at k
    simp only [List.map_cons, List.map_nil, pvQ, swu hm0] at k
    rw [su, swp]
    exact k
  · (conv => whnf)
    refine ⟨rfl, ?_⟩
    (conv => whnf)
    refine ⟨rfl, L_Sc_each ?_⟩
    walk_at "go"
    refine j_go ?_
    walk_at "go"
    refine j_go ?_
    walk_at "go"
    refine j_go ?_
    walk_at "go"
    have e : nxs r.length t.length (r.length - l) (t.length - m) = [] := by
      unfold nxs
      rw [if_neg (by omega), if_neg (by omega), if_neg (by omega)]; rfl
    rw [e] at k
    exact k
end Lw
namespace Lw
open PySem PySem.Spec L2 Lb Vl
local macro_rules | `(tactic| walk_at "sd") => `(tactic| first | with_reducible rfl | assumption | omega | (simp only [List.length_map, List.length_range, List.length_append, List.length_cons, List.length_nil]; omega) | rfl | (constructor <;> omega) | (simp only [List.length_map, List.length_range]; constructor <;> omega) | (refine few ?_; simp; done) | (refine few ?_; simp; omega) | (refine few ?_; omega) | (refine few1 ?_; simp; done) | (refine few1 ?_; simp; omega) | walk_at "sdx" | (simp; done) | (simp; omega))
local macro_rules | `(tactic| walk_at "sdx") => `(tactic| fail)
local macro_rules | `(tactic| walk_at "call") => `(tactic| fail)
local macro_rules | `(tactic| walk_at "go1") => `(tactic| first | walk_at "call" | refine And.intro (by walk_at "sd") ?_ | refine bift (by walk_at "sd") ?_ | refine biff (by walk_at "sd") ?_ | refine nbift (by walk_at "sd") ?_ | refine nbiff (by walk_at "sd") ?_ | with_reducible refine yfor_cons ?_ | with_reducible refine yfor_nil ?_ | with_reducible refine ylc_cons ?_ | with_reducible refine ylc_nil ?_ | rw [peq_int])
local macro_rules | `(tactic| walk_at "go") => `(tactic| ((repeat ((conv => whnf); walk_at "go1")); try (conv => whnf)))
local macro_rules | `(tactic| walk_at "call") => `(tactic| refine L_is_whole ?_)
local macro_rules | `(tactic| walk_at "call") => `(tactic| refine L_is_place (by walk_at "sd") ?_)
local macro_rules | `(tactic| walk_at "call") => `(tactic| refine L_is_step ?_)
local macro_rules | `(tactic| walk_at "sdx") => `(tactic| exact len_pv lds_len3)
local macro_rules | `(tactic| walk_at "call") => `(tactic| refine L_Sc_opening ?_)
local macro_rules | `(tactic| walk_at "call") => `(tactic| refine L_Sc_each ?_)
theorem last_0 (l : List Nat) : lastN 0 l = [] := by unfold lastN; simp
theorem sB_nil (S : Sc) (a : Stp) : sB S [] [] a = 0 := by
  unfold sB
  rw [met_n (met_bdZ (fdOf S [] []) 0 0 (Nat.zero_le _) (Nat.zero_le _)) a, if_pos (by rfl)]
theorem kn_new (S : Sc) (r t : List Nat) : Kn S r t [(key2 0 0, .tup [.int 0, .int 0, .int 0])] := by
  refine ⟨by simp, fun kv m => ⟨0, 0, Nat.zero_le _, Nat.zero_le _, ?_⟩, _, rfl⟩
  simp at m
  rw [m, last_0, last_0]
  unfold pvC
  rw [sB_nil, sB_nil, sB_nil]
theorem L_Sheet {S : Sc} (ok : S.Ok) {ds : KVs} {r t : List Nat} (hr : RwOk S r) (ht : RwOk S t) {Q : PV → Prop} (k : ∀ d, Kn S r t d → Q (pvSh S r t ds d false)) : w_Sheet_init [.str (txA r), .str (txA t), pvSc S ds] Q := by
  have h1 := hr.le
  have h2 := ht.le
  rw [e_Sheet_init]
  (conv => whnf)
  refine yfor_cons ?_
  (conv => whnf)
  refine L_is_row hr.le (fun c m => ok.ha c (hr.mem c m)) ?_
  (conv => whnf)
  refine yfor_cons ?_
  (conv => whnf)
  refine L_is_row ht.le (fun c m => ok.ha c (ht.mem c m)) ?_
  (conv => whnf)
  refine yfor_nil ?_
  walk_at "go"
  refine L_need_letters (by omega) hr.mem ?_
  walk_at "go"
  refine L_need_letters (by omega) ht.mem ?_
  walk_at "go"
  exact k _ (kn_new S r t)
theorem L_need_place {i : Int} {n : Nat} {Q : PV → Prop} (k : Q .non) : w_need_place [.int i, .int n] Q := by
  rw [e_need_place]
  (conv => whnf)
  refine L_is_place (by omega) ?_
  walk_at "go"
  exact k
def sdS (o : Bool) : PV := .str (Str.ofString (if o = true then "over" else "under"))
theorem L_need_side {o : Bool} {Q : PV → Prop} (k : Q .non) : w_need_side [sdS o] Q := by
  rw [e_need_side]
  (conv => whnf)
  rw [e_is_side]
  cases o
  · (conv => whnf)
    refine ⟨rfl, rfl, ?_⟩
    (conv => whnf)
    exact k
  · (conv => whnf)
    refine ⟨rfl, rfl, ?_⟩
    (conv => whnf)
    exact k
def All (r t : List Nat) (d : KVs) : Prop := ∀ l m, l ≤ r.length → m ≤ t.length → valP d (key2 l m) ≠ none
theorem nxs_few {h w i j : Nat} : (nxs h w i j).length ≤ sizeLine := by
  refine few (n := (nxs h w i j).length) ?_
  simp only [nxs, List.length_append]; split <;> split <;> split <;> simp
theorem L_learn {S : Sc} (ok : S.Ok) {ds : KVs} (hds : DOk S ds) {r t : List Nat} (hr : RwOk S r) (ht : RwOk S t) {d : KVs} (kn : Kn S r t d) {b : Bool} (hb : b = true → All r t d) {Q : PV → List PV → Prop} (k : ∀ d', Kn S r t d' → All r t d' → Q .non [pvSh S r t ds d' true]) : w_Sheet_learn [pvSh S r t ds d b] Q := by
  have h1 := hr.le
  have h2 := ht.le
  rw [e_Sheet_learn]
  (conv => whnf)
  refine ⟨rfl, ?_⟩
  cases b with
  | true =>
    (conv => whnf)
    exact k d kn (hb rfl)
  | false =>
    walk_at "go"
    refine ⟨by rw [tx_len]; exact few (by omega), ?_⟩
    rw [tx_len]
    (conv => whnf)
    refine ⟨⟨by omega, by omega⟩, ?_⟩
    rw [show ((r.length : Int) + 1).toNat = r.length + 1 by omega]
    refine yforR (fun x γ => ∃ (d : KVs) (b1 b2 b3 b4 : Option PV), Kn S r t d ∧ (∀ l m, l < x → m ≤ t.length → valP d (key2 l m) ≠ none) ∧ γ = [some (pvSh S r t ds d false), b1, b2, b3, b4, none, none, none, none]) ⟨d, none, none, none, none, kn, fun _ _ h => absurd h (Nat.not_lt_zero _), rfl⟩ ?_ ?_
    · rintro x γ hx ⟨d, b1, b2, b3, b4, kn, ha, rfl⟩ K hK
      (conv => whnf)
      refine ⟨rfl, ?_⟩
      (conv => whnf)
      refine ⟨by rw [tx_len]; exact few (by omega), ?_⟩
      rw [tx_len]
      (conv => whnf)
      refine ⟨⟨by omega, by omega⟩, ?_⟩
      rw [show ((t.length : Int) + 1).toNat = t.length + 1 by omega]
      refine yforR (fun y γ => ∃ (d : KVs) (b2 b3 b4 : Option PV), Kn S r t d ∧ (∀ l m, l < x → m ≤ t.length → valP d (key2 l m) ≠ none) ∧ (∀ m, m < y → valP d (key2 x m) ≠ none) ∧ γ = [some (pvSh S r t ds d false), some (.int x), b2, b3, b4, none, none, none, none]) ⟨d, b2, b3, b4, kn, ha, fun _ h => absurd h (Nat.not_lt_zero _), rfl⟩ ?_ ?_
      · rintro y γ hy ⟨d, b2, b3, b4, kn, ha, hb, rfl⟩ K hK
        (conv => whnf)
        refine ⟨rfl, ?_⟩
        show bfi (!(valP d (key2 x y)).isSome) _ _
        cases e : valP d (key2 x y) with
        | some v =>
          (conv => whnf)
          refine hK _ ⟨d, _, _, _, kn, ha, fun m hm => ?_, rfl⟩
          by_cases hq : m = y
          · rw [hq, e]; exact nofun
          · exact hb m (by omega)
        | none =>
          have num : ∀ (a : Stp) {Q : PV → Prop}, Q (.lst ((nxs r.length t.length (r.length - x) (t.length - y)).map (pvQ S r t (r.length - x) (t.length - y) a))) → w_Sheet_numbers_left [pvSh S r t ds d false, .int x, .int y, .str a.s] Q := fun a Q k => L_numbers_left ok hds hr ht kn (by omega) (by omega) (fun _ _ => ha _ _ (by omega) (by omega)) (fun _ => ha _ _ (by omega) (by omega)) (fun _ => hb _ (by omega)) k
          (conv => whnf)
          refine ⟨few (n := 3) (by decide), ?_⟩
          refine ylc_cons ?_
          (conv => whnf)
          refine ⟨rfl, num .b ?_⟩
          refine ylc_cons ?_
          (conv => whnf)
          refine ⟨rfl, num .o ?_⟩
          refine ylc_cons ?_
          (conv => whnf)
          refine ⟨rfl, num .u ?_⟩
          refine ylc_nil ?_
          (conv => whnf)
          have nn : ¬ (r.length - x = r.length ∧ t.length - y = t.length) := by
            rintro ⟨q1, q2⟩
            obtain rfl : x = 0 := by omega
            obtain rfl : y = 0 := by omega
            obtain ⟨v, hv⟩ := kn.z
            rw [e] at hv; cases hv
          have nne : nxs r.length t.length (r.length - x) (t.length - y) ≠ [] := nxs_ne (by omega) (by omega) nn
          have mxe : ∀ a : Stp, maxL ((nxs r.length t.length (r.length - x) (t.length - y)).map fun z => sw (fdOf S r t) Wz (r.length - x) (t.length - y) z.s a + bdZ (fdOf S r t) z.i z.j z.s) = sB S (lastN x r) (lastN y t) a := fun a => by
            have := met_n (met_bdZ (fdOf S r t) (r.length - x) (t.length - y) (by rw [fd_h]; omega) (by rw [fd_w]; omega)) a
            rw [fd_h, fd_w, if_neg nne] at this
            rw [last_at (by omega) (by omega), this]
          refine ⟨few (n := 3) (by decide), ?_⟩
          (conv => whnf)
          refine ylc_cons ?_
          (conv => whnf)
          refine ⟨by rw [List.length_map]; exact nxs_few, ?_⟩
          (conv => whnf)
          refine ylcM (f := fun z : Nx => .int (sw (fdOf S r t) Wz (r.length - x) (t.length - y) z.s .b + bdZ (fdOf S r t) z.i z.j z.s)) (fun z mz Q k => ?_) ?_
          · (conv => whnf)
            exact k
          (conv => whnf)
          rw [ints_map]
          (conv => whnf)
          refine ⟨fun z => nne (List.map_eq_nil_iff.mp z), ?_⟩
          rw [mxe .b]
          refine ylc_cons ?_
          (conv => whnf)
          refine ⟨by rw [List.length_map]; exact nxs_few, ?_⟩
          (conv => whnf)
          refine ylcM (f := fun z : Nx => .int (sw (fdOf S r t) Wz (r.length - x) (t.length - y) z.s .o + bdZ (fdOf S r t) z.i z.j z.s)) (fun z mz Q k => ?_) ?_
          · (conv => whnf)
            exact k
          (conv => whnf)
          rw [ints_map]
          (conv => whnf)
          refine ⟨fun z => nne (List.map_eq_nil_iff.mp z), ?_⟩
          rw [mxe .o]
          refine ylc_cons ?_
          (conv => whnf)
          refine ⟨by rw [List.length_map]; exact nxs_few, ?_⟩
          (conv => whnf)
          refine ylcM (f := fun z : Nx => .int (sw (fdOf S r t) Wz (r.length - x) (t.length - y) z.s .u + bdZ (fdOf S r t) z.i z.j z.s)) (fun z mz Q k => ?_) ?_
          · (conv => whnf)
            exact k
          (conv => whnf)
          rw [ints_map]
          (conv => whnf)
          refine ⟨fun z => nne (List.map_eq_nil_iff.mp z), ?_⟩
          rw [mxe .u]
          refine ylc_nil ?_
          (conv => whnf)
          refine ⟨rfl, ?_⟩
          show d.length < sizeLine ∧ _
          refine ⟨by have := kn.len h1 h2; rw [sizeLine_eq]; omega, ?_⟩
          (conv => whnf)
          refine hK _ ⟨putP d (key2 x y) (pvC (sB S (lastN x r) (lastN y t))), _, _, _, kn.put (by omega) (by omega) e, fun l m hl hm => ?_, fun m hm => ?_, rfl⟩
          · rw [valP_put]
            split
            · exact nofun
            · exact ha l m hl hm
          · rw [valP_put]
            split
            · exact nofun
            · rename_i q
              exact hb m (by
                have : m ≠ y := fun z => q (by rw [z])
                omega)
      · rintro γ ⟨d, b2, b3, b4, kn, ha, hb, rfl⟩
        refine hK _ ⟨d, _, b2, b3, b4, kn, fun l m hl hm => ?_, rfl⟩
        by_cases q : l = x
        · rw [q]; exact hb m (by omega)
        · exact ha l m (by omega) hm
    · rintro γ ⟨d, b1, b2, b3, b4, kn, ha, rfl⟩
      (conv => whnf)
      refine ⟨rfl, ?_⟩
      (conv => whnf)
      exact k d kn fun l m hl hm => ha l m (by omega) hm
theorem i_sub {n l : Nat} (h : l ≤ n) : (n : Int) - l = ((n - l : Nat) : Int) := by omega
theorem L_S_bound {S : Sc} (ok : S.Ok) {ds : KVs} (hds : DOk S ds) {r t : List Nat} (hr : RwOk S r) (ht : RwOk S t) {d : KVs} (kn : Kn S r t d) {b : Bool} (hb : b = true → All r t d) {i j : Nat} {a : Stp} (hi : i ≤ r.length) (hj : j ≤ t.length) {Q : PV → List PV → Prop}
    (k : ∀ d', Kn S r t d' → All r t d' → Q (.int (bdZ (fdOf S r t) i j a)) [pvSh S r t ds d' true]) : w_Sheet_bound [pvSh S r t ds d b, .int i, .int j, .str a.s] Q := by
  have h1 := hr.le
  have h2 := ht.le
  rw [e_Sheet_bound]
  (conv => whnf)
  refine L_need_place ?_
  (conv => whnf)
  refine L_need_place ?_
  (conv => whnf)
  refine L_is_step ?_
  walk_at "go"
  refine ⟨by rw [tx_len]; exact few (by omega), ?_⟩
  rw [tx_len]
  walk_at "go"
  refine ⟨by rw [tx_len]; exact few (by omega), ?_⟩
  rw [tx_len]
  walk_at "go"
  refine L_learn ok hds hr ht kn hb fun d' kn' all' => ?_
  (conv => whnf)
  refine ⟨rfl, ?_⟩
  (conv => whnf)
  refine ⟨rfl, ?_⟩
  (conv => whnf)
  refine ⟨by rw [tx_len]; exact few (by omega), ?_⟩
  rw [tx_len]
  (conv => whnf)
  refine ⟨rfl, ?_⟩
  (conv => whnf)
  refine ⟨by rw [tx_len]; exact few (by omega), ?_⟩
  rw [tx_len]
  (conv => whnf)
  rw [i_sub hi, i_sub hj]
  have vv : valP d' [.inl ((r.length - i : Nat) : Int), .inl ((t.length - j : Nat) : Int)] = _ := kn_some kn' (all' (r.length - i) (t.length - j) (by omega) (by omega))
  rw [show valP d' _ = _ from vv]
  rw [last_at (by omega) (by omega), show r.length - (r.length - i) = i by omega, show t.length - (t.length - j) = j by omega]
  (conv => whnf)
  refine ⟨mem_stp a, ?_⟩
  rw [ix_stp]
  (conv => whnf)
  rw [at_C]
  (conv => whnf)
  refine ⟨rfl, ?_⟩
  (conv => whnf)
  exact k d' kn' all'
theorem dat_sd (o : Bool) : dat 8 (sdS o) = true := by cases o <;> decide +kernel
theorem L_S_row {S : Sc} {ds : KVs} {r t : List Nat} {d : KVs} {b : Bool} {o : Bool} {Q : PV → Prop} (k : Q (.str (txA (if o = true then r else t)))) : w_Sheet_row [pvSh S r t ds d b, sdS o] Q := by
  rw [e_Sheet_row]
  (conv => whnf)
  refine L_need_side ?_
  cases o
  · (conv => whnf)
    refine ⟨dat_sd _, dat_sd true, ?_⟩
    (conv => whnf)
    refine ⟨rfl, ?_⟩
    (conv => whnf)
    exact ⟨rfl, k⟩
  · (conv => whnf)
    refine ⟨dat_sd _, dat_sd true, ?_⟩
    (conv => whnf)
    refine ⟨rfl, ?_⟩
    (conv => whnf)
    exact ⟨rfl, k⟩
end Lw
namespace Lw
open PySem PySem.Spec L2 Lb Vl
local macro_rules | `(tactic| walk_at "sd") => `(tactic| first | with_reducible rfl | assumption | omega | (simp only [List.length_map, List.length_range, List.length_append, List.length_cons, List.length_nil]; omega) | rfl | (constructor <;> omega) | (simp only [List.length_map, List.length_range]; constructor <;> omega) | (refine few ?_; simp; done) | (refine few ?_; simp; omega) | (refine few ?_; omega) | (refine few1 ?_; simp; done) | (refine few1 ?_; simp; omega) | walk_at "sdx" | (simp; done) | (simp; omega))
local macro_rules | `(tactic| walk_at "sdx") => `(tactic| fail)
local macro_rules | `(tactic| walk_at "call") => `(tactic| fail)
local macro_rules | `(tactic| walk_at "go1") => `(tactic| first | walk_at "call" | refine And.intro (by walk_at "sd") ?_ | refine bift (by walk_at "sd") ?_ | refine biff (by walk_at "sd") ?_ | refine nbift (by walk_at "sd") ?_ | refine nbiff (by walk_at "sd") ?_ | with_reducible refine yfor_cons ?_ | with_reducible refine yfor_nil ?_ | with_reducible refine ylc_cons ?_ | with_reducible refine ylc_nil ?_ | rw [peq_int])
local macro_rules | `(tactic| walk_at "go") => `(tactic| ((repeat ((conv => whnf); walk_at "go1")); try (conv => whnf)))
local macro_rules | `(tactic| walk_at "call") => `(tactic| refine L_is_whole ?_)
local macro_rules | `(tactic| walk_at "call") => `(tactic| refine L_is_place (by walk_at "sd") ?_)
local macro_rules | `(tactic| walk_at "call") => `(tactic| refine L_is_step ?_)
local macro_rules | `(tactic| walk_at "sdx") => `(tactic| exact len_pv lds_len3)
local macro_rules | `(tactic| walk_at "call") => `(tactic| refine L_Sc_opening ?_)
local macro_rules | `(tactic| walk_at "call") => `(tactic| refine L_Sc_each ?_)
theorem mem_none {d : KVs} {k : List Key} (h : k ∉ d.map (·.1)) : valP d k = none := by
  unfold valP
  rw [Option.map_eq_none_iff, List.find?_eq_none]
  intro kv m
  simp only [decide_eq_true_eq]
  exact fun e => h (List.mem_map.mpr ⟨kv, m, e⟩)
theorem kn_imm {S : Sc} {r t : List Nat} {d : KVs} (k : Kn S r t d) : immL (d.map (·.2)) = true := by
  have : ∀ {d : KVs}, (∀ kv ∈ d, imm kv.2 = true) → immL (d.map (·.2)) = true := by
    intro d
    induction d with
    | nil => intro _; rfl
    | cons a d ih =>
      intro h
      simp only [List.map_cons, immL, Bool.and_eq_true]
      exact ⟨h a (by simp), ih fun kv m => h kv (by simp [m])⟩
  refine this fun kv m => ?_
  obtain ⟨l, m, _, _, rfl⟩ := k.sub kv m
  rfl
def kf (o : Bool) (n : Nat) (kv : List Key × PV) : Bool := match kv.1 with
  | [.inl l, .inl m] => decide ((if o = true then l else m) ≤ (n : Int))
  | _ => false
theorem dci_by {S : Sc} {r t : List Nat} {d : KVs} (kn : Kn S r t d) (hl : d.length ≤ 1681) (o : Bool) (n : Nat) {g : GG} {pt : GT} {b : GB} {γ : G} {Q : KVs → Prop}
    (st : ∀ (l m : Nat) (v : PV) (d' : KVs) (K : KVs → Prop), ((if o = true then (l : Int) else m) ≤ n → d'.length < sizeLine → K (putP d' (key2 l m) v)) → (¬ (if o = true then (l : Int) else m) ≤ n → K d') → d'.length < sizeLine → g (.tup [.tup [.int l, .int m], v]) γ fun γ2 => pt γ2 fun c => bfi c (b γ2 d' K) (K d')) (k : Q (d.filter (kf o n))) : ckP g pt b γ (itemsP d) [] Q := by
  unfold itemsP
  refine ck_by (fun (rest : KVs) d' => ∃ dn, dn ++ rest = d ∧ d' = dn.filter (kf o n)) ⟨[], rfl, rfl⟩ ?_ ?_
  · rintro kv rest d' ⟨dn, e, rfl⟩ K hK
    obtain ⟨kk, v0⟩ := kv
    obtain ⟨l, m, _, _, e2⟩ := kn.sub (kk, v0) (by rw [← e]; simp)
    obtain rfl : kk = key2 l m := congrArg Prod.fst e2
    clear e2
    have hs : (dn.filter (kf o n)).length < sizeLine := by
      have h1 : (dn.filter (kf o n)).length ≤ dn.length := List.length_filter_le _ _
      have h2 : dn.length ≤ d.length := by rw [← e]; simp
      rw [sizeLine_eq]; omega
    refine st l m v0 _ K (fun q _ => ?_) (fun q => ?_) hs
    · have fr : valP (dn.filter (kf o n)) (key2 l m) = none := mem_none fun z => by
        obtain ⟨kv, mk, ek⟩ := List.mem_map.mp z
        have nd := kn.nd
        rw [← e, List.map_append, List.map_cons, List.nodup_append] at nd
        exact nd.2.2 (key2 l m) (by rw [← ek]; exact List.mem_map.mpr ⟨kv, (List.mem_filter.mp mk).1, rfl⟩) (key2 l m) (by simp) rfl
      refine hK _ ⟨dn ++ [(key2 l m, v0)], by rw [← e]; simp, ?_⟩
      rw [put_fresh fr, List.filter_append]
      congr 1
      rw [List.filter_cons_of_pos (by simp only [kf, key2]; exact decide_eq_true q)]; rfl
    · refine hK _ ⟨dn ++ [(key2 l m, v0)], by rw [← e]; simp, ?_⟩
      rw [List.filter_append, List.filter_cons_of_neg (by simp only [kf, key2]; simpa using q)]
      simp
  · rintro d' ⟨dn, e, rfl⟩
    rw [List.append_nil] at e
    rw [e]; exact k
theorem L_changed {S : Sc} {ds : KVs} {r t : List Nat} (hr : RwOk S r) (ht : RwOk S t) {d : KVs} (kn : Kn S r t d) {b o : Bool} {x : List Nat} {n : Nat} (hx : ∀ l, l ≤ n → l ≤ (if o = true then r else t).length → l ≤ x.length ∧ lastN l x = lastN l (if o = true then r else t)) {Q : PV → List PV → Prop}
    (k : ∀ d', Kn S (if o = true then x else r) (if o = true then t else x) d' → Q .non [pvSh S (if o = true then x else r) (if o = true then t else x) ds d' false]) : w_Sheet_changed_row [pvSh S r t ds d b, sdS o, .str (txA x), .int n] Q := by
  have h1 := hr.le
  have h2 := ht.le
  rw [e_Sheet_changed_row]
  (conv => whnf)
  refine ⟨rfl, ?_⟩
  cases o
  · (conv => whnf)
    refine ⟨dat_sd _, dat_sd true, ?_⟩
    (conv => whnf)
    refine ⟨rfl, ?_⟩
    (conv => whnf)
    refine ⟨rfl, ?_⟩
    (conv => whnf)
    refine ⟨kn_imm kn, ?_⟩
    (conv => whnf)
    refine ⟨rfl, ?_⟩
    refine dci_by kn (kn.len h1 h2) false n (fun l m v d' K k1 k2 hs => ?_) ?_
    · (conv => whnf)
      show bfi (decide ((m : Int) ≤ n)) _ _
      refine bif2 (fun q => ?_) (fun q => ?_)
      · (conv => whnf)
        exact ⟨hs, k1 q hs⟩
      · exact k2 q
    have kn' : Kn S r x (d.filter (kf false n)) := kn.keep (kf false n) (fun l m v hq hl hm => by
      have hq : decide (((if false = true then l else m : Nat) : Int) ≤ (n : Int)) = true := by simpa [kf, key2] using hq
      have hq := of_decide_eq_true hq
      obtain ⟨q1, q2⟩ := hx m (by simpa using hq) hm
      exact ⟨hl, q1, rfl, q2⟩) (fun v => by simp [kf, key2])
    refine ⟨kn_imm kn', ?_⟩
    (conv => whnf)
    refine ⟨rfl, ?_⟩
    (conv => whnf)
    exact k _ kn'
  · (conv => whnf)
    refine ⟨dat_sd _, dat_sd true, ?_⟩
    (conv => whnf)
    refine ⟨rfl, ?_⟩
    (conv => whnf)
    refine ⟨rfl, ?_⟩
    (conv => whnf)
    refine ⟨kn_imm kn, ?_⟩
    (conv => whnf)
    refine ⟨rfl, ?_⟩
    refine dci_by kn (kn.len h1 h2) true n (fun l m v d' K k1 k2 hs => ?_) ?_
    · (conv => whnf)
      show bfi (decide ((l : Int) ≤ n)) _ _
      refine bif2 (fun q => ?_) (fun q => ?_)
      · (conv => whnf)
        exact ⟨hs, k1 q hs⟩
      · exact k2 q
    have kn' : Kn S x t (d.filter (kf true n)) := kn.keep (kf true n) (fun l m v hq hl hm => by
      have hq : decide (((if true = true then l else m : Nat) : Int) ≤ (n : Int)) = true := by simpa [kf, key2] using hq
      have hq := of_decide_eq_true hq
      obtain ⟨q1, q2⟩ := hx l (by simpa using hq) hl
      exact ⟨q1, hm, q2, rfl⟩) (fun v => by simp [kf, key2])
    refine ⟨kn_imm kn', ?_⟩
    (conv => whnf)
    refine ⟨rfl, ?_⟩
    (conv => whnf)
    exact k _ kn'
/-- a row changed: p q r' for p z r' -/
theorem still_ok {old : List Nat} {p q : List Nat} {i : Nat} (hq : q = old.drop i) : ∀ l, l ≤ old.length - i → l ≤ old.length → l ≤ (p ++ q).length ∧ lastN l (p ++ q) = lastN l old := by
  subst hq
  intro l h1 _
  refine ⟨by rw [List.length_append, List.length_drop]; omega, ?_⟩
  rw [last_app (by rw [List.length_drop]; exact h1), last_drop h1]
theorem ab_small : ∀ c ∈ abA, c < 0x110000 := by decide +kernel
theorem dat_tx {l : List Nat} (h : ∀ c ∈ l, c ∈ abA) : dat 8 (.str (txA l)) = true := by
  show (txA l).cps.all (· < 0x110000) = true
  unfold txA
  simp only [List.all_toArray, List.all_eq_true]
  exact fun c m => decide_eq_true (ab_small c (h c m))
theorem peq_e0 {l : List Nat} (h : l ≠ []) : peq (.str (txA l)) (.str (Str.ofString "")) = false := by
  rw [nil_tx]
  show decide (txA l = txA []) = false
  refine decide_eq_false fun e => h ?_
  have := congrArg (fun s : Str => s.cps.toList) e
  simpa [txA] using this
theorem row_ok {S : Sc} {r t : List Nat} (hr : RwOk S r) (ht : RwOk S t) (o : Bool) : RwOk S (if o = true then r else t) := by cases o <;> simp <;> assumption
theorem L_put {S : Sc} (ok : S.Ok) {ds : KVs} {r t : List Nat} (hr : RwOk S r) (ht : RwOk S t) {d : KVs} (kn : Kn S r t d) {b o : Bool} {x z : List Nat} {i : Nat} (hi : i ≤ (if o = true then r else t).length) (h0 : z ≠ []) (hz : ∀ c ∈ z, c ∈ S.l) (hl : (if o = true then r else t).length + z.length ≤ 40)
    (hx : x = (if o = true then r else t).take i ++ z ++ (if o = true then r else t).drop i) {Q : PV → List PV → Prop}
    (k : ∀ d', Kn S (if o = true then x else r) (if o = true then t else x) d' → Q (.int ((i : Int) + z.length)) [pvSh S (if o = true then x else r) (if o = true then t else x) ds d' false]) : w_Sheet_put [pvSh S r t ds d b, sdS o, .int i, .str (txA z)] Q := by
  obtain ⟨w, hw⟩ : ∃ w, (if o = true then r else t) = w := ⟨_, rfl⟩
  rw [e_Sheet_put]
  (conv => whnf)
  refine L_need_side ?_
  (conv => whnf)
  refine L_need_place ?_
  (conv => whnf)
  refine L_is_row (by omega) (fun c m => ok.ha c (hz c m)) ?_
  (conv => whnf)
  refine ⟨dat_tx fun c m => ok.ha c (hz c m), by decide +kernel, ?_⟩
  (conv => whnf)
  rw [show peq (.str (txA z)) _ = _ from peq_e0 h0]
  (conv => whnf)
  refine ⟨rfl, L_S_row ?_⟩
  have hw0 := row_ok hr ht o
  have hch := L_changed (ds := ds) (b := b) (o := o) (x := x) (n := (if o = true then r else t).length - i) hr ht kn
  rw [hw] at hi hl hx hw0 hch ⊢
  have hw1 := hw0.le
  have zl : 0 < z.length := List.length_pos_iff.mpr h0
  (conv => whnf)
  refine ⟨by rw [tx_len]; exact few (by omega), ?_⟩
  rw [tx_len]
  refine biff (show ¬ ((w.length : Int) < (i : Int)) by omega) ?_
  (conv => whnf)
  refine ⟨by rw [tx_len]; exact few (by omega), ?_⟩
  rw [tx_len]
  (conv => whnf)
  refine ⟨by rw [tx_len]; exact few (by omega), ?_⟩
  rw [tx_len]
  (conv => whnf)
  refine biff (show ¬ ((40 : Int) < (w.length : Int) + (z.length : Int)) by omega) ?_
  (conv => whnf)
  refine ⟨rfl, ?_⟩
  (conv => whnf)
  refine L_need_letters (by omega) hz ?_
  (conv => whnf)
  refine ⟨rfl, ?_⟩
  (conv => whnf)
  refine ⟨by rw [tx_len]; exact few (by omega), ?_⟩
  rw [tx_lo hi]
  (conv => whnf)
  refine ⟨few (by rw [tx_len, tx_len]; simp; omega), ?_⟩
  rw [tx_app]
  (conv => whnf)
  refine ⟨by rw [tx_len]; exact few (by omega), ?_⟩
  rw [tx_hi hi]
  (conv => whnf)
  refine ⟨few (by rw [tx_len, tx_len]; simp; omega), ?_⟩
  rw [tx_app, ← hx]
  (conv => whnf)
  refine ⟨by rw [tx_len]; exact few (by omega), ?_⟩
  rw [tx_len]
  (conv => whnf)
  rw [i_sub hi]
  refine hch ?_ fun d' kn' => ?_
  · intro l q1 q2
    rw [hx]
    exact still_ok rfl l q1 q2
  (conv => whnf)
  refine ⟨by rw [tx_len]; exact few (by omega), ?_⟩
  rw [tx_len]
  (conv => whnf)
  exact k d' kn'
theorem L_take_out {S : Sc} (ok : S.Ok) {ds : KVs} {r t : List Nat} (hr : RwOk S r) (ht : RwOk S t) {d : KVs} (kn : Kn S r t d) {b o : Bool} {x : List Nat} {i n : Nat} (hn : 1 ≤ n) (hi : i + n ≤ (if o = true then r else t).length)
    (hx : x = (if o = true then r else t).take i ++ (if o = true then r else t).drop (i + n)) {Q : PV → List PV → Prop}
    (k : ∀ d', Kn S (if o = true then x else r) (if o = true then t else x) d' → Q (.int i) [pvSh S (if o = true then x else r) (if o = true then t else x) ds d' false]) : w_Sheet_take [pvSh S r t ds d b, sdS o, .int i, .int n] Q := by
  obtain ⟨w, hw⟩ : ∃ w, (if o = true then r else t) = w := ⟨_, rfl⟩
  have hw0 := row_ok hr ht o
  have hch := L_changed (ds := ds) (b := b) (o := o) (x := x) (n := (if o = true then r else t).length - (i + n)) hr ht kn
  have hw1 := hw0.le
  rw [e_Sheet_take]
  (conv => whnf)
  refine L_need_side ?_
  (conv => whnf)
  refine L_need_place ?_
  (conv => whnf)
  refine L_is_between ?_
  rw [decide_eq_true (show (1 : Int) ≤ (n : Int) ∧ (n : Int) ≤ 40 by omega)]
  (conv => whnf)
  refine ⟨rfl, L_S_row ?_⟩
  rw [hw] at hi hx hw0 hch hw1 ⊢
  (conv => whnf)
  refine ⟨by rw [tx_len]; exact few (by omega), ?_⟩
  rw [tx_len]
  (conv => whnf)
  refine biff (show ¬ ((w.length : Int) < (i : Int) + (n : Int)) by omega) ?_
  (conv => whnf)
  refine ⟨rfl, ?_⟩
  (conv => whnf)
  refine ⟨by rw [tx_len]; exact few (by omega), ?_⟩
  rw [tx_lo (by omega)]
  (conv => whnf)
  refine ⟨by rw [tx_len]; exact few (by omega), ?_⟩
  rw [show (i : Int) + (n : Int) = ((i + n : Nat) : Int) by omega, tx_hi hi]
  (conv => whnf)
  refine ⟨few (by rw [tx_len, tx_len]; simp; omega), ?_⟩
  rw [tx_app, ← hx]
  (conv => whnf)
  refine ⟨by rw [tx_len]; exact few (by omega), ?_⟩
  rw [tx_len]
  (conv => whnf)
  rw [show (w.length : Int) - i - n = ((w.length - (i + n) : Nat) : Int) by omega]
  refine hch ?_ fun d' kn' => ?_
  · intro l q1 q2
    rw [hx]
    exact still_ok rfl l q1 q2
  (conv => whnf)
  exact k d' kn'
theorem L_turn {S : Sc} (ok : S.Ok) {ds : KVs} {r t : List Nat} (hr : RwOk S r) (ht : RwOk S t) {d : KVs} (kn : Kn S r t d) {b o : Bool} {x : List Nat} {i c : Nat} (hc : c ∈ S.l) (hi : i < (if o = true then r else t).length)
    (hx : x = (if o = true then r else t).take i ++ [c] ++ (if o = true then r else t).drop (i + 1)) {Q : PV → List PV → Prop}
    (k : ∀ d', Kn S (if o = true then x else r) (if o = true then t else x) d' → Q (.int ((i : Int) + 1)) [pvSh S (if o = true then x else r) (if o = true then t else x) ds d' false]) : w_Sheet_turn [pvSh S r t ds d b, sdS o, .int i, .str (txA [c])] Q := by
  obtain ⟨w, hw⟩ : ∃ w, (if o = true then r else t) = w := ⟨_, rfl⟩
  have hw0 := row_ok hr ht o
  have hch := L_changed (ds := ds) (b := b) (o := o) (x := x) (n := (if o = true then r else t).length - (i + 1)) hr ht kn
  have hw1 := hw0.le
  rw [e_Sheet_turn]
  (conv => whnf)
  refine L_need_side ?_
  (conv => whnf)
  refine L_need_place ?_
  (conv => whnf)
  refine L_is_letter (ok.ha c hc) ?_
  (conv => whnf)
  refine ⟨rfl, L_S_row ?_⟩
  rw [hw] at hi hx hw0 hch hw1 ⊢
  (conv => whnf)
  refine ⟨by rw [tx_len]; exact few (by omega), ?_⟩
  rw [tx_len]
  (conv => whnf)
  refine biff (show ¬ ((w.length : Int) ≤ (i : Int)) by omega) ?_
  (conv => whnf)
  refine ⟨rfl, ?_⟩
  (conv => whnf)
  refine L_need_letters (by simp) (by simpa using hc) ?_
  (conv => whnf)
  refine ⟨rfl, ?_⟩
  (conv => whnf)
  refine ⟨by rw [tx_len]; exact few (by omega), ?_⟩
  rw [tx_lo (by omega)]
  (conv => whnf)
  refine ⟨few (by rw [tx_len, tx_len]; simp; omega), ?_⟩
  rw [tx_app]
  (conv => whnf)
  refine ⟨by rw [tx_len]; exact few (by omega), ?_⟩
  rw [show (i : Int) + 1 = ((i + 1 : Nat) : Int) by omega, tx_hi (by omega)]
  (conv => whnf)
  refine ⟨few (by rw [tx_len, tx_len]; simp; omega), ?_⟩
  rw [tx_app, ← hx]
  (conv => whnf)
  refine ⟨by rw [tx_len]; exact few (by omega), ?_⟩
  rw [tx_len]
  (conv => whnf)
  rw [show (w.length : Int) - i - 1 = ((w.length - (i + 1) : Nat) : Int) by omega]
  refine hch ?_ fun d' kn' => ?_
  · intro l q1 q2
    rw [hx]
    exact still_ok rfl l q1 q2
  (conv => whnf)
  exact k d' kn'
end Lw
namespace Lw
open PySem PySem.Spec L2 Lb Vl
local macro_rules | `(tactic| walk_at "sd") => `(tactic| first | with_reducible rfl | assumption | omega | (simp only [List.length_map, List.length_range, List.length_append, List.length_cons, List.length_nil]; omega) | rfl | (constructor <;> omega) | (simp only [List.length_map, List.length_range]; constructor <;> omega) | (refine few ?_; simp; done) | (refine few ?_; simp; omega) | (refine few ?_; omega) | (refine few1 ?_; simp; done) | (refine few1 ?_; simp; omega) | walk_at "sdx" | (simp; done) | (simp; omega))
local macro_rules | `(tactic| walk_at "sdx") => `(tactic| fail)
local macro_rules | `(tactic| walk_at "call") => `(tactic| fail)
local macro_rules | `(tactic| walk_at "go1") => `(tactic| first | walk_at "call" | refine And.intro (by walk_at "sd") ?_ | refine bift (by walk_at "sd") ?_ | refine biff (by walk_at "sd") ?_ | refine nbift (by walk_at "sd") ?_ | refine nbiff (by walk_at "sd") ?_ | with_reducible refine yfor_cons ?_ | with_reducible refine yfor_nil ?_ | with_reducible refine ylc_cons ?_ | with_reducible refine ylc_nil ?_ | rw [peq_int])
local macro_rules | `(tactic| walk_at "go") => `(tactic| ((repeat ((conv => whnf); walk_at "go1")); try (conv => whnf)))
local macro_rules | `(tactic| walk_at "call") => `(tactic| refine L_is_whole ?_)
local macro_rules | `(tactic| walk_at "call") => `(tactic| refine L_is_place (by walk_at "sd") ?_)
local macro_rules | `(tactic| walk_at "call") => `(tactic| refine L_is_step ?_)
local macro_rules | `(tactic| walk_at "sdx") => `(tactic| exact len_pv lds_len3)
local macro_rules | `(tactic| walk_at "call") => `(tactic| refine L_Sc_opening ?_)
local macro_rules | `(tactic| walk_at "call") => `(tactic| refine L_Sc_each ?_)
theorem L71_letters {mo : Nat} (m1 : 1 ≤ mo) (m8 : mo ≤ 8) {Q : PV → Prop} (k : ∀ l : List Nat, l.Nodup → 1 ≤ l.length → l.length ≤ mo → (∀ c ∈ l, c ∈ abA) → Q (.str (txA l))) : w_law_letters [.bag, .int mo] Q := by
  rw [e_law_letters]
  (conv => whnf)
  rw [ab_tx, nil_tx]
  refine ⟨by rw [tx_len, ab_len]; exact few (by decide), ?_⟩
  rw [chars_tx]
  (conv => whnf)
  refine ⟨⟨by omega, by omega⟩, ?_⟩
  intro n n1 n2
  obtain ⟨n, rfl⟩ := toN n1
  (conv => whnf)
  refine ⟨⟨by omega, by omega⟩, ?_⟩
  rw [show ((1 : Int) + n).toNat = n + 1 by omega]
  refine yforR (fun m γ => ∃ (fd pl : List Nat) (b4 : Option PV), (fd ++ pl).Perm abA ∧ fd.length = m ∧ γ = [some .bag, some (.int mo), some (.lst (pl.map chA)), some (.str (txA fd)), b4]) ⟨[], abA, _, .refl _, rfl, rfl⟩ ?_ ?_
  · rintro m γ hm ⟨fd, pl, b4, hp, hl, rfl⟩ K hK
    have h26 : fd.length + pl.length = 26 := by rw [← List.length_append, hp.length_eq, ab_len]
    (conv => whnf)
    rw [List.length_map]
    refine ⟨⟨by omega, by omega⟩, ?_⟩
    intro v v1 v2
    obtain ⟨j, rfl⟩ := toN v1
    have hj : j < pl.length := by omega
    have e0 : pl = pl.take j ++ pl[j] :: pl.drop (j + 1) := by rw [← List.drop_eq_getElem_cons hj, List.take_append_drop]
    generalize pl[j] = x at e0
    have ht : (pl.take j).length = j := by rw [List.length_take]; omega
    have hpl : pl.length ≤ 26 := by omega
    generalize pl.take j = t at e0 ht
    generalize pl.drop (j + 1) = d at e0
    subst e0
    refine ⟨t.map chA, chA x, d.map chA, by rw [List.map_append]; rfl, ⟨by rw [List.length_map, ht], few (by omega)⟩, ?_⟩
    (conv => whnf)
    refine ⟨few (by rw [tx_len]; show _ + 1 ≤ 1000; omega), hK _ ⟨fd ++ [x], t ++ d, some (.int m), ?_, by simp; omega, by rw [List.map_append, tx_snoc]⟩⟩
    refine List.Perm.trans ?_ hp
    rw [List.append_assoc]
    show (fd ++ (x :: (t ++ d))).Perm (fd ++ (t ++ x :: d))
    exact List.Perm.append_left fd List.perm_middle.symm
  · rintro γ ⟨fd, pl, b4, hp, hl, rfl⟩
    (conv => whnf)
    have nd : (fd ++ pl).Nodup := hp.nodup_iff.mpr ab_nd
    exact k fd (List.nodup_append.mp nd).1 (by omega) (by omega) fun c hc => hp.subset (List.mem_append_left _ hc)
theorem L71_price {Q : PV → Prop} (k : ∀ i : Int, 0 ≤ i ∧ i ≤ 1000000 → Q (.int i)) : w_law_price [.bag] Q := by
  rw [e_law_price]
  walk_at "go"
  intro w w1 w2
  walk_at "go"
  by_cases h1 : w < 2
  · rw [decide_eq_true h1]
    walk_at "go"
    intro v v1 v2
    exact k _ ⟨by omega, by omega⟩
  · rw [decide_eq_false h1]
    (conv => whnf)
    refine ⟨cpow6, ?_⟩
    rw [pow6]
    (conv => whnf)
    refine ⟨cpow6, ?_⟩
    rw [pow6]
    (conv => whnf)
    refine ⟨⟨by omega, by omega⟩, ?_⟩
    intro u u1 u2
    (conv => whnf)
    refine ⟨⟨by omega, by omega⟩, ?_⟩
    intro v v1 v2
    have : v = 0 ∨ v = 1 ∨ v = 2 := by omega
    rcases this with rfl | rfl | rfl
    · exact k 0 ⟨by omega, by omega⟩
    · exact k 1000000 ⟨by omega, by omega⟩
    · exact k u ⟨by omega, by omega⟩
theorem L71_scale {Q : PV → Prop} (k : ∀ (S : Sc) (d : KVs), S.Ok → DOk S d → Q (.tup [pvSc S d, .str (txA S.l)])) : w_law_scale [.bag] Q := by
  rw [e_law_scale]
  (conv => whnf)
  refine L71_letters (mo := 4) (by decide) (by decide) fun l nd l1 l4 la => ?_
  (conv => whnf)
  refine ⟨by rw [tx_len]; exact few (by omega), ?_⟩
  rw [tx_len]
  (conv => whnf)
  refine L_worths (by omega) fun R hR => ?_
  (conv => whnf)
  refine j_by (fun γ => ∃ R, okR l.length R ∧ γ = [some .bag, some (.str (txA l)), some (pvR R), none, none]) ?_ ?_
  · intro K hK
    (conv => whnf)
    refine ⟨⟨by omega, by omega⟩, ?_⟩
    intro w w1 w2
    (conv => whnf)
    refine ⟨rfl, rfl, ?_⟩
    rw [peq_int]
    by_cases h : w = 0
    · rw [decide_eq_true h]
      (conv => whnf)
      rw [chars_tx]
      refine ⟨by rw [List.length_map]; exact few (by omega), ?_⟩
      refine ylcD (P := fun y => ∃ r : List Int, y = pvI r ∧ (r.length = l.length ∧ ∀ i ∈ r, okS i)) (fun a ma Q k => ?_) fun ys hl hp => ?_
      · (conv => whnf)
        rw [chars_tx]
        refine ⟨by rw [List.length_map]; exact few (by omega), ?_⟩
        refine ylcD (P := fun y => ∃ i : Int, y = .int i ∧ okS i) (fun c mc Q k => ?_) fun ys hl hp => ?_
        · (conv => whnf)
          refine ⟨dat_tx (l := [a]) (by simpa using la a ma), dat_tx (l := [c]) (by simpa using la c mc), ?_⟩
          cases peq (chA a) (chA c)
          · (conv => whnf)
            exact k _ ⟨-2, rfl, by omega, by omega⟩
          · (conv => whnf)
            exact k _ ⟨4, rfl, by omega, by omega⟩
        · obtain ⟨r, rfl, hr⟩ := listOf hp
          (conv => whnf)
          exact k _ ⟨r, rfl, by simpa using hl, hr⟩
      · obtain ⟨R, rfl, hR⟩ := listOf hp
        exact hK _ ⟨R, ⟨by simpa using hl, hR⟩, rfl⟩
    · rw [decide_eq_false h]
      exact hK _ ⟨R, hR, rfl⟩
  · rintro γ ⟨R, hR, rfl⟩
    (conv => whnf)
    refine L71_price fun o ho => ?_
    (conv => whnf)
    refine L71_price fun c hc => ?_
    (conv => whnf)
    have ok : (Sc.mk l R o c).Ok := ⟨nd, l1, Nat.le_trans l4 (by decide), la, hR, ho, hc⟩
    refine L_Sc (S := ⟨l, R, o, c⟩) ok fun d hd => ?_
    (conv => whnf)
    exact k ⟨l, R, o, c⟩ d ok hd
theorem L71_row {S : Sc} (ok : S.Ok) {mo : Nat} (hm : mo ≤ 40) {Q : PV → Prop} (k : ∀ x : List Nat, x.length ≤ mo → (∀ c ∈ x, c ∈ S.l) → Q (.str (txA x))) : w_law_row [.bag, .str (txA S.l), .int mo] Q := by
  have h1 := ok.h1
  have h2 := ok.h2
  rw [e_law_row]
  (conv => whnf)
  refine ⟨rfl, ?_⟩
  (conv => whnf)
  refine ⟨⟨by omega, by omega⟩, ?_⟩
  intro u u1 u2
  (conv => whnf)
  refine ⟨⟨by omega, by omega⟩, ?_⟩
  intro v v1 v2
  (conv => whnf)
  refine ⟨⟨by omega, by omega⟩, ?_⟩
  intro w w1 w2
  obtain ⟨u, rfl⟩ := toN u1
  obtain ⟨v, rfl⟩ := toN v1
  obtain ⟨n, he⟩ : ∃ n : Nat, atI [PV.int 0, PV.int 1, PV.int mo, PV.int u, PV.int v] w = some (.int n) := by
    have : w = 0 ∨ w = 1 ∨ w = 2 ∨ w = 3 ∨ w = 4 := by omega
    rcases this with rfl | rfl | rfl | rfl | rfl
    · exact ⟨0, rfl⟩
    · exact ⟨1, rfl⟩
    · exact ⟨mo, rfl⟩
    · exact ⟨u, rfl⟩
    · exact ⟨v, rfl⟩
  (conv => whnf)
  rw [he]
  (conv => whnf)
  obtain ⟨e, he2, hle⟩ : ∃ e : Nat, (if (n : Int) < (mo : Int) then (n : Int) else mo) = e ∧ e ≤ mo := by
    by_cases h : (n : Int) < mo
    · exact ⟨n, by rw [if_pos h], by omega⟩
    · exact ⟨mo, by rw [if_neg h], Nat.le_refl _⟩
  rw [he2]
  refine ⟨⟨by omega, by omega⟩, ?_⟩
  rw [show ((e : Int)).toNat = e by omega]
  unfold Vl.upTo
  refine ⟨by rw [List.length_map, List.length_range, sizeLine_eq]; omega, ?_⟩
  (conv => whnf)
  refine ylcD (P := fun y => ∃ c : Nat, y = chA c ∧ c ∈ S.l) (fun a ma Q k => ?_) fun ys hl hp => ?_
  · (conv => whnf)
    refine ⟨by rw [tx_len]; exact few (by omega), ?_⟩
    rw [tx_len]
    (conv => whnf)
    refine ⟨⟨by omega, by omega⟩, ?_⟩
    intro x x1 x2
    obtain ⟨x, rfl⟩ := toN x1
    have hx : x < S.l.length := by omega
    (conv => whnf)
    refine ⟨by rw [tx_len]; exact few (by omega), ?_⟩
    rw [tx_cps, atI_nat hx]
    (conv => whnf)
    refine ⟨rfl, ?_⟩
    (conv => whnf)
    exact k _ ⟨_, rfl, List.getElem_mem hx⟩
  obtain ⟨cs, rfl, hcs⟩ := listOf hp
  have hcl : cs.length = e := by simpa using hl
  (conv => whnf)
  rw [strs_a]
  (conv => whnf)
  refine ⟨by rw [lens_a, show (Str.ofString "").length = 0 by decide +kernel, List.length_map, Nat.mul_zero]; omega, ?_⟩
  rw [join_a]
  exact k cs (by omega) hcs
def pvRw (r t : List Nat) : PV := .dK [(.inr (Str.ofString "over"), .str (txA r)), (.inr (Str.ofString "under"), .str (txA t))]
inductive Dd where
  | put (o : Bool) (i : Nat) (z : List Nat)
  | take (o : Bool) (i n : Nat)
  | turn (o : Bool) (i c : Nat)
def pvDd : Dd → PV
  | .put o i z => .tup [.str (Str.ofString "put"), sdS o, .int i, .str (txA z)]
  | .take o i n => .tup [.str (Str.ofString "take"), sdS o, .int i, .int n]
  | .turn o i c => .tup [.str (Str.ofString "turn"), sdS o, .int i, chA c]
def DdOk (S : Sc) (mo : Nat) (r t : List Nat) : Dd → Prop
  | .put o i z => i ≤ (if o = true then r else t).length ∧ z ≠ [] ∧ (∀ c ∈ z, c ∈ S.l) ∧ (if o = true then r else t).length + z.length ≤ mo
  | .take o i n => 1 ≤ n ∧ i + n ≤ (if o = true then r else t).length
  | .turn o i c => i < (if o = true then r else t).length ∧ c ∈ S.l
def dget_o (r t : List Nat) (o : Bool) : valP [((.inr (Str.ofString "over") : Key), PV.str (txA r)), (.inr (Str.ofString "under"), .str (txA t))] (.inr (Str.ofString (if o = true then "over" else "under"))) = some (.str (txA (if o = true then r else t))) := by cases o <;> rfl
theorem cut2h {A B K1 K2 G : Prop} (f : (A → K1) → (B → K2) → G) (k1 : A → K1) (k2 : B → K2) : G := f k1 k2
theorem L71_deed {S : Sc} (ok : S.Ok) {mo : Nat} (m1 : 1 ≤ mo) (hm : mo ≤ 40) {r t : List Nat} (hr : RwOk S r) (ht : RwOk S t) (lr : r.length ≤ mo) (lt : t.length ≤ mo) {Q : PV → Prop} (k : ∀ D, DdOk S mo r t D → Q (pvDd D)) : w_law_deed [.bag, pvRw r t, .str (txA S.l), .int mo] Q := by
  have h1 := ok.h1
  have h2 := ok.h2
  rw [e_law_deed]
  (conv => whnf)
  refine ⟨⟨by omega, by omega⟩, ?_⟩
  intro v v1 v2
  obtain ⟨o, ho⟩ : ∃ o : Bool, atI [PV.str (Str.ofString "over"), .str (Str.ofString "under")] v = some (sdS o) := by
    have : v = 0 ∨ v = 1 := by omega
    rcases this with rfl | rfl
    · exact ⟨true, rfl⟩
    · exact ⟨false, rfl⟩
  (conv => whnf)
  rw [ho]
  (conv => whnf)
  rw [dget_o]
  have hw0 := row_ok hr ht o
  have lw : (if o = true then r else t).length ≤ mo := by cases o <;> simp <;> assumption
  have kk : ∀ D, DdOk S mo r t D → Q (pvDd D) := k
  obtain ⟨w, hw⟩ : ∃ w, (if o = true then r else t) = w := ⟨_, rfl⟩
  have k1 : ∀ (i : Nat) (z : List Nat), i ≤ w.length → z ≠ [] → (∀ c ∈ z, c ∈ S.l) → w.length + z.length ≤ mo → Q (pvDd (.put o i z)) := fun i z q1 q2 q3 q4 => k _ ⟨by rw [hw]; exact q1, q2, q3, by rw [hw]; exact q4⟩
  have k2 : ∀ (i n : Nat), 1 ≤ n → i + n ≤ w.length → Q (pvDd (.take o i n)) := fun i n q1 q2 => k _ ⟨q1, by rw [hw]; exact q2⟩
  have k3 : ∀ (i c : Nat), i < w.length → c ∈ S.l → Q (pvDd (.turn o i c)) := fun i c q1 q2 => k _ ⟨by rw [hw]; exact q1, q2⟩
  clear k kk
  rw [hw] at hw0 lw ⊢
  have hw1 := hw0.le
  (conv => whnf)
  refine ⟨⟨by omega, by omega⟩, ?_⟩
  intro x x1 x2
  (conv => whnf)
  refine ⟨rfl, rfl, ?_⟩
  rw [peq_int]
  apply cut2h (A := w.length < mo) (B := w ≠ [])
  · intro kp kr
    by_cases hx : x = 0
    · rw [decide_eq_true hx]
      (conv => whnf)
      refine ⟨by rw [tx_len]; exact few (by omega), ?_⟩
      rw [tx_len]
      by_cases hlt : w.length < mo
      · refine bift (show (w.length : Int) < mo by omega) ?_
        exact kp hlt
      · refine biff (show ¬ (w.length : Int) < mo by omega) ?_
        have wne : w ≠ [] := fun e => hlt (by rw [e]; exact m1)
        (conv => whnf)
        refine ⟨dat_tx fun c m => ok.ha c (hw0.mem c m), by decide +kernel, ?_⟩
        (conv => whnf)
        rw [show peq (.str (txA w)) _ = _ from peq_e0 wne]
        exact kr wne
    · rw [decide_eq_false hx]
      (conv => whnf)
      refine ⟨dat_tx fun c m => ok.ha c (hw0.mem c m), by decide +kernel, ?_⟩
      (conv => whnf)
      by_cases hn : w = []
      · rw [show peq (.str (txA w)) (.str (Str.ofString "")) = true by rw [hn]; decide +kernel]
        exact kp (by rw [hn]; exact m1)
      · rw [show peq (.str (txA w)) _ = _ from peq_e0 hn]
        exact kr hn
  · intro hlt
    (conv => whnf)
    refine ⟨by rw [tx_len]; exact few (by omega), ?_⟩
    rw [tx_len]
    (conv => whnf)
    refine ⟨by rw [tx_len]; exact few (by omega), ?_⟩
    rw [tx_len]
    (conv => whnf)
    refine ⟨⟨by omega, by omega⟩, ?_⟩
    intro a a1 a2
    obtain ⟨a, rfl⟩ := toN a1
    (conv => whnf)
    refine ⟨⟨by omega, by omega⟩, ?_⟩
    intro b b1 b2
    obtain ⟨i, hi, he⟩ : ∃ i : Nat, i ≤ w.length ∧ atI [PV.int 0, .int w.length, .int a] b = some (.int i) := by
      have : b = 0 ∨ b = 1 ∨ b = 2 := by omega
      rcases this with rfl | rfl | rfl
      · exact ⟨0, Nat.zero_le _, rfl⟩
      · exact ⟨w.length, Nat.le_refl _, rfl⟩
      · exact ⟨a, by omega, rfl⟩
    (conv => whnf)
    rw [he]
    (conv => whnf)
    refine ⟨by rw [tx_len]; exact few (by omega), ?_⟩
    rw [tx_len]
    (conv => whnf)
    refine ⟨⟨by omega, by omega⟩, ?_⟩
    intro c c1 c2
    obtain ⟨c, rfl⟩ := toN c1
    (conv => whnf)
    refine ⟨rfl, ?_⟩
    (conv => whnf)
    refine ⟨⟨by omega, by omega⟩, ?_⟩
    intro f f1 f2
    obtain ⟨g, hg, hge⟩ : ∃ g : Nat, 1 ≤ g ∧ atI [PV.int 1, .int 1, .int 2, .int (1 + c), .int mo] f = some (.int g) := by
      have : f = 0 ∨ f = 1 ∨ f = 2 ∨ f = 3 ∨ f = 4 := by omega
      rcases this with rfl | rfl | rfl | rfl | rfl
      · exact ⟨1, by omega, rfl⟩
      · exact ⟨1, by omega, rfl⟩
      · exact ⟨2, by omega, rfl⟩
      · exact ⟨1 + c, by omega, by show some (PV.int (1 + (c : Int))) = some (PV.int ((1 + c : Nat) : Int)); rw [show (1 + (c : Int)) = ((1 + c : Nat) : Int) by omega]⟩
      · exact ⟨mo, by omega, rfl⟩
    (conv => whnf)
    rw [hge]
    (conv => whnf)
    obtain ⟨e, he2, e1, e2⟩ : ∃ e : Nat, (if (g : Int) < (mo : Int) - (w.length : Int) then (g : Int) else (mo : Int) - (w.length : Int)) = e ∧ 1 ≤ e ∧ w.length + e ≤ mo := by
      by_cases h : (g : Int) < (mo : Int) - (w.length : Int)
      · exact ⟨g, by rw [if_pos h], hg, by omega⟩
      · exact ⟨mo - w.length, by rw [if_neg h]; omega, by omega, by omega⟩
    rw [he2]
    refine ⟨⟨by omega, by omega⟩, ?_⟩
    rw [show ((e : Int)).toNat = e by omega]
    unfold Vl.upTo
    refine ⟨by rw [List.length_map, List.length_range, sizeLine_eq]; omega, ?_⟩
    (conv => whnf)
    refine ylcD (P := fun y => ∃ c : Nat, y = chA c ∧ c ∈ S.l) (fun a ma Q k => ?_) fun ys hl hp => ?_
    · (conv => whnf)
      refine ⟨by rw [tx_len]; exact few (by omega), ?_⟩
      rw [tx_len]
      (conv => whnf)
      refine ⟨⟨by omega, by omega⟩, ?_⟩
      intro x x1 x2
      obtain ⟨x, rfl⟩ := toN x1
      have hx : x < S.l.length := by omega
      (conv => whnf)
      refine ⟨by rw [tx_len]; exact few (by omega), ?_⟩
      rw [tx_cps, atI_nat hx]
      (conv => whnf)
      refine ⟨rfl, ?_⟩
      (conv => whnf)
      exact k _ ⟨_, rfl, List.getElem_mem hx⟩
    obtain ⟨cs, rfl, hcs⟩ := listOf hp
    have hcl : cs.length = e := by simpa using hl
    (conv => whnf)
    rw [strs_a]
    (conv => whnf)
    refine ⟨by rw [lens_a, show (Str.ofString "").length = 0 by decide +kernel, List.length_map, Nat.mul_zero]; omega, ?_⟩
    rw [join_a]
    refine k1 i cs hi (fun z => ?_) hcs (by omega)
    rw [z] at hcl
    simp at hcl
    omega
  · intro hne
    have hpos : 0 < w.length := List.length_pos_iff.mpr hne
    (conv => whnf)
    refine ⟨by rw [tx_len]; exact few (by omega), ?_⟩
    rw [tx_len]
    (conv => whnf)
    refine ⟨by rw [tx_len]; exact few (by omega), ?_⟩
    rw [tx_len]
    (conv => whnf)
    refine ⟨⟨by omega, by omega⟩, ?_⟩
    intro a a1 a2
    obtain ⟨a, rfl⟩ := toN a1
    (conv => whnf)
    refine ⟨⟨by omega, by omega⟩, ?_⟩
    intro b b1 b2
    obtain ⟨i, hi, he⟩ : ∃ i : Nat, i < w.length ∧ atI [PV.int 0, .int ((w.length : Int) - 1), .int a] b = some (.int i) := by
      have : b = 0 ∨ b = 1 ∨ b = 2 := by omega
      rcases this with rfl | rfl | rfl
      · exact ⟨0, hpos, rfl⟩
      · exact ⟨w.length - 1, by omega, by show some (PV.int ((w.length : Int) - 1)) = _; rw [show (w.length : Int) - 1 = ((w.length - 1 : Nat) : Int) by omega]⟩
      · exact ⟨a, by omega, rfl⟩
    (conv => whnf)
    rw [he]
    (conv => whnf)
    by_cases hx2 : x < 2
    · refine bift hx2 ?_
      (conv => whnf)
      refine ⟨by rw [tx_len]; exact few (by omega), ?_⟩
      rw [tx_len]
      (conv => whnf)
      refine ⟨by rw [tx_len]; exact few (by omega), ?_⟩
      rw [tx_len]
      (conv => whnf)
      refine ⟨⟨by omega, by omega⟩, ?_⟩
      intro c c1 c2
      obtain ⟨c, rfl⟩ := toN c1
      (conv => whnf)
      refine ⟨⟨by omega, by omega⟩, ?_⟩
      intro f f1 f2
      obtain ⟨n, n1, n2, hn⟩ : ∃ n : Nat, 1 ≤ n ∧ i + n ≤ w.length ∧ atI [PV.int 1, .int ((w.length : Int) - i), .int (1 + c)] f = some (.int n) := by
        have : f = 0 ∨ f = 1 ∨ f = 2 := by omega
        rcases this with rfl | rfl | rfl
        · exact ⟨1, by omega, by omega, rfl⟩
        · exact ⟨w.length - i, by omega, by omega, by show some (PV.int ((w.length : Int) - i)) = _; rw [show (w.length : Int) - i = ((w.length - i : Nat) : Int) by omega]⟩
        · exact ⟨1 + c, by omega, by omega, by show some (PV.int (1 + (c : Int))) = some (PV.int ((1 + c : Nat) : Int)); rw [show (1 + (c : Int)) = ((1 + c : Nat) : Int) by omega]⟩
      (conv => whnf)
      rw [hn]
      exact k2 i n n1 n2
    · refine biff hx2 ?_
      (conv => whnf)
      refine ⟨by rw [tx_len]; exact few (by omega), ?_⟩
      rw [tx_len]
      (conv => whnf)
      refine ⟨⟨by omega, by omega⟩, ?_⟩
      intro c c1 c2
      obtain ⟨c, rfl⟩ := toN c1
      have hc : c < S.l.length := by omega
      (conv => whnf)
      refine ⟨by rw [tx_len]; exact few (by omega), ?_⟩
      rw [tx_cps, atI_nat hc]
      (conv => whnf)
      refine ⟨rfl, ?_⟩
      exact k3 i _ hi (List.getElem_mem hc)
end Lw
namespace Lw
open PySem PySem.Spec L2 Lb Vl
local macro_rules | `(tactic| walk_at "sd") => `(tactic| first | with_reducible rfl | assumption | omega | (simp only [List.length_map, List.length_range, List.length_append, List.length_cons, List.length_nil]; omega) | rfl | (constructor <;> omega) | (simp only [List.length_map, List.length_range]; constructor <;> omega) | (refine few ?_; simp; done) | (refine few ?_; simp; omega) | (refine few ?_; omega) | (refine few1 ?_; simp; done) | (refine few1 ?_; simp; omega) | walk_at "sdx" | (simp; done) | (simp; omega))
local macro_rules | `(tactic| walk_at "sdx") => `(tactic| fail)
local macro_rules | `(tactic| walk_at "call") => `(tactic| fail)
local macro_rules | `(tactic| walk_at "go1") => `(tactic| first | walk_at "call" | refine And.intro (by walk_at "sd") ?_ | refine bift (by walk_at "sd") ?_ | refine biff (by walk_at "sd") ?_ | refine nbift (by walk_at "sd") ?_ | refine nbiff (by walk_at "sd") ?_ | with_reducible refine yfor_cons ?_ | with_reducible refine yfor_nil ?_ | with_reducible refine ylc_cons ?_ | with_reducible refine ylc_nil ?_ | rw [peq_int])
local macro_rules | `(tactic| walk_at "go") => `(tactic| ((repeat ((conv => whnf); walk_at "go1")); try (conv => whnf)))
local macro_rules | `(tactic| walk_at "call") => `(tactic| refine L_is_whole ?_)
local macro_rules | `(tactic| walk_at "call") => `(tactic| refine L_is_place (by walk_at "sd") ?_)
local macro_rules | `(tactic| walk_at "call") => `(tactic| refine L_is_step ?_)
local macro_rules | `(tactic| walk_at "sdx") => `(tactic| exact len_pv lds_len3)
local macro_rules | `(tactic| walk_at "call") => `(tactic| refine L_Sc_opening ?_)
local macro_rules | `(tactic| walk_at "call") => `(tactic| refine L_Sc_each ?_)
def Dd.side : Dd → Bool
  | .put o _ _ => o
  | .take o _ _ => o
  | .turn o _ _ => o
def Dd.row : Dd → List Nat → List Nat
  | .put _ i z, w => w.take i ++ z ++ w.drop i
  | .take _ i n, w => w.take i ++ w.drop (i + n)
  | .turn _ i c, w => w.take i ++ [c] ++ w.drop (i + 1)
def Dd.ov (D : Dd) (r t : List Nat) : List Nat := if D.side = true then D.row r else r
def Dd.un (D : Dd) (r t : List Nat) : List Nat := if D.side = true then t else D.row t
theorem put_o (r t x : List Nat) (o : Bool) : putP [((.inr (Str.ofString "over") : Key), PV.str (txA r)), (.inr (Str.ofString "under"), .str (txA t))] (.inr (Str.ofString (if o = true then "over" else "under"))) (.str (txA x)) = [(.inr (Str.ofString "over"), .str (txA (if o = true then x else r))), (.inr (Str.ofString "under"), .str (txA (if o = true then t else x)))] := by cases o <;> rfl
theorem dd_ok {S : Sc} {mo : Nat} {r t : List Nat} (hr : RwOk S r) (ht : RwOk S t) (hm : mo ≤ 40) (lr : r.length ≤ mo) (lt : t.length ≤ mo) {D : Dd} (h : DdOk S mo r t D) : RwOk S (D.ov r t) ∧ RwOk S (D.un r t) ∧ (D.ov r t).length ≤ mo ∧ (D.un r t).length ≤ mo := by
  have key : RwOk S (D.row (if D.side = true then r else t)) ∧ (D.row (if D.side = true then r else t)).length ≤ mo := by
    cases D with
    | put o i z =>
      obtain ⟨h1, h2, h3, h4⟩ := h
      have w0 := row_ok hr ht o
      show RwOk S ((if o = true then r else t).take i ++ z ++ (if o = true then r else t).drop i) ∧ ((if o = true then r else t).take i ++ z ++ (if o = true then r else t).drop i).length ≤ mo
      generalize (if o = true then r else t) = w at h1 h4 w0 ⊢
      have hl : (w.take i ++ z ++ w.drop i).length ≤ mo := by simp; omega
      refine ⟨⟨by omega, fun c m => ?_⟩, hl⟩
      rcases List.mem_append.mp m with m | m
      · rcases List.mem_append.mp m with m | m
        · exact w0.mem c (List.mem_of_mem_take m)
        · exact h3 c m
      · exact w0.mem c (List.mem_of_mem_drop m)
    | take o i n =>
      obtain ⟨h1, h2⟩ := h
      have w0 := row_ok hr ht o
      have w1 : (if o = true then r else t).length ≤ mo := by cases o <;> simp <;> assumption
      show RwOk S ((if o = true then r else t).take i ++ (if o = true then r else t).drop (i + n)) ∧ ((if o = true then r else t).take i ++ (if o = true then r else t).drop (i + n)).length ≤ mo
      generalize (if o = true then r else t) = w at h1 h2 w0 w1 ⊢
      have hl : (w.take i ++ w.drop (i + n)).length ≤ mo := by simp; omega
      refine ⟨⟨by omega, fun c m => ?_⟩, hl⟩
      rcases List.mem_append.mp m with m | m
      · exact w0.mem c (List.mem_of_mem_take m)
      · exact w0.mem c (List.mem_of_mem_drop m)
    | turn o i c0 =>
      obtain ⟨h1, h2⟩ := h
      have w0 := row_ok hr ht o
      have w1 : (if o = true then r else t).length ≤ mo := by cases o <;> simp <;> assumption
      show RwOk S ((if o = true then r else t).take i ++ [c0] ++ (if o = true then r else t).drop (i + 1)) ∧ ((if o = true then r else t).take i ++ [c0] ++ (if o = true then r else t).drop (i + 1)).length ≤ mo
      generalize (if o = true then r else t) = w at h1 w0 w1 ⊢
      have hl : (w.take i ++ [c0] ++ w.drop (i + 1)).length ≤ mo := by simp; omega
      refine ⟨⟨by omega, fun c m => ?_⟩, hl⟩
      rcases List.mem_append.mp m with m | m
      · rcases List.mem_append.mp m with m | m
        · exact w0.mem c (List.mem_of_mem_take m)
        · simp at m; rw [m]; exact h2
      · exact w0.mem c (List.mem_of_mem_drop m)
  unfold Dd.ov Dd.un
  cases hs : D.side with
  | true => rw [hs] at key; simpa [lt, ht] using key
  | false => rw [hs] at key; simpa [lr, hr] using key
def Dd.num : Dd → Nat
  | .put _ i z => i + z.length
  | .take _ i _ => i
  | .turn _ i _ => i + 1
theorem L73_done {S : Sc} (ok : S.Ok) {ds : KVs} {mo : Nat} (hm : mo ≤ 40) {r t : List Nat} (hr : RwOk S r) (ht : RwOk S t) (lr : r.length ≤ mo) (lt : t.length ≤ mo) {d : KVs} (kn : Kn S r t d) {b : Bool} {D : Dd} (hD : DdOk S mo r t D) {Q : PV → List PV → Prop}
    (k : ∀ (d' : KVs), Kn S (D.ov r t) (D.un r t) d' → Q (.tup [.int D.num, .int D.num]) [pvSh S (D.ov r t) (D.un r t) ds d' false, pvRw (D.ov r t) (D.un r t)]) : w_law_done [pvSh S r t ds d b, pvRw r t, pvDd D] Q := by
  have h1 := hr.le
  have h2 := ht.le
  rw [e_law_done]
  cases D with
  | put o i z =>
    obtain ⟨q1, q2, q3, q4⟩ := hD
    have w0 := row_ok hr ht o
    (conv => whnf)
    rw [dget_o]
    (conv => whnf)
    refine ⟨rfl, ?_⟩
    (conv => whnf)
    refine ⟨by decide +kernel, by decide +kernel, ?_⟩
    have w1 := w0.le
    have e1 : Dd.ov (.put o i z) r t = (if o = true then Dd.row (.put o i z) (if o = true then r else t) else r) := by unfold Dd.ov; cases o <;> rfl
    have e2 : Dd.un (.put o i z) r t = (if o = true then t else Dd.row (.put o i z) (if o = true then r else t)) := by unfold Dd.un; cases o <;> rfl
    (conv => whnf)
    refine ⟨by rw [tx_len]; exact few (by omega), ?_⟩
    rw [tx_lo q1]
    (conv => whnf)
    refine ⟨few (by rw [tx_len, tx_len]; simp; omega), ?_⟩
    rw [tx_app]
    (conv => whnf)
    refine ⟨by rw [tx_len]; exact few (by omega), ?_⟩
    rw [tx_hi q1]
    (conv => whnf)
    refine ⟨few (by rw [tx_len, tx_len]; simp; omega), ?_⟩
    rw [tx_app]
    (conv => whnf)
    refine ⟨few (n := 3) (by decide), ?_⟩
    rw [put_o]
    (conv => whnf)
    refine ⟨rfl, ?_⟩
    (conv => whnf)
    refine L_put ok hr ht kn q1 q2 q3 (by omega) rfl fun d' kn' => ?_
    (conv => whnf)
    refine ⟨by rw [tx_len]; exact few (by omega), ?_⟩
    rw [tx_len]
    (conv => whnf)
    have kk := k d' (by rw [e1, e2]; exact kn')
    rw [e1, e2] at kk
    exact kk
  | take o i n =>
    obtain ⟨q1, q2⟩ := hD
    have w0 := row_ok hr ht o
    have w1 := w0.le
    have e1 : Dd.ov (.take o i n) r t = (if o = true then Dd.row (.take o i n) (if o = true then r else t) else r) := by unfold Dd.ov; cases o <;> rfl
    have e2 : Dd.un (.take o i n) r t = (if o = true then t else Dd.row (.take o i n) (if o = true then r else t)) := by unfold Dd.un; cases o <;> rfl
    (conv => whnf)
    rw [dget_o]
    (conv => whnf)
    refine ⟨rfl, ?_⟩
    (conv => whnf)
    refine ⟨by decide +kernel, by decide +kernel, ?_⟩
    (conv => whnf)
    refine ⟨by decide +kernel, by decide +kernel, ?_⟩
    (conv => whnf)
    refine ⟨by rw [tx_len]; exact few (by omega), ?_⟩
    rw [tx_lo (by omega)]
    (conv => whnf)
    refine ⟨by rw [tx_len]; exact few (by omega), ?_⟩
    rw [show (i : Int) + (n : Int) = ((i + n : Nat) : Int) by omega, tx_hi q2]
    (conv => whnf)
    refine ⟨few (by rw [tx_len, tx_len]; simp; omega), ?_⟩
    rw [tx_app]
    (conv => whnf)
    refine ⟨few (n := 3) (by decide), ?_⟩
    rw [put_o]
    (conv => whnf)
    refine ⟨rfl, ?_⟩
    (conv => whnf)
    refine L_take_out ok hr ht kn q1 q2 rfl fun d' kn' => ?_
    (conv => whnf)
    have kk := k d' (by rw [e1, e2]; exact kn')
    rw [e1, e2] at kk
    exact kk
  | turn o i c =>
    obtain ⟨q1, q2⟩ := hD
    have w0 := row_ok hr ht o
    have w1 := w0.le
    have e1 : Dd.ov (.turn o i c) r t = (if o = true then Dd.row (.turn o i c) (if o = true then r else t) else r) := by unfold Dd.ov; cases o <;> rfl
    have e2 : Dd.un (.turn o i c) r t = (if o = true then t else Dd.row (.turn o i c) (if o = true then r else t)) := by unfold Dd.un; cases o <;> rfl
    (conv => whnf)
    rw [dget_o]
    (conv => whnf)
    refine ⟨rfl, ?_⟩
    (conv => whnf)
    refine ⟨by decide +kernel, by decide +kernel, ?_⟩
    (conv => whnf)
    refine ⟨by decide +kernel, by decide +kernel, ?_⟩
    (conv => whnf)
    refine ⟨by rw [tx_len]; exact few (by omega), ?_⟩
    rw [tx_lo (by omega)]
    (conv => whnf)
    refine ⟨few (by rw [tx_len, show (⟨#[c]⟩ : Str) = txA [c] from rfl, tx_len]; simp; omega), ?_⟩
    rw [show (⟨#[c]⟩ : Str) = txA [c] from rfl, tx_app]
    (conv => whnf)
    refine ⟨by rw [tx_len]; exact few (by omega), ?_⟩
    rw [show (i : Int) + 1 = ((i + 1 : Nat) : Int) by omega, tx_hi (by omega)]
    (conv => whnf)
    refine ⟨few (by rw [tx_len, tx_len]; simp; omega), ?_⟩
    rw [tx_app]
    (conv => whnf)
    refine ⟨few (n := 3) (by decide), ?_⟩
    rw [put_o]
    (conv => whnf)
    refine ⟨rfl, ?_⟩
    (conv => whnf)
    refine L_turn ok hr ht kn q2 q1 rfl fun d' kn' => ?_
    (conv => whnf)
    have kk := k d' (by rw [e1, e2]; exact kn')
    rw [e1, e2] at kk
    exact kk
end Lw
namespace Lw
open PySem PySem.Spec L2 Lb Vl
local macro_rules | `(tactic| walk_at "sd") => `(tactic| first | with_reducible rfl | assumption | omega | (simp only [List.length_map, List.length_range, List.length_append, List.length_cons, List.length_nil]; omega) | rfl | (constructor <;> omega) | (simp only [List.length_map, List.length_range]; constructor <;> omega) | (refine few ?_; simp; done) | (refine few ?_; simp; omega) | (refine few ?_; omega) | (refine few1 ?_; simp; done) | (refine few1 ?_; simp; omega) | walk_at "sdx" | (simp; done) | (simp; omega))
local macro_rules | `(tactic| walk_at "sdx") => `(tactic| fail)
local macro_rules | `(tactic| walk_at "call") => `(tactic| fail)
local macro_rules | `(tactic| walk_at "go1") => `(tactic| first | walk_at "call" | refine And.intro (by walk_at "sd") ?_ | refine bift (by walk_at "sd") ?_ | refine biff (by walk_at "sd") ?_ | refine nbift (by walk_at "sd") ?_ | refine nbiff (by walk_at "sd") ?_ | with_reducible refine yfor_cons ?_ | with_reducible refine yfor_nil ?_ | with_reducible refine ylc_cons ?_ | with_reducible refine ylc_nil ?_ | rw [peq_int])
local macro_rules | `(tactic| walk_at "go") => `(tactic| ((repeat ((conv => whnf); walk_at "go1")); try (conv => whnf)))
local macro_rules | `(tactic| walk_at "call") => `(tactic| refine L_is_whole ?_)
local macro_rules | `(tactic| walk_at "call") => `(tactic| refine L_is_place (by walk_at "sd") ?_)
local macro_rules | `(tactic| walk_at "call") => `(tactic| refine L_is_step ?_)
local macro_rules | `(tactic| walk_at "sdx") => `(tactic| exact len_pv lds_len3)
local macro_rules | `(tactic| walk_at "call") => `(tactic| refine L_Sc_opening ?_)
local macro_rules | `(tactic| walk_at "call") => `(tactic| refine L_Sc_each ?_)
def pvL3 (f : Stp → Int) : PV := .lst [.int (f .b), .int (f .o), .int (f .u)]
def tabR (S : Sc) (r t : List Nat) (i n : Nat) : KVs := (List.range n).map fun j => (key2 i j, pvL3 (bdZ (fdOf S r t) i j))
def tabV (S : Sc) (r t : List Nat) (m : Nat) : KVs := ((List.range m).map fun i => tabR S r t i (t.length + 1)).flatten
theorem tabR_mem {S : Sc} {r t : List Nat} {i n : Nat} {kv : List Key × PV} (h : kv ∈ tabR S r t i n) : ∃ j, j < n ∧ kv = (key2 i j, pvL3 (bdZ (fdOf S r t) i j)) := by
  obtain ⟨j, m, rfl⟩ := List.mem_map.mp h
  exact ⟨j, List.mem_range.mp m, rfl⟩
theorem tabV_mem {S : Sc} {r t : List Nat} {m : Nat} {kv : List Key × PV} (h : kv ∈ tabV S r t m) : ∃ i j, i < m ∧ j < t.length + 1 ∧ kv = (key2 i j, pvL3 (bdZ (fdOf S r t) i j)) := by
  obtain ⟨l, ml, mk⟩ := List.mem_flatten.mp h
  obtain ⟨i, mi, rfl⟩ := List.mem_map.mp ml
  obtain ⟨j, hj, e⟩ := tabR_mem mk
  exact ⟨i, j, List.mem_range.mp mi, hj, e⟩
theorem mem_tabV {S : Sc} {r t : List Nat} {m i j : Nat} (hi : i < m) (hj : j < t.length + 1) : (key2 i j, pvL3 (bdZ (fdOf S r t) i j)) ∈ tabV S r t m :=
  List.mem_flatten.mpr ⟨_, List.mem_map.mpr ⟨i, List.mem_range.mpr hi, rfl⟩, List.mem_map.mpr ⟨j, List.mem_range.mpr hj, rfl⟩⟩
theorem tab_new {S : Sc} {r t : List Nat} {x y : Nat} : valP (tabV S r t x ++ tabR S r t x y) (key2 x y) = none := by
  cases e : valP (tabV S r t x ++ tabR S r t x y) (key2 x y) with
  | none => rfl
  | some v =>
    rcases List.mem_append.mp (valP_mem e) with m | m
    · obtain ⟨i, j, hi, hj, e1⟩ := tabV_mem m
      obtain ⟨e2, -⟩ := key2_inj (Prod.mk.inj e1).1
      omega
    · obtain ⟨j, hj, e1⟩ := tabR_mem m
      obtain ⟨-, e2⟩ := key2_inj (Prod.mk.inj e1).1
      omega
theorem tab_at {S : Sc} {r t : List Nat} {i j m : Nat} (hi : i < m) (hj : j < t.length + 1) : valP (tabV S r t m) (key2 i j) = some (pvL3 (bdZ (fdOf S r t) i j)) := by
  cases e : valP (tabV S r t m) (key2 i j) with
  | none => exact absurd (List.mem_map.mpr ⟨_, mem_tabV hi hj, rfl⟩) (valP_none e)
  | some v =>
    obtain ⟨i', j', _, _, e1⟩ := tabV_mem (valP_mem e)
    obtain ⟨e2, e3⟩ := Prod.mk.inj e1
    obtain ⟨rfl, rfl⟩ := key2_inj e2
    rw [e3]
theorem tabV_len {S : Sc} {r t : List Nat} {m : Nat} : (tabV S r t m).length = m * (t.length + 1) := by
  unfold tabV
  rw [List.length_flatten, List.map_map]
  have : (List.length ∘ fun i => tabR S r t i (t.length + 1)) = fun _ => t.length + 1 := by funext i; simp [tabR]
  rw [this, List.map_const']
  simp
theorem tabR_len {S : Sc} {r t : List Nat} {i n : Nat} : (tabR S r t i n).length = n := by simp [tabR]
theorem L73_table {S : Sc} (ok : S.Ok) {ds : KVs} (hds : DOk S ds) {r t : List Nat} (hr : RwOk S r) (ht : RwOk S t) (lr : r.length ≤ 12) (lt : t.length ≤ 12) {d : KVs} (kn : Kn S r t d) {b : Bool} (hb : b = true → All r t d) {Q : PV → List PV → Prop}
    (k : ∀ d' b', Kn S r t d' → (b' = true → All r t d') → Q (.dT (tabV S r t (r.length + 1))) [pvSh S r t ds d' b', pvRw r t]) : w_law_table [pvSh S r t ds d b, pvRw r t] Q := by
  have h1 := hr.le
  have h2 := ht.le
  rw [e_law_table]
  (conv => whnf)
  refine ⟨by rw [tx_len]; exact few (by omega), ?_⟩
  rw [tx_len]
  (conv => whnf)
  refine ⟨⟨by omega, by omega⟩, ?_⟩
  rw [show ((r.length : Int) + 1).toNat = r.length + 1 by omega]
  refine yforR (fun x γ => ∃ (d : KVs) (b : Bool) (b3 b4 : Option PV), Kn S r t d ∧ (b = true → All r t d) ∧ γ = [some (pvSh S r t ds d b), some (pvRw r t), some (.dT (tabV S r t x)), b3, b4, none]) ⟨d, b, none, none, kn, hb, rfl⟩ ?_ ?_
  · rintro x γ hx ⟨d, b, b3, b4, kn, hb, rfl⟩ K hK
    (conv => whnf)
    refine ⟨by rw [tx_len]; exact few (by omega), ?_⟩
    rw [tx_len]
    (conv => whnf)
    refine ⟨⟨by omega, by omega⟩, ?_⟩
    rw [show ((t.length : Int) + 1).toNat = t.length + 1 by omega]
    refine yforR (fun y γ => ∃ (d : KVs) (b : Bool) (b4 : Option PV), Kn S r t d ∧ (b = true → All r t d) ∧ γ = [some (pvSh S r t ds d b), some (pvRw r t), some (.dT (tabV S r t x ++ tabR S r t x y)), some (.int x), b4, none]) ⟨d, b, b4, kn, hb, by unfold tabR; simp⟩ ?_ ?_
    · rintro y γ hy ⟨d, b, b4, kn, hb, rfl⟩ K hK
      (conv => whnf)
      refine ⟨⟨few (n := 3) (by decide), rfl⟩, ?_⟩
      (conv => whnf)
      refine lcf_cons ?_
      (conv => whnf)
      refine ⟨rfl, ?_⟩
      refine L_S_bound (i := x) (j := y) (a := .b) ok hds hr ht kn hb (by omega) (by omega) fun da kna alla => ?_
      (conv => whnf)
      refine lcf_cons ?_
      (conv => whnf)
      refine ⟨rfl, ?_⟩
      refine L_S_bound (i := x) (j := y) (a := .o) ok hds hr ht kna (fun _ => alla) (by omega) (by omega) fun db knb allb => ?_
      (conv => whnf)
      refine lcf_cons ?_
      (conv => whnf)
      refine ⟨rfl, ?_⟩
      refine L_S_bound (i := x) (j := y) (a := .u) ok hds hr ht knb (fun _ => allb) (by omega) (by omega) fun dc knc allc => ?_
      (conv => whnf)
      refine lcf_nil ?_
      (conv => whnf)
      have l1 : (tabV S r t x ++ tabR S r t x y).length ≤ 999 := by
        rw [List.length_append, tabV_len, tabR_len]
        have := Nat.mul_le_mul (show x ≤ 13 by omega) (show t.length + 1 ≤ 13 by omega)
        omega
      refine ⟨few1 (by omega), ?_⟩
      refine hK _ ⟨dc, true, some (.int y), knc, fun _ => allc, ?_⟩
      have e : putP (tabV S r t x ++ tabR S r t x y) (key2 x y) (pvL3 (bdZ (fdOf S r t) x y)) = tabV S r t x ++ tabR S r t x (y + 1) := by
        rw [put_fresh tab_new, List.append_assoc]
        congr 1
        unfold tabR
        rw [List.range_succ, List.map_append]; rfl
      rw [← e]; rfl
    · rintro γ ⟨d, b, b4, kn, hb, rfl⟩
      refine hK _ ⟨d, b, some (.int x), b4, kn, hb, ?_⟩
      have e : tabV S r t x ++ tabR S r t x (t.length + 1) = tabV S r t (x + 1) := by
        unfold tabV
        rw [List.range_succ, List.map_append, List.flatten_append]; simp
      rw [e]
  · rintro γ ⟨d, b, b3, b4, kn, hb, rfl⟩
    (conv => whnf)
    exact k d b kn hb
theorem peq_dx {o : Bool} {s : String} (h : s = "over" ∨ s = "under") : peq (sdS o) (.str (Str.ofString s)) = decide ((if o = true then "over" else "under") = s) := by
  rcases h with rfl | rfl <;> cases o <;> decide +kernel
theorem dat_l3 (f : Stp → Int) : dat 8 (pvL3 f) = true := by unfold pvL3; simp [dat, dats]
/-- how far the letters behind the deed's number have moved -/
def Dd.mv : Dd → Int
  | .put _ _ z => z.length
  | .take _ _ n => -(n : Int)
  | .turn _ _ _ => 0
theorem L73_moved {S : Sc} {mo : Nat} (hm : mo ≤ 40) {r t : List Nat} {D : Dd} (hD : DdOk S mo r t D) {Q : PV → Prop} (k : Q (.int D.mv)) : w_law_moved [pvDd D] Q := by
  rw [e_law_moved]
  cases D with
  | put o i z =>
    obtain ⟨h1, h2, h3, h4⟩ := hD
    (conv => whnf)
    refine ⟨by decide +kernel, by decide +kernel, ?_⟩
    (conv => whnf)
    refine ⟨by rw [tx_len]; exact few (by omega), ?_⟩
    rw [tx_len]
    exact k
  | take o i n =>
    (conv => whnf)
    refine ⟨by decide +kernel, by decide +kernel, ?_⟩
    (conv => whnf)
    refine ⟨by decide +kernel, by decide +kernel, ?_⟩
    (conv => whnf)
    exact k
  | turn o i c =>
    (conv => whnf)
    refine ⟨by decide +kernel, by decide +kernel, ?_⟩
    (conv => whnf)
    refine ⟨by decide +kernel, by decide +kernel, ?_⟩
    (conv => whnf)
    exact k
/-- the letters from the deed's number on are those of ahead -/
theorem dd_move {S : Sc} {mo : Nat} {r t : List Nat} {D : Dd} (hD : DdOk S mo r t D) {w : List Nat} (hw : (if D.side = true then r else t) = w) {i : Nat} (h1 : D.num ≤ i) (h2 : i ≤ (D.row w).length) : ∃ j, (i : Int) - D.mv = (j : Nat) ∧ j ≤ w.length ∧ w.drop j = (D.row w).drop i := by
  cases D with
  | put o a z =>
    obtain ⟨q1, q2, q3, q4⟩ := hD
    rw [show (if o = true then r else t) = w from hw] at q1 q4
    have h1 : a + z.length ≤ i := h1
    have h2 : i ≤ (w.take a ++ z ++ w.drop a).length := h2
    simp only [List.length_append, List.length_take, List.length_drop] at h2
    refine ⟨i - z.length, by show (i : Int) - (z.length : Nat) = _; omega, by omega, ?_⟩
    show _ = (w.take a ++ z ++ w.drop a).drop i
    have l : (w.take a ++ z).length = a + z.length := by simp; omega
    have e0 : (w.take a ++ z).drop i = [] := List.drop_eq_nil_of_le (by omega)
    rw [List.drop_append, e0, l, List.nil_append, List.drop_drop]
    congr 1
    omega
  | take o a n =>
    obtain ⟨q1, q2⟩ := hD
    rw [show (if o = true then r else t) = w from hw] at q2
    have h1 : a ≤ i := h1
    have h2 : i ≤ (w.take a ++ w.drop (a + n)).length := h2
    simp only [List.length_append, List.length_take, List.length_drop] at h2
    refine ⟨i + n, by show (i : Int) - (-(n : Int)) = _; omega, by omega, ?_⟩
    show _ = (w.take a ++ w.drop (a + n)).drop i
    have l : (w.take a).length = a := by simp; omega
    have e0 : (w.take a).drop i = [] := List.drop_eq_nil_of_le (by omega)
    rw [List.drop_append, e0, l, List.nil_append, List.drop_drop]
    congr 1
    omega
  | turn o a c =>
    obtain ⟨q1, q2⟩ := hD
    rw [show (if o = true then r else t) = w from hw] at q1
    have h1 : a + 1 ≤ i := h1
    have h2 : i ≤ (w.take a ++ [c] ++ w.drop (a + 1)).length := h2
    simp only [List.length_append, List.length_take, List.length_drop, List.length_singleton] at h2
    refine ⟨i, by show (i : Int) - 0 = _; omega, by omega, ?_⟩
    show _ = (w.take a ++ [c] ++ w.drop (a + 1)).drop i
    have l : (w.take a ++ [c]).length = a + 1 := by simp; omega
    have e0 : (w.take a ++ [c]).drop i = [] := List.drop_eq_nil_of_le (by omega)
    rw [List.drop_append, e0, l, List.nil_append, List.drop_drop]
    congr 1
    omega
theorem ndL_tab {S : Sc} {r t : List Nat} : ∀ l : KVs, (∀ kv ∈ l, ∃ f, kv.2 = pvL3 f) → ndL (l.map (·.2)) = true
  | [], _ => rfl
  | kv :: l, h => by
    obtain ⟨f, e⟩ := h kv (by simp)
    have ih := ndL_tab (S := S) (r := r) (t := t) l fun x m => h x (by simp [m])
    simp only [List.map_cons]
    rw [e]
    unfold pvL3
    simpa [ndL, nd] using ih
theorem nd_tab {S : Sc} {r t : List Nat} {m : Nat} : ndL ((tabV S r t m).map (·.2)) = true := ndL_tab (S := S) (r := r) (t := t) _ fun kv mk => by
  obtain ⟨i, j, _, _, rfl⟩ := tabV_mem mk
  exact ⟨_, rfl⟩
theorem L73_stay {S : Sc} (ok : S.Ok) {mo : Nat} (hm : mo ≤ 40) {r t : List Nat} (hr : RwOk S r) (ht : RwOk S t) {D : Dd} (hD : DdOk S mo r t D) {Q : PV → Prop} (k : Q (.bl true)) : w_law_stay [.dT (tabV S r t (r.length + 1)), .dT (tabV S (D.ov r t) (D.un r t) ((D.ov r t).length + 1)), sdS D.side, .int D.num, .int D.mv] Q := by
  rw [e_law_stay]
  (conv => whnf)
  refine ⟨nd_tab, nd_tab, rfl, ?_⟩
  refine yforI (h := fun kv : List Key × PV => PV.tup (kv.1.map kP)) (fun rest γ => (∀ kv ∈ rest, kv ∈ tabV S (D.ov r t) (D.un r t) ((D.ov r t).length + 1)) ∧ ∃ b5 b6, γ = [some (.dT (tabV S r t (r.length + 1))), some (.dT (tabV S (D.ov r t) (D.un r t) ((D.ov r t).length + 1))), some (sdS D.side), some (.int D.num), some (.int D.mv), b5, b6]) ⟨fun _ m => m, none, none, rfl⟩ ?_ ?_
  · rintro kv rest γ ⟨hk, b5, b6, rfl⟩ K hK
    obtain ⟨i, j, hi, hj, rfl⟩ := tabV_mem (hk kv (by simp))
    have hk' : ∀ kv ∈ rest, kv ∈ tabV S (D.ov r t) (D.un r t) ((D.ov r t).length + 1) := fun kv m => hk kv (by simp [m])
    have at1 : valP (tabV S (D.ov r t) (D.un r t) ((D.ov r t).length + 1)) [.inl (i : Int), .inl (j : Int)] = _ := tab_at (S := S) (r := D.ov r t) (t := D.un r t) hi hj
    have hd2 := fun f => dat_l3 f
    have ds := dat_sd D.side
    (conv => whnf)
    refine ⟨ds, by decide +kernel, ?_⟩
    (conv => whnf)
    rw [peq_dx (.inl rfl)]
    cases hs : D.side with
    | true =>
      rw [hs] at hK
      (conv => whnf)
      by_cases hn : (D.num : Int) ≤ i
      · refine bift hn ?_
        have hov : D.ov r t = D.row r := by unfold Dd.ov; rw [hs]; rfl
        have hun : D.un r t = t := by unfold Dd.un; rw [hs]; rfl
        obtain ⟨a, ha, hal, had⟩ := dd_move hD (w := r) (by rw [hs]; rfl) (i := i) (by omega) (by rw [← hov]; omega)
        have at2 : valP (tabV S r t (r.length + 1)) [.inl (a : Int), .inl (j : Int)] = _ := tab_at (S := S) (r := r) (t := t) (i := a) (j := j) (m := r.length + 1) (by omega) (by rw [hun] at hj; exact hj)
        (conv => whnf)
        rw [show valP (tabV S (D.ov r t) (D.un r t) ((D.ov r t).length + 1)) _ = _ from at1]
        (conv => whnf)
        rw [ha, show valP (tabV S r t (r.length + 1)) _ = _ from at2]
        (conv => whnf)
        refine ⟨hd2 _, hd2 _, ?_⟩
        have e : bdZ (fdOf S (D.ov r t) (D.un r t)) i j = bdZ (fdOf S r t) a j := by
          rw [bd_sfx (by omega) (by omega), bd_sfx hal (by rw [← hun]; omega), had, ← hov, hun]
        rw [e]
        (conv => whnf)
        rw [peq_refl (hd2 _)]
        (conv => whnf)
        refine ⟨dat_sd true, by decide +kernel, ?_⟩
        (conv => whnf)
        exact hK _ ⟨hk', _, _, rfl⟩
      · refine biff hn ?_
        (conv => whnf)
        refine ⟨dat_sd true, by decide +kernel, ?_⟩
        (conv => whnf)
        exact hK _ ⟨hk', _, _, rfl⟩
    | false =>
      rw [hs] at hK
      (conv => whnf)
      refine ⟨dat_sd false, by decide +kernel, ?_⟩
      (conv => whnf)
      by_cases hn : (D.num : Int) ≤ j
      · refine bift hn ?_
        have hov : D.ov r t = r := by unfold Dd.ov; rw [hs]; rfl
        have hun : D.un r t = D.row t := by unfold Dd.un; rw [hs]; rfl
        obtain ⟨a, ha, hal, had⟩ := dd_move hD (w := t) (by rw [hs]; rfl) (i := j) (by omega) (by rw [← hun]; omega)
        have at2 : valP (tabV S r t (r.length + 1)) [.inl (i : Int), .inl (a : Int)] = _ := tab_at (S := S) (r := r) (t := t) (i := i) (j := a) (m := r.length + 1) (by rw [hov] at hi; exact hi) (by omega)
        (conv => whnf)
        rw [show valP (tabV S (D.ov r t) (D.un r t) ((D.ov r t).length + 1)) _ = _ from at1]
        (conv => whnf)
        rw [ha, show valP (tabV S r t (r.length + 1)) _ = _ from at2]
        (conv => whnf)
        refine ⟨hd2 _, hd2 _, ?_⟩
        have e : bdZ (fdOf S (D.ov r t) (D.un r t)) i j = bdZ (fdOf S r t) i a := by
          rw [bd_sfx (by omega) (by omega), bd_sfx (by rw [← hov]; omega) hal, had, ← hun, hov]
        rw [e]
        (conv => whnf)
        rw [peq_refl (hd2 _)]
        (conv => whnf)
        exact hK _ ⟨hk', _, _, rfl⟩
      · refine biff hn ?_
        (conv => whnf)
        exact hK _ ⟨hk', _, _, rfl⟩
  · rintro γ ⟨-, b5, b6, rfl⟩
    (conv => whnf)
    exact k
theorem dd_side (D : Dd) : ∃ x y z, pvDd D = .tup [x, sdS D.side, y, z] := by
  cases D <;> exact ⟨_, _, _, rfl⟩
theorem law_plain : p_law lawD (lawG 15) := by
  (conv => whnf)
  refine L71_scale fun S ds ok hds => ?_
  (conv => whnf)
  refine ⟨⟨by omega, by omega⟩, ?_⟩
  intro v v1 v2
  (conv => whnf)
  refine ⟨rfl, rfl, ?_⟩
  rw [peq_int]
  obtain ⟨mo, hmo, m8⟩ : ∃ mo : Nat, atI [PV.int 8, .int 12] (if decide (v = 0) = true then 1 else 0) = some (.int mo) ∧ (mo = 8 ∨ mo = 12) := by
    by_cases h : v = 0
    · exact ⟨12, by rw [if_pos (decide_eq_true h)]; rfl, .inr rfl⟩
    · exact ⟨8, by rw [if_neg (by simpa using h)]; rfl, .inl rfl⟩
  (conv => whnf)
  rw [hmo]
  (conv => whnf)
  refine L71_row ok (mo := mo) (by omega) fun r rl rm => ?_
  (conv => whnf)
  refine L71_row ok (mo := mo) (by omega) fun t tl tm => ?_
  have hr : RwOk S r := ⟨by omega, rm⟩
  have ht : RwOk S t := ⟨by omega, tm⟩
  (conv => whnf)
  refine ⟨rfl, ?_⟩
  (conv => whnf)
  refine ⟨rfl, ?_⟩
  (conv => whnf)
  refine L_Sheet ok hr ht fun d kn => ?_
  (conv => whnf)
  refine ⟨⟨by omega, by omega⟩, ?_⟩
  intro n n1 n2
  obtain ⟨n, rfl⟩ := toN n1
  (conv => whnf)
  refine ⟨⟨by omega, by omega⟩, ?_⟩
  rw [show ((1 : Int) + n).toNat = n + 1 by omega]
  refine yforR (fun x γ => ∃ (r t : List Nat) (d : KVs) (b : Bool) (b7 b8 b9 b10 b11 b12 b13 b14 : Option PV), RwOk S r ∧ RwOk S t ∧ r.length ≤ mo ∧ t.length ≤ mo ∧ Kn S r t d ∧ (b = true → All r t d) ∧ γ = [none, some .bag, some (pvSc S ds), some (.str (txA S.l)), some (.int mo), some (pvRw r t), some (pvSh S r t ds d b), b7, b8, b9, b10, b11, b12, b13, b14]) ⟨r, t, d, false, none, none, none, none, none, none, none, none, hr, ht, rl, tl, kn, (fun z => by cases z), rfl⟩ ?_ ?_
  · rintro x γ hx ⟨r, t, d, b, b7, b8, b9, b10, b11, b12, b13, b14, hr, ht, rl, tl, kn, hb, rfl⟩ K hK
    (conv => whnf)
    refine L73_table ok hds hr ht (by omega) (by omega) kn hb fun d1 q1 kn1 hb1 => ?_
    (conv => whnf)
    refine L71_deed ok (mo := mo) (by omega) (by omega) hr ht rl tl fun D hD => ?_
    (conv => whnf)
    refine L73_done ok (mo := mo) (by omega) hr ht rl tl kn1 hD fun d2 kn2 => ?_
    obtain ⟨hr', ht', rl', tl'⟩ := dd_ok hr ht (by omega) rl tl hD
    (conv => whnf)
    refine ⟨rfl, rfl, ?_⟩
    rw [peq_int]
    rw [decide_eq_true rfl]
    (conv => whnf)
    refine L73_table ok hds hr' ht' (by omega) (by omega) kn2 (b := false) (fun z => by cases z) fun d3 q3 kn3 hb3 => ?_
    (conv => whnf)
    refine ⟨rfl, ?_⟩
    (conv => whnf)
    refine ⟨rfl, ?_⟩
    (conv => whnf)
    refine ⟨rfl, ?_⟩
    (conv => whnf)
    refine L_Sheet ok hr' ht' fun d4 kn4 => ?_
    (conv => whnf)
    refine L73_table ok hds hr' ht' (by omega) (by omega) kn4 (b := false) (fun z => by cases z) fun d5 q5 kn5 hb5 => ?_
    obtain ⟨px, py, pz, hpd⟩ := dd_side D
    have tst : ∀ {Q : PV → Prop}, Q (.bl true) → w_law_stay [.dT (tabV S r t (r.length + 1)), .dT (tabV S (D.ov r t) (D.un r t) ((D.ov r t).length + 1)), sdS D.side, .int D.num, .int D.mv] Q := fun k => L73_stay ok (mo := mo) (by omega) hr ht hD k
    (conv => whnf)
    refine yfor_cons ?_
    rw [hpd]
    (conv => whnf)
    rw [← hpd]
    refine L73_moved (mo := mo) (by omega) hD ?_
    (conv => whnf)
    refine tst ?_
    (conv => whnf)
    refine yfor_cons ?_
    rw [hpd]
    (conv => whnf)
    rw [← hpd]
    refine L73_moved (mo := mo) (by omega) hD ?_
    (conv => whnf)
    refine tst ?_
    (conv => whnf)
    refine yfor_nil ?_
    exact hK _ ⟨D.ov r t, D.un r t, d3, q3, _, _, _, _, _, _, _, _, hr', ht', rl', tl', kn3, hb3, rfl⟩
  · rintro γ ⟨r, t, d, b, b7, b8, b9, b10, b11, b12, b13, b14, hr, ht, rl, tl, kn, hb, rfl⟩
    (conv => whnf)
end Lw
open PySem PySem.W PySem.Calls PyProof.Rows
theorem PySem.Challenge.cw_laybeside_k73_lines_stay_holds : PySem.Challenge.rw_laybeside_k73_lines_stay.Holds := by
  w_on; o_law
  refine HandSHeadRun.head_any (r := OpenLaw.row PySem.Challenge.rw_laybeside_k73_lines_stay) (q := view (OpenLaw.row PySem.Challenge.rw_laybeside_k73_lines_stay).prog [51]) (H := Lw.hk) (ob := Lw.ob) (M := 200000) (loose := Lw.loose) (d := HandSHeadRun.topDef (OpenLaw.row PySem.Challenge.rw_laybeside_k73_lines_stay).prog 51) (kwd := []) Lw.ob_eq
    (by kernel_rfl) (fun s => by kernel_rfl) Lw.run (by kernel_rfl) (by kernel_rfl) (by kernel_rfl) (by rfl) (by first | assumption | decide +kernel) (by decide +kernel) ⟨rfl, rfl, rfl, rfl, rfl, by decide +kernel⟩ ?hw ?hc
  case hw => w_witness2
  case hc =>
    refine L2.walk_ofE (l := PySem.Challenge.rw_laybeside_k73_lines_stay) (n := 63) (k := 8) (x := "_law_script") (CX := L2.CX0) rfl (by decide) (by kernel_rfl) ⟨rfl, by decide, by decide⟩ ?F (fun _ _ _ _ z => z)
    intro w mg fa h Y G hmg0
    obtain ⟨K, KX, c⟩ := Y
    have hmg : mg ("law" : PySem.Str) = some (.ref fa) := by
      have e : (HandSHeadRun.topDef (OpenLaw.row PySem.Challenge.rw_laybeside_k73_lines_stay).prog 51).name = ("law" : PySem.Str) := by kernel_rfl
      rw [← e]
      exact hmg0
    obtain ⟨fd, hb, hF⟩ := Lw.facts (P := (PySem.Challenge.rw_laybeside_k73_lines_stay).prog) (w := w) KX G Lw.law_plain hmg c
    exact ⟨K, fd, Vl.spLaw K, KX, hb, fun H a ns hl _ hS => ⟨a, ns, rfl, hS, by rw [sizeLine_eq]; omega, fun _ => rfl⟩, hF⟩
