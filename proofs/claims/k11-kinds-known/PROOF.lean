import PyProof.Rows.All
import Wide.All
import OpenK.AllK
import Wide.FinOn
import KE.KStateDown
import KE.KIndexOf
import HandS.ForMost
import HandS.ForExc
import HandS.IsInst
import HandS.Codes
import HandS.Flow
import HandS.Wide
import HandS.MakeKwOnly
import HandS.RevRange
import HandS.NoneIn
import HandS.Style
import HandS.SortInts
import HandS.Walk
import HandS.StrMore
import HandS.More
import HandS.Defaults
import HandS.Head0
import HandS.Head1
import HandS.Head2
import HandS.HeadEnd
import HandS.HeadHook4
import HandS.Zip
import KE.DatumOrd
import HandS.TryMany
import HandS.TryOnly
import HandS.SuiteRaise
import HandS.RaiseMore
import HandS.ExcField
import HandS.ExcIs
import HandS.ExcInit
import HandS.DictComp
import HandS.DictEq
import HandS.WordsExc
import KE.GoesZip
import KE.GoesEnum
import KE.GoesMore
import HandS.Remove
import HandS.Rindex
import HandS.SetIn
import HandS.TupLe
import HandS.DictTup
import HandS.TupMul
import HandS.AnyAll
import HandS.Base
import HandS.BoundDict
import HandS.BoundList
import HandS.Bytes
import HandS.BytesMake
import HandS.Call
import HandS.CallLocal
import HandS.CallRecv
import HandS.CallSlots
import HandS.ClsMeth
import HandS.Comp
import HandS.Conv
import HandS.Deep
import HandS.DeepEq
import HandS.Dict
import HandS.DictSub
import HandS.DictSubMake
import HandS.DictSubView
import HandS.DictSubView0
import HandS.EndBits
import HandS.EndOwn
import HandS.EndTab
import HandS.Ends
import HandS.Evl
import HandS.Exc
import HandS.ExcBuiltin
import HandS.ExcCtx
import HandS.ExcInitHot
import HandS.ExcOwn
import HandS.ExcSuper
import HandS.ExcValue
import HandS.ExcValueFrom
import HandS.ExcValueHot
import HandS.ExpandTabs
import HandS.ExpandTabs0
import HandS.FStr
import HandS.FStrTup
import HandS.Finally
import HandS.Flt
import HandS.FltErr
import HandS.FltExact
import HandS.FltList
import HandS.FltSums
import HandS.FltText
import HandS.ForDict
import HandS.ForList
import HandS.ForSpec
import HandS.FromBytesMap
import HandS.Gcd
import HandS.GenBody
import HandS.GenCall
import HandS.GenList
import HandS.GenOver
import HandS.GenYield
import HandS.Head3
import HandS.Head4
import HandS.HeadHook1
import HandS.HeadHook2
import HandS.HeadHook3
import HandS.HeadNt
import HandS.HeadWalk
import HandS.Hot
import HandS.HotCalls
import HandS.IntHex
import HandS.IntRatio
import HandS.Iter
import HandS.IterNext
import HandS.IterVal
import HandS.JoinGen
import HandS.Keys
import HandS.Lambda
import HandS.LawCells
import HandS.List
import HandS.ListEq
import HandS.ListItems
import HandS.MakeKw
import HandS.MapJoin
import HandS.MapObj
import HandS.MapSum
import HandS.MethStar
import HandS.NamedTup0
import HandS.NamedTupGet
import HandS.NamedTupSort
import HandS.Nested
import HandS.NestedHot
import HandS.NestedK
import HandS.New
import HandS.New0
import HandS.OwnEq
import HandS.OwnIter
import HandS.Property
import HandS.Proxy
import HandS.RaiseFrom
import HandS.RaiseOp
import HandS.ReBound
import HandS.ReCall
import HandS.ReCheck
import HandS.ReDoes
import HandS.ReFacts
import HandS.ReHeld
import HandS.ReIface
import HandS.ReLoops
import HandS.ReMatch
import HandS.ReName
import HandS.ReRuns
import HandS.ReSeek
import HandS.ReSem
import HandS.ReSet
import HandS.ReSub
import HandS.ReTell
import HandS.Records
import HandS.RepeatKit
import HandS.Replace
import HandS.ReplaceDef
import HandS.ReplaceList
import HandS.ReplaceLit
import HandS.Rev
import HandS.RevTup
import HandS.Set
import HandS.SetBool
import HandS.SetFor
import HandS.SetKeys
import HandS.SetTxt0
import HandS.SetTxtIn
import HandS.Slots
import HandS.SlotsOwn
import HandS.SlotsVar
import HandS.Small
import HandS.Sort
import HandS.SortKw
import HandS.SortOrd
import HandS.SortRule
import HandS.Spec
import HandS.Star
import HandS.Steps
import HandS.StrSplit
import HandS.Strs
import HandS.Struct
import HandS.Struct0
import HandS.Text
import HandS.ToBytes
import HandS.Translate
import HandS.TryElse
import HandS.TupAny
import HandS.TupLen
import HandS.TupSets
import HandS.WideBits
import HandS.WideMore
import HandS.Words
import HandS.WordsDict
import HandS.WordsList
import HandS.WrittenFld
import HandS.WrittenGet
import HandS.Zip0
import PyProof.Rows.TupDisplay
import PyProof.Rows.StrLawsPart
import KE.KDictWalk
import KE.KExcIs
import PyProof.Rows.DictMethods
import PyProof.ReprBulk
import PySem.Challenge.RW_laybeside_k11_kinds_known
set_option Elab.async false
set_option linter.all false
set_option maxRecDepth 100000
set_option maxHeartbeats 4000000
namespace Lb
open PySem PySem.Spec L2
abbrev Fg := PySem.W.Frag
def tTru (K : Fg) (ta : TE) : TT := fun σ H Q => ta σ H fun x H' => ∃ k, TruV K x H' k ∧ Q k H'
end Lb
namespace Lb
open PySem PySem.Spec L2
def rAddI : R2 := fun x y H Q => ∃ i j, x = .int i ∧ y = .int j ∧ Q (.int (i + j)) H
def rAddS : R2 := fun x y H Q => ∃ i j, x = .str i ∧ y = .str j ∧ i.length + j.length ≤ sizeLine ∧ Q (.str (i ++ j)) H
def rAddA : R2 := fun x y H Q => rAddI x y H Q ∨ rAddS x y H Q ∨ rCat x y H Q
def rSubA : R2 := rI0 fun i j => .int (i - j)
def rMulI : R2 := rI CMul fun i j => .int (i * j)
def rMulA : R2 := fun x y H Q => rMulI x y H Q ∨ rRep x y H Q
def rModA : R2 := rI (fun _ j => 0 < j) fun i j => .int (i % j)
def rDivA : R2 := rI CDivW fun i j => .int (i / j)
def rPowA : R2 := rI CPow fun i j => .int (i ^ j.toNat)
def rEqA (K : Fg) : R2 := fun x y H Q => rEq x y H Q ∨ rEqD K x y H Q
def rNeA (K : Fg) : R2 := fun x y H Q => rNe x y H Q ∨ rNeD K x y H Q
def rLtI : R2 := rI0 fun i j => .bl (decide (i < j))
def rLtS : R2 := fun x y H Q => ∃ i j, x = .str i ∧ y = .str j ∧ Q (.bl (decide (i.cps.toList < j.cps.toList))) H
def rLtA : R2 := fun x y H Q => rLtI x y H Q ∨ rLtS x y H Q
def rLeA : R2 := rI0 fun i j => .bl (decide (i ≤ j))
def rGtA : R2 := rI0 fun i j => .bl (decide (j < i))
def rGeA : R2 := rI0 fun i j => .bl (decide (j ≤ i))
def rInC : R2 := fun x y H Q => ∃ (c : Nat) (z : Str), x = .str ⟨#[c]⟩ ∧ y = .str z ∧ Q (.bl (decide (c ∈ z.cps.toList))) H
def rInA (K : Fg) : R2 := fun x y H Q => rInC x y H Q ∨ rIn K false x y H Q
def rNotInC : R2 := fun x y H Q => ∃ (c : Nat) (z : Str), x = .str ⟨#[c]⟩ ∧ y = .str z ∧ Q (.bl (!decide (c ∈ z.cps.toList))) H
def rNotInA (K : Fg) : R2 := fun x y H Q => rNotInC x y H Q ∨ rIn K true x y H Q
def rNegA : V → Hp → VK → Prop := rU fun i => .int (-i)
def ipAddA : TIp := fun x y H Q => rAddI x y H Q ∨ rAddS x y H Q
def rAbs : List V → Hp → VK → Prop := fun xs H Q => ∃ i, xs = [V.int i] ∧ Q (V.int (if i < 0 then -i else i)) H
def rTupOf (K : Fg) : List V → Hp → VK → Prop := fun xs H Q => ∃ p ys, xs = [.ref p] ∧ ((SqL K H p ys ∧ ∀ l, H l = none → Q (.ref l) (upd H l (.tup ys))) ∨ (SqT K H p ys ∧ Q (.ref p) H))
/-- isinstance(x, T), T a built-in class -/
def rIsB (K : Fg) : List V → Hp → VK → Prop := fun xs H Q => ∃ (x : V) (T t : String) (b : Bool), xs = [x, .ty T] ∧ TyX K H x (.type t) ∧ kitB t T = some b ∧ Q (.bl b) H
def rGetL (K : Fg) : R2 := fun x y H Q => ∃ p xs j v, x = .ref p ∧ y = .int ((j : Nat) : Int) ∧ SqL K H p xs ∧ xs[j]? = some v ∧ Q v H
section
variable {X : Cx}
theorem op_addA : OpR X (binaryOp .Add) rAddA := OpR.or op_add (OpR.or op_add_str op_cat)
theorem op_subA : OpR X (binaryOp .Sub) rSubA := op_sub
theorem op_mulA : OpR X (binaryOp .Mult) rMulA := OpR.or op_mul op_rep
theorem op_modA : OpR X (binaryOp .Mod) rModA := op_mod
theorem op_divA : OpR X (binaryOp .FloorDiv) rDivA := op_fdivW
theorem op_powA : OpR X (binaryOp .Pow) rPowA := op_pow
theorem op_eqA (hu : X.A.units + 64 < cLine) : OpR X (compareOp .Eq) (rEqA X.K) := OpR.or op_eq (op_eqD hu)
theorem op_neA (hu : X.A.units + 64 < cLine) : OpR X (compareOp .NotEq) (rNeA X.K) := OpR.or op_ne (op_neD hu)
theorem op_ltA : OpR X (compareOp .Lt) rLtA := OpR.or op_lt op_lt_str
theorem op_leA : OpR X (compareOp .LtE) rLeA := op_le
theorem op_gtA : OpR X (compareOp .Gt) rGtA := op_gt
theorem op_geA : OpR X (compareOp .GtE) rGeA := op_ge
theorem op_inA : OpR X (compareOp .In) (rInA X.K) := OpR.or op_in_sign op_in_seq
theorem op_notInA : OpR X (compareOp .NotIn) (rNotInA X.K) := OpR.or op_notIn_sign op_notIn_seq
theorem un_negA : UnR X (unaryOp .USub) rNegA := un_neg
theorem ip_addA : PIp X .Add ipAddA := by
  intro pins s σ H x y v u Q I rx ry h
  rcases h with h | h
  · exact iop_add pins s σ H x y v u Q I rx ry h
  · exact iop_add_str pins s σ H x y v u Q I rx ry h
theorem call_absA : CallR X (.builtin "abs") rAbs := call_abs
theorem call_tuple_ofA : CallR X (.type "tuple") (rTupOf X.K) := call_tuple_of
theorem call_lenA : CallR X (.builtin "len") (rLen X.K) := call_len
theorem call_isB : CallR X (.builtin "isinstance") (rIsB X.K) := by
  intro pins s σ H xs us Q I r h
  obtain ⟨x, T, t, b, rfl, ty, e, q⟩ := h
  exact call_isi pins s σ H _ us Q I r ⟨x, .ty T, .type t, .type T, b, rfl, .ty T, ty, kit_ty e, q⟩
theorem get_list : PGet X (rGetL X.K) := by
  intro pins s σ H o i ov iv Q I ro ri h
  obtain ⟨p, xs, j, v, rfl, rfl, hq, he, q⟩ := h
  cases ro
  obtain ⟨t, rfl⟩ := ri
  obtain ⟨its, r, pl, hz⟩ := I.list hq
  obtain ⟨w, ew, rw'⟩ := r.get he
  have hl := r.length
  have hn := line63
  have hj : j < xs.length := (List.getElem?_eq_some_iff.mp he).1
  exact wpAny_getItem_list pl.isList (by omega) (by omega) (by simpa using ew) ⟨v, H, I, rw', q⟩
end
def Cal (P : Program) (w : World) (K : Fg) (mg : Str → Option Value) (base : Heap) (x : Str) (k : Nat) (ps : List Str) (sp : Sp) (dvs : List V) : Prop :=
  ∃ fd ds, FnOk P w K mg base CX0 k (He.ga K x) fd ps sp ∧ Binds K fd ps ds ∧ Vals dvs ds ∧ mg x = some (.ref (He.ga K x)) ∧ PySem.W.keepIn K (.ref (He.ga K x)) = true
section
variable {X : Cx} {k n : Nat} {ps ks : List Str} {sp : Sp} {dvs : List V} {x c m : Str} {p pos apos : Pos} {e o : Expr} {es : List Expr} {kws : List Keyword} {ta te : TE} {t tk : TA} {gV : List V → List V → List V} {i : Int} {z : Str}
theorem pe_cal (c : Cal X.prog X.w X.K X.mg X.base x k ps sp dvs) (hr : Room k X.A) (hg : Gl X x) (ha : PA X (e :: es) t) (hdb : (x == ("__debug__" : Str)) = false := by decide)
    (he : starEach (e :: es) X.env = (false, eval e X.env) :: starEach es X.env := by rfl) (hpl : (backTo pos (starEach es X.env)).any (·.1) = false := by rfl) :
    PE X (.Call (.Name x p) (e :: es) [] pos) (tCall sp dvs E0 t) := by
  obtain ⟨fd, ds, F, b, v, g, kp⟩ := c
  exact pe_call F hr hg g kp b v pass0 ha hdb he hpl
theorem pt_tru (ha : PE X e te) (he : ∀ whole, isTrue e X.env whole = (do let v ← whole; standAt e.pos; holding [v] (truthy v)) := by intro _; rfl) : PT X e (tTru X.K te) := pt_truth ha he
end
end Lb
namespace Vl
open PySem PySem.Spec L2
abbrev Fg := PySem.W.Frag
/-- the built-in classes that are asked for -/
inductive Kn where
  | int | bool | str | list | tuple | dict
def knS : Kn → String
  | .int => "int"
  | .bool => "bool"
  | .str => "str"
  | .list => "list"
  | .tuple => "tuple"
  | .dict => "dict"
/-- plain values -/
inductive PV where
  | non | bl (b : Bool) | int (i : Int) | str (x : Str) | ty (n : Kn)
  | lst (xs : List PV) | tup (xs : List PV)
  | dK (kvs : List (Key × PV)) | dT (kvs : List (List Key × PV))
  | ins (c : Nat) (fs : List PV)
  | cls (c : Str) | bag
/-- the program's classes and their attributes, in the order of their making -/
def clsT : Nat → Str × List Str
  | 0 => ("Scale", ["kept_letters", "by_two", "kept_opening", "kept_each"])
  | 1 => ("Field", ["kept_pairs", "over_kept", "under_kept", "to_open"])
  | 2 => ("Bounds", ["ground", "ended", "lines"])
  | 3 => ("Stretches", ["laid_in", "most_from"])
  | 4 => ("Chain", ["chained_in", "fee_each", "by_place"])
  | 5 => ("Ways", ["walked", "ended_so", "lines_told", "ways_on"])
  | 6 => ("Sheet", ["over_row", "under_row", "ruled", "known", "all_known"])
  | 7 => ("Joined", ["held_rows"])
  | 8 => ("Book", ["ruled", "stands", "done", "undone"])
  | 9 => ("Desk", ["own_book"])
  | _ => ("", [])
/-- the written part, the bag's two lists -/
structure Bg where
  K : Fg
  q : Addr
  r : Addr
/-- a tuple, tracked or written -/
def STp (K : Fg) (H : Hp) (a : Addr) (xs : List V) : Prop :=
  H a = some (.tup xs) ∨ ∃ (o : Obj) (its : Array Value) (n : Nat), K.lookup a = some o ∧ o.cls = .type "tuple" ∧ o.data = .seq its n ∧ its.size ≤ sizeLine ∧ Vals xs its.toList
theorem STp.sq {K : Fg} {H : Hp} {a : Addr} {xs : List V} (h : STp K H a xs) : SqT K H a xs := by
  rcases h with h | h
  · exact .inl (.inl h)
  · exact .inr h
mutual
inductive Rp (B : Bg) (A : Addr → Prop) (H : Hp) : PV → V → Prop
  | non : Rp B A H .non .non
  | bl (b : Bool) : Rp B A H (.bl b) (.bl b)
  | int (i : Int) : Rp B A H (.int i) (.int i)
  | str (x : Str) : Rp B A H (.str x) (.str x)
  | ty (n : Kn) : Rp B A H (.ty n) (.ty (knS n))
  | lst {a : Addr} {vs : List V} {xs : List PV} : ¬ A a → H a = some (.lst vs) → RpL B A H xs vs → Rp B A H (.lst xs) (.ref a)
  | tup {a : Addr} {vs : List V} {xs : List PV} : STp B.K H a vs → RpL B A H xs vs → Rp B A H (.tup xs) (.ref a)
  | dK {a : Addr} {ws : List (Key × V)} {kvs : List (Key × PV)} {ks : List Key} {xs : List PV} {vs : List V} : ¬ A a → H a = some (.dK ws) → kvs.map (·.1) = ks → ws.map (·.1) = ks → kvs.map (·.2) = xs → ws.map (·.2) = vs → RpL B A H xs vs → Rp B A H (.dK kvs) (.ref a)
  | dT {a : Addr} {ws : List (List Key × V)} {kvs : List (List Key × PV)} {ks : List (List Key)} {xs : List PV} {vs : List V} : ¬ A a → H a = some (.dT ws) → kvs.map (·.1) = ks → ws.map (·.1) = ks → kvs.map (·.2) = xs → ws.map (·.2) = vs → RpL B A H xs vs → Rp B A H (.dT kvs) (.ref a)
  | ins {a dx : Addr} {c : Nat} {ws : List (Str × V)} {xs : List PV} {vs : List V} : ¬ A a → H a = some (.ins (He.ga B.K (clsT c).1) dx ws) → ws.map (·.1) = (clsT c).2.take xs.length → ws.map (·.2) = vs → RpL B A H xs vs → Rp B A H (.ins c xs) (.ref a)
  | cls (c : Str) : Rp B A H (.cls c) (.ref (He.ga B.K c))
  | bag : Rp B A H .bag (.ref B.q)
inductive RpL (B : Bg) (A : Addr → Prop) (H : Hp) : List PV → List V → Prop
  | nil : RpL B A H [] []
  | cons {x : PV} {v : V} {xs : List PV} {vs : List V} : Rp B A H x v → RpL B A H xs vs → RpL B A H (x :: xs) (v :: vs)
end
section
variable {B : Bg} {A A' : Addr → Prop} {H H' : Hp}
mutual
theorem Rp.mv (f : ∀ a o, H a = some o → ¬ A a → H' a = some o) (ft : ∀ a vs, H a = some (.tup vs) → H' a = some (.tup vs)) (g : ∀ a, A' a → H a ≠ none → A a) :
    ∀ {x : PV} {v : V}, Rp B A H x v → Rp B A' H' x v
  | _, _, .non => .non
  | _, _, .bl b => .bl b
  | _, _, .int i => .int i
  | _, _, .str x => .str x
  | _, _, .ty n => .ty n
  | _, _, .lst n h r => .lst (fun z => n (g _ z (by rw [h]; exact nofun))) (f _ _ h n) (RpL.mv f ft g r)
  | _, _, .tup h r => .tup (h.elim (fun h => .inl (ft _ _ h)) .inr) (RpL.mv f ft g r)
  | _, _, .dK n h a b c d r => .dK (fun z => n (g _ z (by rw [h]; exact nofun))) (f _ _ h n) a b c d (RpL.mv f ft g r)
  | _, _, .dT n h a b c d r => .dT (fun z => n (g _ z (by rw [h]; exact nofun))) (f _ _ h n) a b c d (RpL.mv f ft g r)
  | _, _, .ins n h a b r => .ins (fun z => n (g _ z (by rw [h]; exact nofun))) (f _ _ h n) a b (RpL.mv f ft g r)
  | _, _, .cls c => .cls c
  | _, _, .bag => .bag
theorem RpL.mv (f : ∀ a o, H a = some o → ¬ A a → H' a = some o) (ft : ∀ a vs, H a = some (.tup vs) → H' a = some (.tup vs)) (g : ∀ a, A' a → H a ≠ none → A a) :
    ∀ {x : List PV} {v : List V}, RpL B A H x v → RpL B A' H' x v
  | _, _, .nil => .nil
  | _, _, .cons a b => .cons (Rp.mv f ft g a) (RpL.mv f ft g b)
end
theorem Rp.anti (g : ∀ a, A' a → A a) {x : PV} {v : V} (h : Rp B A H x v) : Rp B A' H x v := h.mv (fun _ _ h _ => h) (fun _ _ h => h) fun a h _ => g a h
theorem RpL.anti (g : ∀ a, A' a → A a) {x : List PV} {v : List V} (h : RpL B A H x v) : RpL B A' H x v := h.mv (fun _ _ h _ => h) (fun _ _ h => h) fun a h _ => g a h
theorem RpL.length : ∀ {x : List PV} {v : List V}, RpL B A H x v → x.length = v.length
  | _, _, .nil => rfl
  | _, _, .cons _ b => by simp [RpL.length b]
theorem RpL.get : ∀ {x : List PV} {v : List V}, RpL B A H x v → ∀ {i : Nat} {p : PV}, x[i]? = some p → ∃ u, v[i]? = some u ∧ Rp B A H p u
  | _, _, .nil, _, _, e => by simp at e
  | _, _, .cons a _, 0, _, e => by simp at e; subst e; exact ⟨_, rfl, a⟩
  | _, _, .cons _ b, i + 1, _, e => by simpa using RpL.get b (by simpa using e)
theorem RpL.append : ∀ {x y : List PV} {v w : List V}, RpL B A H x v → RpL B A H y w → RpL B A H (x ++ y) (v ++ w)
  | _, _, _, _, .nil, r => r
  | _, _, _, _, .cons a b, r => .cons a (RpL.append b r)
theorem RpL.drop : ∀ {x : List PV} {v : List V} (n : Nat), RpL B A H x v → RpL B A H (x.drop n) (v.drop n)
  | _, _, 0, r => r
  | _, _, _ + 1, .nil => .nil
  | _, _, n + 1, .cons _ t => RpL.drop n t
theorem RpL.take : ∀ {x : List PV} {v : List V} (n : Nat), RpL B A H x v → RpL B A H (x.take n) (v.take n)
  | _, _, 0, _ => .nil
  | _, _, _ + 1, .nil => .nil
  | _, _, n + 1, .cons r t => .cons r (RpL.take n t)
theorem RpL.set : ∀ {x : List PV} {v : List V} {p : PV} {u : V} (n : Nat), RpL B A H x v → Rp B A H p u → RpL B A H (x.set n p) (v.set n u)
  | _, _, _, _, _, .nil, _ => .nil
  | _, _, _, _, 0, .cons _ t, r => .cons r t
  | _, _, _, _, n + 1, .cons q t, r => .cons q (RpL.set n t r)
end
mutual
def imm : PV → Bool
  | .non => true
  | .bl _ => true
  | .int _ => true
  | .str _ => true
  | .ty _ => true
  | .tup xs => immL xs
  | .cls _ => true
  | .bag => true
  | _ => false
def immL : List PV → Bool
  | [] => true
  | x :: xs => imm x && immL xs
end
section
variable {B : Bg} {A A' : Addr → Prop} {H : Hp}
mutual
theorem Rp.im : ∀ {x : PV} {v : V}, Rp B A H x v → imm x = true → Rp B A' H x v
  | _, _, .non, _ => .non
  | _, _, .bl b, _ => .bl b
  | _, _, .int i, _ => .int i
  | _, _, .str x, _ => .str x
  | _, _, .ty n, _ => .ty n
  | _, _, .tup h r, e => .tup h (RpL.im r (by simpa only [imm] using e))
  | _, _, .cls c, _ => .cls c
  | _, _, .bag, _ => .bag
  | _, _, .lst _ _ _, e => by simp [imm] at e
  | _, _, .dK _ _ _ _ _ _ _, e => by simp [imm] at e
  | _, _, .dT _ _ _ _ _ _ _, e => by simp [imm] at e
  | _, _, .ins _ _ _ _ _, e => by simp [imm] at e
theorem RpL.im : ∀ {x : List PV} {v : List V}, RpL B A H x v → immL x = true → RpL B A' H x v
  | _, _, .nil, _ => .nil
  | _, _, .cons a b, e => by
    simp only [immL, Bool.and_eq_true] at e
    exact .cons (Rp.im a e.1) (RpL.im b e.2)
end
end
def BagOk (B : Bg) (H : Hp) : Prop := ∃ (x y : Int) (z : Nat) (cs : List Int), H B.q = some (.lst [.int x, .int y, .int z, .ref B.r]) ∧ H B.r = some (.lst (cs.map V.int)) ∧ B.r ≠ B.q ∧
  0 ≤ x ∧ 0 ≤ y ∧ y < 2147483647 ∧ ∀ c ∈ cs, 0 ≤ c
structure Ex (B : Bg) (H H' : Hp) : Prop where
  st : ∀ a o, H a = some o → a ≠ B.q → H' a = some o
  tp : ∀ a vs, H a = some (.tup vs) → H' a = some (.tup vs)
  nn : ∀ a, H a ≠ none → H' a ≠ none
  bg : BagOk B H → BagOk B H'
theorem Ex.refl (B : Bg) (H : Hp) : Ex B H H := ⟨fun _ _ h _ => h, fun _ _ h => h, fun _ h => h, fun h => h⟩
theorem Ex.trans {B : Bg} {H H1 H2 : Hp} (a : Ex B H H1) (b : Ex B H1 H2) : Ex B H H2 :=
  ⟨fun c o h n => b.st c o (a.st c o h n) n, fun c v h => b.tp c v (a.tp c v h), fun c h => b.nn c (a.nn c h), fun h => b.bg (a.bg h)⟩
theorem BagOk.q {B : Bg} {H : Hp} (h : BagOk B H) : H B.q ≠ none := by
  obtain ⟨_, _, _, _, h, _⟩ := h; rw [h]; exact nofun
theorem BagOk.stay {B : Bg} {H H' : Hp} (h : BagOk B H) (f : ∀ o, H B.q = some o → H' B.q = some o) (g : ∀ o, H B.r = some o → H' B.r = some o) : BagOk B H' := by
  obtain ⟨x, y, z, cs, h1, h2, h3⟩ := h
  exact ⟨x, y, z, cs, f _ h1, g _ h2, h3⟩
/-- a new object -/
theorem Ex.new {B : Bg} {H : Hp} {p : Addr} {o : HO} (n : H p = none) : Ex B H (upd H p o) := by
  have k : ∀ a u, H a = some u → upd H p o a = some u := fun a u e => by rw [upd_ne (ne_of_none e n)]; exact e
  exact ⟨fun a u e _ => k a u e, fun a u e => k a _ e, fun a h => by
    cases e : H a with
    | none => exact absurd e h
    | some u => rw [k a u e]; exact nofun, fun h => h.stay (fun u e => k _ u e) fun u e => k _ u e⟩
theorem Ex.free {B : Bg} {H H' : Hp} (e : Ex B H H') {a : Addr} (h : H' a = none) : H a = none := by
  cases q : H a with
  | none => rfl
  | some o => exact absurd h (e.nn a (by rw [q]; exact nofun))
section
variable {B : Bg} {A : Addr → Prop} {H H' : Hp}
theorem Rp.ex {x : PV} {v : V} (h : Rp B A H x v) (e : Ex B H H') (aq : A B.q) : Rp B A H' x v :=
  h.mv (fun a o h n => e.st a o h (fun z => n (by rw [z]; exact aq))) e.tp fun _ h _ => h
theorem RpL.ex {x : List PV} {v : List V} (h : RpL B A H x v) (e : Ex B H H') (aq : A B.q) : RpL B A H' x v :=
  h.mv (fun a o h n => e.st a o h (fun z => n (by rw [z]; exact aq))) e.tp fun _ h _ => h
end
structure Ac where
  B : Bg
  A0 : Addr → Prop
  H0 : Hp
  me : Addr
/-- what a value keeps off: the caller's part (a), the own objects (s), the bag always -/
def av (E : Ac) (L : List Addr) (a s : Bool) (x : Addr) : Prop := x = E.B.q ∨ (a = true ∧ E.A0 x) ∨ (s = true ∧ x ∈ L)
/-- how a slot is held: shared, borrowed, an own list or dict, an own list of own lists, the own instance, the own instance with an own field; a caught exception (where it lies, its dict, its field) -/
inductive Kd where
  | sh | bor | own | own2 | slf | slfD (j : Nat) | tt | deep | exc (a : Addr) (d : Option Addr) (f : Str)
  deriving DecidableEq
/-- an object of one's own at a -/
def Ob (B : Bg) (A : Addr → Prop) (H : Hp) (a : Addr) : PV → Prop
  | .lst xs => ∃ vs, H a = some (.lst vs) ∧ RpL B A H xs vs
  | .dT kvs => ∃ ws, H a = some (.dT ws) ∧ kvs.map (·.1) = ws.map (·.1) ∧ RpL B A H (kvs.map (·.2)) (ws.map (·.2))
  | .dK kvs => ∃ ws, H a = some (.dK ws) ∧ kvs.map (·.1) = ws.map (·.1) ∧ RpL B A H (kvs.map (·.2)) (ws.map (·.2))
  | .ins c fs => ∃ dx ws, H a = some (.ins (He.ga B.K (clsT c).1) dx ws) ∧ ws.map (·.1) = (clsT c).2.take fs.length ∧ RpL B A H fs (ws.map (·.2))
  | _ => False
/-- own lists within a list -/
inductive Obs (B : Bg) (A : Addr → Prop) (H : Hp) : List PV → List Addr → Prop
  | nil : Obs B A H [] []
  | cons {x : PV} {xs : List PV} {a : Addr} {as : List Addr} : Ob B A H a x → Obs B A H xs as → Obs B A H (x :: xs) (a :: as)
mutual
inductive RpO (B : Bg) (A : Addr → Prop) (H : Hp) : PV → V → List Addr → Prop
  | imm {x : PV} {v : V} : imm x = true → Rp B A H x v → RpO B A H x v []
  | lst {a : Addr} {vs : List V} {xs : List PV} {O : List Addr} : H a = some (.lst vs) → RpOL B A H xs vs O → RpO B A H (.lst xs) (.ref a) (a :: O)
  | tup {a : Addr} {vs : List V} {xs : List PV} {O : List Addr} : STp B.K H a vs → RpOL B A H xs vs O → RpO B A H (.tup xs) (.ref a) O
inductive RpOL (B : Bg) (A : Addr → Prop) (H : Hp) : List PV → List V → List Addr → Prop
  | nil : RpOL B A H [] [] []
  | cons {x : PV} {v : V} {xs : List PV} {vs : List V} {O P : List Addr} : RpO B A H x v O → RpOL B A H xs vs P → RpOL B A H (x :: xs) (v :: vs) (O ++ P)
end
def Kr (E : Ac) (L : List Addr) (H : Hp) : Kd → PV → V → List Addr → Prop
  | .sh, x, v, O => O = [] ∧ Rp E.B (av E L true true) H x v
  | .bor, x, v, O => O = [] ∧ Rp E.B (av E L false true) H x v
  | .own, x, v, O => ∃ a, v = .ref a ∧ O = [a] ∧ Ob E.B (av E L true true) H a x
  | .own2, x, v, O => ∃ a xs as, v = .ref a ∧ O = a :: as ∧ x = .lst xs ∧ H a = some (.lst (as.map V.ref)) ∧ Obs E.B (av E L true true) H xs as
  | .slf, x, v, O => ∃ a, v = .ref a ∧ O = [a] ∧ ((∃ c fs, x = .ins c fs) ∧ a = E.me) ∧ Ob E.B (av E L true true) H a x
  | .slfD j, x, v, O => ∃ a b c fs ws dx y, v = .ref a ∧ O = [a, b] ∧ (x = .ins c fs ∧ a = E.me) ∧ H a = some (.ins (He.ga E.B.K (clsT c).1) dx ws) ∧ ws.map (·.1) = (clsT c).2.take fs.length ∧
      fs[j]? = some y ∧ (ws.map (·.2))[j]? = some (.ref b) ∧ Ob E.B (av E L true true) H b y ∧ RpL E.B (av E L true true) H (fs.set j .non) ((ws.map (·.2)).set j .non)
  | .tt, x, v, O => O = [] ∧ ∃ a xs vs, x = .tup xs ∧ v = .ref a ∧ H a = some (.tup vs) ∧ RpL E.B (av E L true true) H xs vs
  | .deep, x, v, O => RpO E.B (av E L true true) H x v O
  | .exc a d f, x, v, O => O = [] ∧ v = .ref a ∧ (d = none → x = .bag) ∧ ∀ b, d = some b → ¬ av E L true true b ∧ ∃ u, H b = some (.xd [(f, u)]) ∧ Rp E.B (av E L true true) H x u
abbrev G := List (Option PV)
def kd (ks : List Kd) (i : Nat) : Kd := ks.getD i .sh
structure Rel (E : Ac) (L : List Addr) (ks : List Kd) (γ : G) (σ : St) (H : Hp) : Prop where
  old : ∀ a o, E.H0 a = some o → a ≠ E.B.q → H a = some o
  onn : ∀ a, E.H0 a ≠ none → H a ≠ none
  bag : BagOk E.B H
  a0 : ∀ a, E.A0 a → E.H0 a ≠ none
  aq : E.A0 E.B.q
  ar : E.H0 E.B.r ≠ none
  lf : ∀ a ∈ L, E.H0 a = none ∧ H a ≠ none
  len : γ.length = σ.length
  sl : ∃ O : Nat → List Addr, (∀ i x, γ[i]? = some (some x) → ∃ v, σ[i]? = some (some v) ∧ Kr E L H (kd ks i) x v (O i)) ∧ (∀ i a, a ∈ O i → a ∈ L) ∧
    (∀ i j a, a ∈ O i → a ∈ O j → i = j) ∧ ∀ i, (O i).Nodup
end Vl
namespace Vl
open PySem PySem.Spec L2
section
variable {B : Bg} {A A' : Addr → Prop} {H H' : Hp}
theorem Ob.mv (f : ∀ a o, H a = some o → ¬ A a → H' a = some o) (ft : ∀ a vs, H a = some (.tup vs) → H' a = some (.tup vs)) (g : ∀ a, A' a → H a ≠ none → A a) {a : Addr} (fa : ∀ o, H a = some o → H' a = some o) {x : PV} (h : Ob B A H a x) : Ob B A' H' a x := by
  cases x with
  | lst xs => obtain ⟨vs, h1, h2⟩ := h; exact ⟨vs, fa _ h1, h2.mv f ft g⟩
  | dT kvs => obtain ⟨ws, h1, h2, h3⟩ := h; exact ⟨ws, fa _ h1, h2, h3.mv f ft g⟩
  | dK kvs => obtain ⟨ws, h1, h2, h3⟩ := h; exact ⟨ws, fa _ h1, h2, h3.mv f ft g⟩
  | ins c fs => obtain ⟨dx, ws, h1, h2, h3⟩ := h; exact ⟨dx, ws, fa _ h1, h2, h3.mv f ft g⟩
  | _ => exact h.elim
theorem Obs.mv (f : ∀ a o, H a = some o → ¬ A a → H' a = some o) (ft : ∀ a vs, H a = some (.tup vs) → H' a = some (.tup vs)) (g : ∀ a, A' a → H a ≠ none → A a) : ∀ {xs : List PV} {as : List Addr}, (∀ a ∈ as, ∀ o, H a = some o → H' a = some o) → Obs B A H xs as → Obs B A' H' xs as
  | _, _, _, .nil => .nil
  | _, _, fa, .cons h t => .cons (h.mv f ft g (fa _ (by simp))) (Obs.mv f ft g (fun a m => fa a (by simp [m])) t)
mutual
theorem RpO.mv (f : ∀ a o, H a = some o → ¬ A a → H' a = some o) (ft : ∀ a vs, H a = some (.tup vs) → H' a = some (.tup vs)) (g : ∀ a, A' a → H a ≠ none → A a) : ∀ {x : PV} {v : V} {O : List Addr}, (∀ a ∈ O, ∀ o, H a = some o → H' a = some o) → RpO B A H x v O → RpO B A' H' x v O
  | _, _, _, _, .imm e r => .imm e (r.mv f ft g)
  | _, _, _, fa, .lst h r => .lst (fa _ (by simp) _ h) (RpOL.mv f ft g (fun a m => fa a (by simp [m])) r)
  | _, _, _, fa, .tup h r => .tup (h.elim (fun h => .inl (ft _ _ h)) .inr) (RpOL.mv f ft g fa r)
theorem RpOL.mv (f : ∀ a o, H a = some o → ¬ A a → H' a = some o) (ft : ∀ a vs, H a = some (.tup vs) → H' a = some (.tup vs)) (g : ∀ a, A' a → H a ≠ none → A a) : ∀ {x : List PV} {v : List V} {O : List Addr}, (∀ a ∈ O, ∀ o, H a = some o → H' a = some o) → RpOL B A H x v O → RpOL B A' H' x v O
  | _, _, _, _, .nil => .nil
  | _, _, _, fa, .cons h r => .cons (RpO.mv f ft g (fun a m => fa a (by simp [m])) h) (RpOL.mv f ft g (fun a m => fa a (by simp [m])) r)
end
end
section
variable {E : Ac} {L L' : List Addr} {H H' : Hp}
theorem av_mono {a s a' s' : Bool} (ha : a' = true → a = true) (hs : s' = true → s = true) {x : Addr} (h : av E L a' s' x) : av E L a s x := by
  rcases h with h | ⟨h, k⟩ | ⟨h, k⟩
  · exact .inl h
  · exact .inr (.inl ⟨ha h, k⟩)
  · exact .inr (.inr ⟨hs h, k⟩)
theorem av_q {a s : Bool} : av E L a s E.B.q := .inl rfl
/-- a slot stands when all but others' own objects stand -/
theorem Kr.mv (st : ∀ a o, H a = some o → a ≠ E.B.q → (a ∈ L → False) → H' a = some o) (ft : ∀ a vs, H a = some (.tup vs) → H' a = some (.tup vs)) (ls : ∀ a ∈ L', a ∈ L ∨ H a = none)
    {k : Kd} {x : PV} {v : V} {O : List Addr} (fo : ∀ a ∈ O, ∀ o, H a = some o → H' a = some o) (h : Kr E L H k x v O) : Kr E L' H' k x v O := by
  have f1 : ∀ a o, H a = some o → ¬ av E L true true a → H' a = some o := fun a o e n => st a o e (fun z => n (.inl z)) fun z => n (.inr (.inr ⟨rfl, z⟩))
  have f2 : ∀ a o, H a = some o → ¬ av E L false true a → H' a = some o := fun a o e n => st a o e (fun z => n (.inl z)) fun z => n (.inr (.inr ⟨rfl, z⟩))
  have g : ∀ {b : Bool} a, av E L' b true a → H a ≠ none → av E L b true a := fun {b} a z n => by
    rcases z with z | z | ⟨_, z⟩
    · exact .inl z
    · exact .inr (.inl z)
    · exact (ls a z).elim (fun z => .inr (.inr ⟨rfl, z⟩)) fun z => absurd z n
  cases k with
  | sh => exact ⟨h.1, h.2.mv f1 ft g⟩
  | bor => exact ⟨h.1, h.2.mv f2 ft g⟩
  | own => obtain ⟨a, e1, rfl, h⟩ := h; exact ⟨a, e1, rfl, h.mv f1 ft g (fo a (by simp))⟩
  | own2 =>
    obtain ⟨a, xs, as, e1, rfl, e2, h1, h2⟩ := h
    exact ⟨a, xs, as, e1, rfl, e2, fo a (by simp) _ h1, h2.mv f1 ft g fun b m => fo b (by simp [m])⟩
  | slf => obtain ⟨a, e1, rfl, e2, h⟩ := h; exact ⟨a, e1, rfl, e2, h.mv f1 ft g (fo a (by simp))⟩
  | slfD fl =>
    obtain ⟨a, b, c, fs, ws, dx, y, e1, rfl, e2, h1, h2, h3, h4, h5, h6⟩ := h
    exact ⟨a, b, c, fs, ws, dx, y, e1, rfl, e2, fo a (by simp) _ h1, h2, h3, h4, h5.mv f1 ft g (fo b (by simp)), h6.mv f1 ft g⟩
  | tt =>
    obtain ⟨e0, a, xs, vs, e1, e2, h1, h2⟩ := h
    exact ⟨e0, a, xs, vs, e1, e2, ft a vs h1, h2.mv f1 ft g⟩
  | deep => exact RpO.mv f1 ft g fo h
  | exc a d f =>
    obtain ⟨e0, e1, e2, h⟩ := h
    refine ⟨e0, e1, e2, fun b e => ?_⟩
    obtain ⟨n, u, h1, h2⟩ := h b e
    exact ⟨fun z => n (g b z (by rw [h1]; exact nofun)), u, f1 b _ h1 n, h2.mv f1 ft g⟩
variable {ks : List Kd} {γ : G} {σ : St}
theorem Rel.lq (R : Rel E L ks γ σ H) {a : Addr} (h : a ∈ L) : a ≠ E.B.q := fun z => R.a0 _ R.aq (by rw [← z]; exact (R.lf a h).1)
theorem Rel.ex (R : Rel E L ks γ σ H) (e : Ex E.B H H') : Rel E L ks γ σ H' where
  old := fun a o h n => e.st a o (R.old a o h n) n
  onn := fun a h => e.nn a (R.onn a h)
  bag := e.bg R.bag
  a0 := R.a0
  aq := R.aq
  ar := R.ar
  lf := fun a h => ⟨(R.lf a h).1, e.nn a (R.lf a h).2⟩
  len := R.len
  sl := by
    obtain ⟨O, h1, h2, h3, h4⟩ := R.sl
    refine ⟨O, fun i x hx => ?_, h2, h3, h4⟩
    obtain ⟨v, hv, k⟩ := h1 i x hx
    exact ⟨v, hv, k.mv (fun a o e1 n _ => e.st a o e1 n) e.tp (fun a z => .inl z) fun a m o e1 => e.st a o e1 (R.lq (h2 i a m))⟩
end
/-- how the heap goes on behind a statement -/
structure Fw (B : Bg) (L : List Addr) (H : Hp) (L' : List Addr) (H' : Hp) : Prop where
  st : ∀ a o, H a = some o → a ∉ L → a ≠ B.q → H' a = some o
  tp : ∀ a vs, H a = some (.tup vs) → H' a = some (.tup vs)
  nn : ∀ a, H a ≠ none → H' a ≠ none
  ls : ∀ a ∈ L', a ∈ L ∨ H a = none
theorem Fw.refl (B : Bg) (L : List Addr) (H : Hp) : Fw B L H L H := ⟨fun _ _ h _ _ => h, fun _ _ h => h, fun _ h => h, fun _ h => .inl h⟩
theorem Fw.trans {B : Bg} {L L1 L2 : List Addr} {H H1 H2 : Hp} (a : Fw B L H L1 H1) (b : Fw B L1 H1 L2 H2) : Fw B L H L2 H2 where
  st := fun c o h n m => b.st c o (a.st c o h n m) (fun z => (a.ls c z).elim n fun e => by rw [h] at e; cases e) m
  tp := fun c v h => b.tp c v (a.tp c v h)
  nn := fun c h => b.nn c (a.nn c h)
  ls := fun c h => (b.ls c h).elim (fun z => a.ls c z) fun e => .inr (by
    cases q : H c with
    | none => rfl
    | some o => exact absurd e (a.nn c (by rw [q]; exact nofun)))
theorem Ex.fw {B : Bg} {L : List Addr} {H H' : Hp} (e : Ex B H H') : Fw B L H L H' := ⟨fun a o h _ n => e.st a o h n, e.tp, e.nn, fun _ h => .inl h⟩
/-- a value that keeps off the own objects stands behind a statement -/
theorem Rp.fw {E : Ac} {L L' : List Addr} {H H' : Hp} {a : Bool} {x : PV} {v : V} (h : Rp E.B (av E L a true) H x v) (f : Fw E.B L H L' H') : Rp E.B (av E L' a true) H' x v :=
  h.mv (fun b o e n => f.st b o e (fun z => n (.inr (.inr ⟨rfl, z⟩))) fun z => n (.inl z)) f.tp fun b z n => by
    rcases z with z | z | ⟨_, z⟩
    · exact .inl z
    · exact .inr (.inl z)
    · exact (f.ls b z).elim (fun z => .inr (.inr ⟨rfl, z⟩)) fun z => absurd z n
theorem RpL.fw {E : Ac} {L L' : List Addr} {H H' : Hp} {a : Bool} {x : List PV} {v : List V} (h : RpL E.B (av E L a true) H x v) (f : Fw E.B L H L' H') : RpL E.B (av E L' a true) H' x v :=
  h.mv (fun b o e n => f.st b o e (fun z => n (.inr (.inr ⟨rfl, z⟩))) fun z => n (.inl z)) f.tp fun b z n => by
    rcases z with z | z | ⟨_, z⟩
    · exact .inl z
    · exact .inr (.inl z)
    · exact (f.ls b z).elim (fun z => .inr (.inr ⟨rfl, z⟩)) fun z => absurd z n
abbrev GE := G → (PV → Prop) → Prop
abbrev GT := G → (Bool → Prop) → Prop
abbrev GA := G → (List PV → Prop) → Prop
structure GD where
  nx : G → Prop
  rt : PV → G → Prop
  bk : G → Prop
  ct : G → Prop
abbrev GS := GD → G → Prop
def tE (K : Fg) (ks : List Kd) (a s : Bool) (p : GE) : TE := fun σ H Q => ∃ (E : Ac) (L : List Addr) (γ : G) (Qp : PV → Prop), E.B.K = K ∧ Rel E L ks γ σ H ∧ p γ Qp ∧
  ∀ x v H', Qp x → Ex E.B H H' → Rp E.B (av E L a s) H' x v → Q v H'
def tT (K : Fg) (ks : List Kd) (p : GT) : TT := fun σ H Q => ∃ (E : Ac) (L : List Addr) (γ : G) (Qp : Bool → Prop), E.B.K = K ∧ Rel E L ks γ σ H ∧ p γ Qp ∧
  ∀ b H', Qp b → Ex E.B H H' → Q b H'
def tA (K : Fg) (ks : List Kd) (a s : Bool) (n : Nat) (p : GA) : TA := fun σ H Q => ∃ (E : Ac) (L : List Addr) (γ : G) (Qp : List PV → Prop), E.B.K = K ∧ Rel E L ks γ σ H ∧ p γ Qp ∧
  ∀ x v H', Qp x → Ex E.B H H' → RpL E.B (av E L a s) H' x v → x.length = n → Q v H'
/-- a new list or dict, which nobody else holds -/
def tN (K : Fg) (ks : List Kd) (p : GE) : TE := fun σ H Q => ∃ (E : Ac) (L : List Addr) (γ : G) (Qp : PV → Prop), E.B.K = K ∧ Rel E L ks γ σ H ∧ p γ Qp ∧
  ∀ x a H', Qp x → Ex E.B H H' → H a = none → Ob E.B (fun b => av E L true true b ∨ b = a) H' a x → Q (.ref a) H'
/-- what is told back -/
def RtOk (E : Ac) (x : PV) (v : V) (H' : Hp) : Prop := Rp E.B E.A0 H' x v ∧ (∀ a o, E.H0 a = some o → a ≠ E.B.q → H' a = some o) ∧ (∀ a, E.H0 a ≠ none → H' a ≠ none) ∧ BagOk E.B H'
def tS (K : Fg) (ks ks' kl : List Kd) (p : GS) : TS := fun D σ H => ∃ (E : Ac) (L : List Addr) (γ : G) (Dp : GD), E.B.K = K ∧ Rel E L ks γ σ H ∧ p Dp γ ∧
  (∀ L' γ' σ' H', Fw E.B L H L' H' → Rel E L' ks' γ' σ' H' → Dp.nx γ' → D.nx σ' H') ∧ (∀ x γ' v H', RtOk E x v H' → Dp.rt x γ' → D.rt v H') ∧
  (∀ L' γ' σ' H', Fw E.B L H L' H' → Rel E L' kl γ' σ' H' → Dp.bk γ' → D.bk σ' H') ∧ (∀ L' γ' σ' H', Fw E.B L H L' H' → Rel E L' kl γ' σ' H' → Dp.ct γ' → D.ct σ' H')
section
variable {X : Cx} {e : Expr} {es : List Expr} {st : Stmt} {sts : List Stmt}
theorem PEi {t t' : TE} (h : PE X e t) (i : ∀ σ H Q, t' σ H Q → t σ H Q) : PE X e t' := ⟨fun pins s σ H Q I q => h.run pins s σ H Q I (i _ _ _ q)⟩
theorem PTi {t t' : TT} (h : PT X e t) (i : ∀ σ H Q, t' σ H Q → t σ H Q) : PT X e t' := ⟨fun pins s σ H Q I q => h.run pins s σ H Q I (i _ _ _ q)⟩
theorem PWi {t t' : TT} (h : PW X e t) (i : ∀ σ H Q, t' σ H Q → t σ H Q) : PW X e t' := ⟨fun w pins s σ H Q I q => h.run w pins s σ H Q I (i _ _ _ q)⟩
theorem PAi {t t' : TA} (h : PA X es t) (i : ∀ σ H Q, t' σ H Q → t σ H Q) : PA X es t' := ⟨fun pos pins s σ H Q I q => h.run pos pins s σ H Q I (i _ _ _ q)⟩
theorem PSi {t t' : TS} (h : PS X st t) (i : ∀ D σ H, t' D σ H → t D σ H) : PS X st t' := ⟨fun pins s σ H D I q => h.run pins s σ H D I (i _ _ _ q)⟩
theorem PSsi {t t' : TS} (h : PSs X sts t) (i : ∀ D σ H, t' D σ H → t D σ H) : PSs X sts t' := ⟨fun pins s σ H D I q => h.run pins s σ H D I (i _ _ _ q)⟩
end
abbrev QE (X : Cx) (ks : List Kd) (a s : Bool) (e : Expr) (p : GE) : Prop := PE X e (tE X.K ks a s p)
abbrev QN (X : Cx) (ks : List Kd) (e : Expr) (p : GE) : Prop := PE X e (tN X.K ks p)
abbrev QT (X : Cx) (ks : List Kd) (e : Expr) (p : GT) : Prop := PT X e (tT X.K ks p)
abbrev QW (X : Cx) (ks : List Kd) (e : Expr) (p : GT) : Prop := PW X e (tT X.K ks p)
abbrev QA (X : Cx) (ks : List Kd) (a s : Bool) (es : List Expr) (p : GA) : Prop := PA X es (tA X.K ks a s es.length p)
abbrev QS (X : Cx) (ks ks' kl : List Kd) (st : Stmt) (p : GS) : Prop := PS X st (tS X.K ks ks' kl p)
abbrev QB (X : Cx) (ks ks' kl : List Kd) (sts : List Stmt) (p : GS) : Prop := PSs X sts (tS X.K ks ks' kl p)
def getO : Option PV → (PV → Prop) → Prop
  | some x, Q => Q x
  | none, _ => False
def getS (γ : G) : Nat → (PV → Prop) → Prop :=
  List.rec (motive := fun _ => Nat → (PV → Prop) → Prop) (fun _ _ => False) (fun a _ ih i Q => Nat.rec (motive := fun _ => Prop) (getO a Q) (fun i _ => ih i Q) i) γ
theorem getS_of : ∀ {γ : G} {i : Nat} {Q : PV → Prop}, getS γ i Q → ∃ x, γ[i]? = some (some x) ∧ Q x
  | [], _, _, h => False.elim h
  | some x :: _, 0, _, h => ⟨x, rfl, h⟩
  | none :: _, 0, _, h => False.elim h
  | none :: l, i + 1, _, h => by simpa using getS_of (γ := l) (i := i) h
  | some _ :: l, i + 1, _, h => by simpa using getS_of (γ := l) (i := i) h
def pVar (i : Nat) : GE := fun γ Q => getS γ i Q
def pC (x : PV) : GE := fun _ Q => Q x
def pOp (o : PV → PV → (PV → Prop) → Prop) (a b : GE) : GE := fun γ Q => a γ fun x => b γ fun y => o x y Q
def pUn (o : PV → (PV → Prop) → Prop) (a : GE) : GE := fun γ Q => a γ fun x => o x Q
def pNil : GA := fun _ Q => Q []
def pCons (a : GE) (t : GA) : GA := fun γ Q => a γ fun x => t γ fun xs => Q (x :: xs)
def pImm (a : GE) : GE := fun γ Q => a γ fun x => imm x = true ∧ Q x
def pCB (o : List PV → (PV → Prop) → Prop) (t : GA) : GE := fun γ Q => t γ fun xs => o xs Q
def pTest (a : GE) : GT := fun γ Q => a γ fun x => match x with | .bl b => Q b | _ => False
def truP : PV → (Bool → Prop) → Prop
  | .non, Q => Q false
  | .bl b, Q => Q b
  | .int i, Q => Q (i != 0)
  | .str x, Q => x.length ≤ sizeLine ∧ Q ((x.length : Int) != 0)
  | .lst xs, Q => Q (!xs.isEmpty)
  | .tup xs, Q => Q (!xs.isEmpty)
  | _, _ => False
def pTru (a : GE) : GT := fun γ Q => a γ fun x => truP x Q
/-- one of two, by a truth -/
def bfi (c : Bool) (A B : Prop) : Prop := match c with
  | true => A
  | false => B
def pOr (t u : GT) : GT := fun γ Q => t γ fun c => bfi c (Q true) (u γ Q)
def pNot (t : GT) : GT := fun γ Q => t γ fun c => Q (!c)
def pAndV (a b : GE) : GE := fun γ Q => a γ fun x => truP x fun k => bfi k (b γ Q) (Q x)
def pOrV (a b : GE) : GE := fun γ Q => a γ fun x => truP x fun k => bfi k (Q x) (b γ Q)
def pNotV (a : GE) : GE := fun γ Q => a γ fun x => truP x fun k => Q (.bl (!k))
section
variable {X : Cx} {ks : List Kd} {a s a' s' : Bool} {e e1 e2 : Expr} {es : List Expr} {p p1 p2 : GE} {pa : GA} {pt pt1 pt2 : GT} {pos : Pos}
theorem qe_imm (h : QE X ks a s e p) : QE X ks true true e (pImm p) :=
  PEi h fun σ H Q ⟨E, L, γ, Qp, hK, R, hp, k⟩ => ⟨E, L, γ, _, hK, R, hp, fun x v H' q x1 r => k x v H' q.2 x1 (r.im q.1)⟩
theorem qe_c {x : PV} {v : V} (h : PE X e (tC v)) (r : ∀ (q r : Addr) (A : Addr → Prop) (H : Hp), Rp ⟨X.K, q, r⟩ A H x v) : QE X ks true true e (pC x) :=
  PEi h fun σ H Q ⟨E, L, γ, Qp, hK, R, hp, k⟩ => k x v H hp (.refl _ _) (by
    have := r E.B.q E.B.r (av E L true true) H
    rw [← hK] at this; exact this)
end
end Vl
namespace Vl
open PySem PySem.Spec L2 Lb
/-- what a slot's value keeps off -/
def Kd.ka : Kd → Bool
  | .bor => false
  | _ => true
def Kd.kb : Kd → Bool
  | .sh => true
  | .bor => true
  | .tt => true
  | _ => false
/-- a slot that may be read as a value -/
def Kd.vis : Kd → Bool
  | .exc .. => false
  | _ => true
section
variable {X : Cx} {ks : List Kd} {a s a1 s1 a2 s2 : Bool} {e e1 e2 e3 : Expr} {es : List Expr} {p p1 p2 p3 : GE} {pa : GA} {pt pt1 pt2 : GT} {pos : Pos}
theorem qe_int {i : Int} {j} : QE X ks true true (.Constant (.int i) j pos) (pC (.int i)) := qe_c pe_int fun _ _ _ _ => .int i
theorem qe_str {x : Str} {j} : QE X ks true true (.Constant (.str x) j pos) (pC (.str x)) := qe_c pe_str fun _ _ _ _ => .str x
theorem qe_bl {b : Bool} {j} : QE X ks true true (.Constant (.bool b) j pos) (pC (.bl b)) := qe_c pe_bl fun _ _ _ _ => .bl b
theorem qe_non {j} : QE X ks true true (.Constant .none j pos) (pC .non) := qe_c pe_non fun _ _ _ _ => .non
theorem Ob.rp {E : Ac} {L : List Addr} {H : Hp} {A : Addr → Prop} {b : Addr} {x : PV} (h : Ob E.B A H b x) (n : ¬ av E L true false b) (g : ∀ c, av E L true false c → A c) : Rp E.B (av E L true false) H x (.ref b) := by
  cases x with
  | lst xs => obtain ⟨vs, h1, h2⟩ := h; exact .lst n h1 (h2.anti g)
  | dT kvs => obtain ⟨ws, h1, h2, h3⟩ := h; exact .dT n h1 h2 rfl rfl rfl (h3.anti g)
  | dK kvs => obtain ⟨ws, h1, h2, h3⟩ := h; exact .dK n h1 h2 rfl rfl rfl (h3.anti g)
  | ins c fs => obtain ⟨dx, ws, h1, h2, h3⟩ := h; exact .ins n h1 h2 rfl (h3.anti g)
  | _ => exact h.elim
theorem Obs.rp {E : Ac} {L : List Addr} {H : Hp} {A : Addr → Prop} (g : ∀ c, av E L true false c → A c) : ∀ {xs : List PV} {as : List Addr}, (∀ b ∈ as, ¬ av E L true false b) → Obs E.B A H xs as → RpL E.B (av E L true false) H xs (as.map V.ref)
  | _, _, _, .nil => .nil
  | _, _, n, .cons h t => .cons (h.rp (n _ (by simp)) g) (Obs.rp g (fun b m => n b (by simp [m])) t)
theorem RpL.unset {B : Bg} {A : Addr → Prop} {H : Hp} : ∀ {xs : List PV} {vs : List V} {j : Nat} {x : PV} {v : V}, xs[j]? = some x → vs[j]? = some v → RpL B A H (xs.set j .non) (vs.set j .non) → Rp B A H x v → RpL B A H xs vs
  | [], _, _, _, _, e, _, _, _ => by simp at e
  | _ :: _, [], _, _, _, _, e, _, _ => by simp at e
  | y :: ys, w :: ws, 0, x, v, e1, e2, h, r => by
    simp at e1 e2; subst e1; subst e2
    cases h with
    | cons _ t => exact .cons r t
  | y :: ys, w :: ws, j + 1, x, v, e1, e2, h, r => by
    cases h with
    | cons q t => exact .cons q (RpL.unset (by simpa using e1) (by simpa using e2) t r)
theorem Rel.noA {E : Ac} {L : List Addr} {γ : G} {σ : St} {H : Hp} (R : Rel E L ks γ σ H) {b : Addr} (h : b ∈ L) : ¬ av E L true false b := by
  rintro (z | ⟨_, z⟩ | ⟨z, _⟩)
  · exact R.lq h z
  · exact R.a0 b z (R.lf b h).1
  · cases z
mutual
theorem RpO.rp {B : Bg} {A A' : Addr → Prop} {H : Hp} (g : ∀ c, A' c → A c) : ∀ {x : PV} {v : V} {O : List Addr}, (∀ b ∈ O, ¬ A' b) → RpO B A H x v O → Rp B A' H x v
  | _, _, _, _, .imm e r => r.im e
  | _, _, _, n, .lst h r => .lst (n _ (by simp)) h (RpOL.rp g (fun b m => n b (by simp [m])) r)
  | _, _, _, n, .tup h r => .tup h (RpOL.rp g n r)
theorem RpOL.rp {B : Bg} {A A' : Addr → Prop} {H : Hp} (g : ∀ c, A' c → A c) : ∀ {x : List PV} {v : List V} {O : List Addr}, (∀ b ∈ O, ¬ A' b) → RpOL B A H x v O → RpL B A' H x v
  | _, _, _, _, .nil => .nil
  | _, _, _, n, .cons h r => .cons (RpO.rp g (fun b m => n b (by simp [m])) h) (RpOL.rp g (fun b m => n b (by simp [m])) r)
end
/-- a slot read -/
theorem Rel.read {E : Ac} {L : List Addr} {γ : G} {σ : St} {H : Hp} {i : Nat} {x : PV} (R : Rel E L ks γ σ H) (h : γ[i]? = some (some x)) (hs : (kd ks i).vis = true) : ∃ v, σ[i]? = some (some v) ∧ Rp E.B (av E L (kd ks i).ka (kd ks i).kb) H x v := by
  obtain ⟨O, h1, h2, h3, h4⟩ := R.sl
  obtain ⟨v, hv, k⟩ := h1 i x h
  refine ⟨v, hv, ?_⟩
  have g : ∀ c, av E L true false c → av E L true true c := fun c z => av_mono (a' := true) (s' := false) id (fun _ => rfl) z
  have m := h2 i
  generalize kd ks i = kk at k hs
  generalize O i = oo at k m
  cases kk with
  | sh => exact k.2
  | bor => exact k.2
  | own => obtain ⟨b, rfl, rfl, k⟩ := k; exact k.rp (R.noA (m b (by simp))) g
  | own2 =>
    obtain ⟨b, xs, as, rfl, rfl, rfl, k1, k2⟩ := k
    exact .lst (R.noA (m b (by simp))) k1 (k2.rp g fun c z => R.noA (m c (by simp [z])))
  | slf => obtain ⟨b, rfl, rfl, _, k⟩ := k; exact k.rp (R.noA (m b (by simp))) g
  | slfD j =>
    obtain ⟨b, c, cl, fs, ws, dx, y, rfl, rfl, ⟨rfl, _⟩, k1, k2, k3, k4, k5, k6⟩ := k
    exact .ins (R.noA (m b (by simp))) k1 k2 rfl (RpL.unset k3 k4 (k6.anti g) (k5.rp (R.noA (m c (by simp))) g))
  | tt =>
    obtain ⟨rfl, b, xs, vs, rfl, rfl, k1, k2⟩ := k
    exact .tup (.inl k1) k2
  | deep => exact RpO.rp g (fun b hb => R.noA (m b hb)) k
  | exc a d f => cases hs
theorem qe_v (i : Nat) (h : PE X e (tVar i)) (ha : a = (kd ks i).ka := by rfl) (hb : s = (kd ks i).kb := by rfl) (hv : (kd ks i).vis = true := by rfl) : QE X ks a s e (pVar i) := by
  subst ha hb
  exact PEi h fun σ H Q ⟨E, L, γ, Qp, hK, R, hp, k⟩ => by
    obtain ⟨x, hx, q⟩ := getS_of hp
    obtain ⟨v, hv, r⟩ := R.read hx (by assumption)
    exact ⟨v, hv, k x v H q (.refl _ _) r⟩
abbrev PO2 := PV → PV → (PV → Prop) → Prop
/-- r answers as o says, whatever the operands keep off, and tells a value of the same care -/
def OpP (K : Fg) (r : R2) (o : PO2) : Prop := ∀ (B : Bg) (A : Addr → Prop) (H : Hp) (x y : PV) (v u : V) (Q : VK) (Qp : PV → Prop), B.K = K → A B.q → (∀ b, A b → H b ≠ none) → Rp B A H x v → Rp B A H y u → o x y Qp →
  (∀ z t H', Qp z → Ex B H H' → Rp B A H' z t → Q t H') → r v u H Q
theorem av_nn {E : Ac} {L : List Addr} {γ : G} {σ : St} {H : Hp} (R : Rel E L ks γ σ H) {a s : Bool} {b : Addr} (h : av E L a s b) : H b ≠ none := by
  rcases h with h | ⟨_, h⟩ | ⟨_, h⟩
  · rw [h]; exact R.bag.q
  · exact R.onn b (R.a0 b h)
  · exact (R.lf b h).2
theorem qe_op2 {r : R2} {o : PO2} (ho : OpP X.K r o) {e : Expr} (pe : ∀ {ta tb : TE}, PE X e1 ta → PE X e2 tb → PE X e (tOp r ta tb)) (h1 : QE X ks a1 s1 e1 p1) (h2 : QE X ks a2 s2 e2 p2) : QE X ks (a1 && a2) (s1 && s2) e (pOp o p1 p2) :=
  PEi (pe h1 h2) fun σ H Q ⟨E, L, γ, Qp, hK, R, hp, k⟩ => by
    refine ⟨E, L, γ, _, hK, R, hp, fun x v H1 q1 x1 r1 => ⟨E, L, γ, _, hK, R.ex x1, q1, fun y u H2 q2 x2 r2 => ?_⟩⟩
    refine ho E.B (av E L (a1 && a2) (s1 && s2)) H2 x y v u Q Qp hK av_q (fun b z => av_nn ((R.ex x1).ex x2) z) ((r1.ex x2 av_q).anti fun c z => av_mono (fun z => (Bool.and_eq_true _ _ ▸ z).1) (fun z => (Bool.and_eq_true _ _ ▸ z).1) z)
      (r2.anti fun c z => av_mono (fun z => (Bool.and_eq_true _ _ ▸ z).2) (fun z => (Bool.and_eq_true _ _ ▸ z).2) z) q2 fun z t H' qz x3 rz => k z t H' qz (x1.trans (x2.trans x3)) rz
/-- an answer without parts that change -/
def OpS (K : Fg) (r : R2) (o : PO2) : Prop := ∀ (B : Bg) (H : Hp) (x y : PV) (v u : V) (Q : VK) (Qp : PV → Prop), B.K = K → Rp B (fun b => b = B.q) H x v → Rp B (fun b => b = B.q) H y u → o x y Qp →
  (∀ z t H', Qp z → Ex B H H' → (∀ A, Rp B A H' z t) → Q t H') → r v u H Q
theorem Rp.q {E : Ac} {L : List Addr} {a s : Bool} {H : Hp} {x : PV} {v : V} (h : Rp E.B (av E L a s) H x v) : Rp E.B (fun b => b = E.B.q) H x v := h.anti fun c z => .inl z
theorem RpL.q {E : Ac} {L : List Addr} {a s : Bool} {H : Hp} {x : List PV} {v : List V} (h : RpL E.B (av E L a s) H x v) : RpL E.B (fun b => b = E.B.q) H x v := h.anti fun c z => .inl z
theorem qe_opS {r : R2} {o : PO2} (ho : OpS X.K r o) {e : Expr} (pe : ∀ {ta tb : TE}, PE X e1 ta → PE X e2 tb → PE X e (tOp r ta tb)) (h1 : QE X ks a1 s1 e1 p1) (h2 : QE X ks a2 s2 e2 p2) : QE X ks true true e (pOp o p1 p2) :=
  PEi (pe h1 h2) fun σ H Q ⟨E, L, γ, Qp, hK, R, hp, k⟩ => by
    refine ⟨E, L, γ, _, hK, R, hp, fun x v H1 q1 x1 r1 => ⟨E, L, γ, _, hK, R.ex x1, q1, fun y u H2 q2 x2 r2 => ?_⟩⟩
    exact ho E.B H2 x y v u Q Qp hK (r1.ex x2 av_q).q r2.q q2 fun z t H' qz x3 rz => k z t H' qz (x1.trans (x2.trans x3)) (rz _)
theorem qt_opS {r : R2} {o : PO2} (ho : OpS X.K r o) {e : Expr} (pe : ∀ {ta tb : TE}, PE X e1 ta → PE X e2 tb → PT X e (tTest (tOp r ta tb))) (h1 : QE X ks a1 s1 e1 p1) (h2 : QE X ks a2 s2 e2 p2) : QT X ks e (pTest (pOp o p1 p2)) :=
  PTi (pe h1 h2) fun σ H Q ⟨E, L, γ, Qp, hK, R, hp, k⟩ => by
    refine ⟨E, L, γ, _, hK, R, hp, fun x v H1 q1 x1 r1 => ⟨E, L, γ, _, hK, R.ex x1, q1, fun y u H2 q2 x2 r2 => ?_⟩⟩
    refine ho E.B H2 x y v u _ _ hK (r1.ex x2 av_q).q r2.q q2 fun z t H' qz x3 rz => ?_
    have := rz fun _ => False
    cases this <;> first | exact ⟨_, rfl, k _ H' qz (x1.trans (x2.trans x3))⟩ | exact qz.elim
def oAdd : PO2
  | .int i, .int j, Q => Q (.int (i + j))
  | .str x, .str y, Q => x.length + y.length ≤ sizeLine ∧ Q (.str (x ++ y))
  | .lst xs, .lst ys, Q => xs.length + ys.length ≤ sizeLine ∧ Q (.lst (xs ++ ys))
  | .tup xs, .tup ys, Q => xs ≠ [] ∧ xs.length + ys.length ≤ sizeLine ∧ Q (.tup (xs ++ ys))
  | _, _, _ => False
def rAddV (K : Fg) : R2 := fun x y H Q => rAddA x y H Q ∨ rCatT K x y H Q
theorem op_addV : OpR X (binaryOp .Add) (rAddV X.K) := OpR.or op_addA op_catT
theorem RpL.nil_iff {B : Bg} {A : Addr → Prop} {H : Hp} {x : List PV} {v : List V} (h : RpL B A H x v) : x = [] ↔ v = [] := by cases h <;> simp
theorem Rp.new {B : Bg} {A : Addr → Prop} {H : Hp} {x : List PV} {v : List V} {p : Addr} (h : RpL B A H x v) (aq : A B.q) (n : H p = none) (nn : ∀ b, A b → H b ≠ none) : Rp B A (upd H p (.lst v)) (.lst x) (.ref p) :=
  .lst (fun z => nn p z n) upd_same (h.ex (.new n) aq)
theorem Rp.newT {B : Bg} {A : Addr → Prop} {H : Hp} {x : List PV} {v : List V} {p : Addr} (h : RpL B A H x v) (aq : A B.q) (n : H p = none) : Rp B A (upd H p (.tup v)) (.tup x) (.ref p) :=
  .tup (.inl upd_same) (h.ex (.new n) aq)
theorem add_ok {K : Fg} : OpP K (rAddV K) oAdd := by
  intro B A H x y v u Q Qp hK aq nn rx ry h k
  cases rx <;> cases ry <;> first | exact (h : False).elim | skip
  · exact .inl (.inl ⟨_, _, rfl, rfl, k _ _ H h (.refl _ _) (.int _)⟩)
  · exact .inl (.inr (.inl ⟨_, _, rfl, rfl, h.1, k _ _ H h.2 (.refl _ _) (.str _)⟩))
  · rename_i b vs xs n1 h1 r1 c ws ys n2 h2 r2
    exact .inl (.inr (.inr ⟨_, _, _, _, rfl, rfl, h1, h2, by rw [← r1.length, ← r2.length]; exact h.1, fun p np => k _ _ _ h.2 (.new np) (Rp.new (r1.append r2) aq np nn)⟩))
  · rename_i b vs xs h1 r1 c ws ys h2 r2
    subst hK
    refine .inr ⟨_, _, _, _, rfl, rfl, h1.sq, h2.sq, fun z => h.1 (r1.nil_iff.mpr z), by rw [← r1.length, ← r2.length]; exact h.2.1, fun z => ?_, fun z p np => k _ _ _ h.2.2 (.new np) (Rp.newT (r1.append r2) aq np)⟩
    subst z
    cases r2
    have := h.2.2
    rw [List.append_nil] at this
    exact k _ _ H this (.refl _ _) (.tup h1 r1)
def oI (f : Int → Int → PV) : PO2
  | .int i, .int j, Q => Q (f i j)
  | _, _, _ => False
def oIc (C : Int → Int → Prop) (f : Int → Int → PV) : PO2
  | .int i, .int j, Q => C i j ∧ Q (f i j)
  | _, _, _ => False
def flat1 : PV → Bool
  | .non => true
  | .bl _ => true
  | .int _ => true
  | .str _ => true
  | _ => false
theorem oi_ok {K : Fg} {f : Int → Int → V} {g : Int → Int → PV} (h : ∀ i j (B : Bg) A H, Rp B A H (g i j) (f i j)) : OpS K (rI0 f) (oI g) := by
  intro B H x y v u Q Qp hK rx ry q k
  cases rx <;> cases ry <;> first | exact (q : False).elim | skip
  exact ⟨_, _, rfl, rfl, k _ _ H q (.refl _ _) fun A => h _ _ _ _ _⟩
theorem oic_ok {K : Fg} {C : Int → Int → Prop} {f : Int → Int → V} {g : Int → Int → PV} (h : ∀ i j (B : Bg) A H, Rp B A H (g i j) (f i j)) : OpS K (rI C f) (oIc C g) := by
  intro B H x y v u Q Qp hK rx ry q k
  cases rx <;> cases ry <;> first | exact (q : False).elim | skip
  exact ⟨_, _, rfl, rfl, q.1, k _ _ H q.2 (.refl _ _) fun A => h _ _ _ _ _⟩
def oSub : PO2
  | .int i, .int j, Q => Q (.int (i - j))
  | _, _, _ => False
def oMod : PO2
  | .int i, .int j, Q => 0 < j ∧ Q (.int (i % j))
  | _, _, _ => False
def oPow : PO2
  | .int i, .int j, Q => CPow i j ∧ Q (.int (i ^ j.toNat))
  | _, _, _ => False
theorem OpS.cg {K : Fg} {r : R2} {o o' : PO2} (h : OpS K r o) (i : ∀ x y Q, o' x y Q → o x y Q) : OpS K r o' := fun B H x y v u Q Qp hK rx ry q k => h B H x y v u Q Qp hK rx ry (i _ _ _ q) k
theorem sub_ok {K : Fg} : OpS K rSubA oSub := OpS.cg (o := oI fun i j => .int (i - j)) (oi_ok fun _ _ _ _ _ => .int _) fun x y Q h => by cases x <;> cases y <;> exact h
theorem mod_ok {K : Fg} : OpS K rModA oMod := OpS.cg (o := oIc (fun _ j => 0 < j) fun i j => .int (i % j)) (oic_ok fun _ _ _ _ _ => .int _) fun x y Q h => by cases x <;> cases y <;> exact h
theorem pow_ok {K : Fg} : OpS K rPowA oPow := OpS.cg (o := oIc CPow fun i j => .int (i ^ j.toNat)) (oic_ok fun _ _ _ _ _ => .int _) fun x y Q h => by cases x <;> cases y <;> exact h
def oMul : PO2
  | .int i, .int j, Q => CMul i j ∧ Q (.int (i * j))
  | .lst xs, .int k, Q => (-(2 ^ 63) ≤ k ∧ k < 2 ^ 63 ∧ xs.length * k.toNat ≤ sizeLine) ∧ Q (.lst (List.replicate k.toNat xs).flatten)
  | .str x, .int k, Q => MulOk x k ∧ Q (.str (Txt.mul x k))
  | _, _, _ => False
def rMulS : R2 := fun x y H Q => ∃ i n, x = .str i ∧ y = .int n ∧ MulOk i n ∧ Q (.str (Txt.mul i n)) H
theorem op_mulS : OpR X (binaryOp .Mult) rMulS := by
  intro pins s σ H x y v u Q I rx ry h
  obtain ⟨i, j, rfl, rfl, hz, q⟩ := h
  obtain ⟨t, rfl⟩ := rx
  obtain ⟨t', rfl⟩ := ry
  exact SB.mul hz fun t' tk => ⟨.str _, H, I.tok _, ⟨_, rfl⟩, q⟩
def rMulV : R2 := fun x y H Q => rMulA x y H Q ∨ rMulS x y H Q
theorem op_mulV : OpR X (binaryOp .Mult) rMulV := OpR.or op_mulA op_mulS
theorem RpL.flat {B : Bg} {A : Addr → Prop} {H : Hp} {x : List PV} {v : List V} (h : RpL B A H x v) : ∀ n, RpL B A H (List.replicate n x).flatten (List.replicate n v).flatten
  | 0 => .nil
  | n + 1 => by rw [List.replicate_succ, List.replicate_succ, List.flatten_cons, List.flatten_cons]; exact h.append (RpL.flat h n)
theorem mul_ok {K : Fg} : OpP K rMulV oMul := by
  intro B A H x y v u Q Qp hK aq nn rx ry h k
  cases rx <;> cases ry <;> first | exact (h : False).elim | skip
  · exact .inl (.inl ⟨_, _, rfl, rfl, h.1, k _ _ H h.2 (.refl _ _) (.int _)⟩)
  · exact .inr ⟨_, _, rfl, rfl, h.1, k _ _ H h.2 (.refl _ _) (.str _)⟩
  · rename_i b vs xs n1 h1 r1 i
    refine .inl (.inr ?_)
    exact ⟨_, _, _, rfl, rfl, h1, h.1.1, h.1.2.1, by rw [← r1.length]; exact h.1.2.2, fun p np => k _ _ _ h.2 (.new np) (Rp.new (r1.flat _) aq np nn)⟩
def oLt : PO2
  | .int i, .int j, Q => Q (.bl (decide (i < j)))
  | .str i, .str j, Q => Q (.bl (decide (i.cps.toList < j.cps.toList)))
  | _, _, _ => False
def oLe : PO2
  | .int i, .int j, Q => Q (.bl (decide (i ≤ j)))
  | _, _, _ => False
def oGt : PO2
  | .int i, .int j, Q => Q (.bl (decide (j < i)))
  | _, _, _ => False
theorem lt_ok {K : Fg} : OpS K rLtA oLt := by
  intro B H x y v u Q Qp hK rx ry q k
  cases rx <;> cases ry <;> first | exact (q : False).elim | skip
  · exact .inl ⟨_, _, rfl, rfl, k _ _ H q (.refl _ _) fun A => .bl _⟩
  · exact .inr ⟨_, _, rfl, rfl, k _ _ H q (.refl _ _) fun A => .bl _⟩
theorem le_ok {K : Fg} : OpS K rLeA oLe := OpS.cg (o := oI fun i j => .bl (decide (i ≤ j))) (oi_ok fun _ _ _ _ _ => .bl _) fun x y Q h => by cases x <;> cases y <;> exact h
theorem gt_ok {K : Fg} : OpS K rGtA oGt := OpS.cg (o := oI fun i j => .bl (decide (j < i))) (oi_ok fun _ _ _ _ _ => .bl _) fun x y Q h => by cases x <;> cases y <;> exact h
end
mutual
def toD : PV → PyData
  | .non => .none
  | .bl b => .bool b
  | .int i => .int i
  | .str x => .str x
  | .lst xs => .list (toDs xs)
  | .tup xs => .tuple (toDs xs)
  | _ => .none
def toDs : List PV → List PyData
  | [] => []
  | x :: xs => toD x :: toDs xs
/-- plain data of small depth, with texts that stand -/
def dat : Nat → PV → Bool
  | _, .non => true
  | _, .bl _ => true
  | _, .int _ => true
  | _, .str x => PyData.canLay0 (.str x)
  | n + 1, .lst xs => dats n xs
  | n + 1, .tup xs => dats n xs
  | _, _ => false
def dats : Nat → List PV → Bool
  | _, [] => true
  | n, x :: xs => dat n x && dats n xs
end
mutual
theorem dat_dp {B : Bg} {A : Addr → Prop} {H : Hp} : ∀ {x : PV} {v : V} (n : Nat), Rp B A H x v → dat n x = true → Dp B.K H v (toD x)
  | _, _, _, .non, _ => by rw [toD]; exact .non
  | _, _, _, .bl b, _ => by rw [toD]; exact .bl b
  | _, _, _, .int i, _ => by rw [toD]; exact .int i
  | _, _, _, .str x, _ => by rw [toD]; exact .str x
  | _, _, n + 1, .lst _ h r, e => by rw [toD]; exact .lst (.inl (.inl h)) (dats_dp n r (by rw [dat] at e; exact e))
  | _, _, n + 1, .tup h r, e => by rw [toD]; exact .tup h.sq (dats_dp n r (by rw [dat] at e; exact e))
  | _, _, 0, .lst _ h r, e => by simp [dat] at e
  | _, _, 0, .tup h r, e => by simp [dat] at e
  | _, _, n, .ty _, e => by cases n <;> simp [dat] at e
  | _, _, n, .dK _ _ _ _ _ _ _, e => by cases n <;> simp [dat] at e
  | _, _, n, .dT _ _ _ _ _ _ _, e => by cases n <;> simp [dat] at e
  | _, _, n, .ins _ _ _ _ _, e => by cases n <;> simp [dat] at e
  | _, _, n, .cls _, e => by cases n <;> simp [dat] at e
  | _, _, n, .bag, e => by cases n <;> simp [dat] at e
theorem dats_dp {B : Bg} {A : Addr → Prop} {H : Hp} : ∀ {x : List PV} {v : List V} (n : Nat), RpL B A H x v → dats n x = true → DpAll B.K H v (toDs x)
  | _, _, _, .nil, _ => by rw [toDs]; exact .nil
  | _, _, n, .cons a b, e => by
    rw [dats, Bool.and_eq_true] at e
    rw [toDs]; exact .cons (dat_dp n a e.1) (dats_dp n b e.2)
end
mutual
theorem dat_lay : ∀ (n : Nat) (x : PV), dat n x = true → PyData.canLay0 (toD x) = true ∧ PyData.depth (toD x) ≤ n
  | n, .non, _ => by cases n <;> simp [toD, PyData.canLay0, PyData.depth]
  | n, .bl b, _ => by cases n <;> simp [toD, PyData.canLay0, PyData.depth]
  | n, .int i, _ => by cases n <;> simp [toD, PyData.canLay0, PyData.depth]
  | n, .str x, e => by cases n <;> (simp only [dat] at e; simp [toD, PyData.depth, e])
  | n + 1, .lst xs, e => by
    have := dats_lay n xs (by rw [dat] at e; exact e)
    simp [toD, PyData.canLay0, PyData.depth]; exact ⟨this.1, by omega⟩
  | n + 1, .tup xs, e => by
    have := dats_lay n xs (by rw [dat] at e; exact e)
    simp [toD, PyData.canLay0, PyData.depth]; exact ⟨this.1, by omega⟩
  | 0, .lst _, e => by simp [dat] at e
  | 0, .tup _, e => by simp [dat] at e
  | n, .ty _, e => by cases n <;> simp [dat] at e
  | n, .dK _, e => by cases n <;> simp [dat] at e
  | n, .dT _, e => by cases n <;> simp [dat] at e
  | n, .ins _ _, e => by cases n <;> simp [dat] at e
  | n, .cls _, e => by cases n <;> simp [dat] at e
  | n, .bag, e => by cases n <;> simp [dat] at e
theorem dats_lay : ∀ (n : Nat) (x : List PV), dats n x = true → PyData.canLayAll0 (toDs x) = true ∧ PyData.depthAll (toDs x) ≤ n
  | n, [], _ => by simp [toDs, PyData.canLayAll0, PyData.depthAll]
  | n, x :: xs, e => by
    rw [dats, Bool.and_eq_true] at e
    have h1 := dat_lay n x e.1
    have h2 := dats_lay n xs e.2
    simp [toDs, PyData.canLayAll0, PyData.depthAll, h1.1, h2.1]; omega
end
theorem dat_sh {x : PV} (h : dat 8 x = true) : SeqAt.shaped (toD x) = true := by
  have := dat_lay 8 x h
  simp only [SeqAt.shaped, this.1, Bool.true_and, decide_eq_true_eq]; omega
/-- equal as Python says, of data -/
def peq (x y : PV) : Bool := PyData.eqv (toD x) (toD y)
def oEq : PO2 := fun x y Q => dat 8 x = true ∧ dat 8 y = true ∧ Q (.bl (peq x y))
def oNe : PO2 := fun x y Q => dat 8 x = true ∧ dat 8 y = true ∧ Q (.bl (!peq x y))
theorem eq_ok {K : Fg} : OpS K (rEqA K) oEq := by
  intro B H x y v u Q Qp hK rx ry h k
  subst hK
  exact .inr ⟨_, _, dat_dp 8 rx h.1, dat_dp 8 ry h.2.1, dat_sh h.1, dat_sh h.2.1, k _ _ H h.2.2 (.refl _ _) fun A => .bl _⟩
theorem ne_ok {K : Fg} : OpS K (rNeA K) oNe := by
  intro B H x y v u Q Qp hK rx ry h k
  subst hK
  exact .inr ⟨_, _, dat_dp 8 rx h.1, dat_dp 8 ry h.2.1, dat_sh h.1, dat_sh h.2.1, k _ _ H h.2.2 (.refl _ _) fun A => .bl _⟩
end Vl
namespace Vl
open PySem PySem.Spec L2 Lb
section
variable {X : Cx} {ks : List Kd} {a s a1 s1 a2 s2 : Bool} {e e1 e2 e3 : Expr} {es : List Expr} {p p1 p2 p3 : GE} {pa : GA} {pt pt1 pt2 : GT} {pos : Pos}
theorem and_l {a b : Bool} (h : (a && b) = true) : a = true := (Bool.and_eq_true _ _ ▸ h).1
theorem and_r {a b : Bool} (h : (a && b) = true) : b = true := (Bool.and_eq_true _ _ ▸ h).2
theorem truP_ok {B : Bg} {A : Addr → Prop} {H : Hp} {x : PV} {v : V} {Q : Bool → Prop} (r : Rp B A H x v) (h : truP x Q) : ∃ k, TruV B.K v H k ∧ Q k := by
  cases r <;> first | exact (h : False).elim | skip
  · exact ⟨_, rfl, h⟩
  · exact ⟨_, rfl, h⟩
  · exact ⟨_, rfl, h⟩
  · exact ⟨_, ⟨h.1, rfl⟩, h.2⟩
  · rename_i b vs xs n h1 r
    refine ⟨!xs.isEmpty, .inl ⟨vs, .inl (.inl h1), ?_⟩, h⟩
    cases r <;> rfl
  · rename_i b vs xs h1 r
    refine ⟨!xs.isEmpty, .inr (.inl ⟨vs, h1.sq, ?_⟩), h⟩
    cases r <;> rfl
theorem qt_tru (h : QE X ks a s e p) (he : ∀ whole, isTrue e X.env whole = (do let v ← whole; standAt e.pos; holding [v] (truthy v)) := by intro _; rfl) : QT X ks e (pTru p) :=
  PTi (pt_tru h he) fun σ H Q ⟨E, L, γ, Qp, hK, R, hp, k⟩ => by
    refine ⟨E, L, γ, _, hK, R, hp, fun x v H1 q1 x1 r1 => ?_⟩
    obtain ⟨b, hb, q⟩ := truP_ok r1 q1
    exact ⟨b, hK ▸ hb, k b H1 q x1⟩
theorem qt_w (h : QW X ks e pt) : QT X ks e pt := h.pt
theorem qw_or1 (h : QT X ks e pt) : QW X ks (.BoolOp .Or [e] pos) pt := pw_or1 h
theorem qw_or {rest : List Expr} (h1 : QT X ks e1 pt1) (h2 : QW X ks (.BoolOp .Or (e2 :: rest) pos) pt2) : QW X ks (.BoolOp .Or (e1 :: e2 :: rest) pos) (pOr pt1 pt2) :=
  PWi (pw_or h1 h2) fun σ H Q ⟨E, L, γ, Qp, hK, R, hp, k⟩ => by
    refine ⟨E, L, γ, _, hK, R, hp, fun b H1 q1 x1 => ?_⟩
    cases b with
    | false => exact ⟨E, L, γ, _, hK, R.ex x1, q1, fun b H2 q2 x2 => k b H2 q2 (x1.trans x2)⟩
    | true => rw [if_pos rfl]; exact k true H1 q1 x1
theorem qt_not (h : QT X ks e pt) : QT X ks (.UnaryOp .Not e pos) (pNot pt) :=
  PTi (pt_not h) fun σ H Q ⟨E, L, γ, Qp, hK, R, hp, k⟩ => ⟨E, L, γ, _, hK, R, hp, fun b H1 q1 x1 => k _ H1 q1 x1⟩
theorem qe_andV {rest : List Expr} (h1 : QE X ks a1 s1 e1 p1) (h2 : QE X ks a2 s2 (.BoolOp .And (e2 :: rest) pos) p2) (ha : a = (a1 && a2) := by rfl) (hb : s = (s1 && s2) := by rfl) : QE X ks a s (.BoolOp .And (e1 :: e2 :: rest) pos) (pAndV p1 p2) := by
  subst ha hb
  exact PEi (pe_andT h1 h2) fun σ H Q ⟨E, L, γ, Qp, hK, R, hp, k⟩ => by
    refine ⟨E, L, γ, _, hK, R, hp, fun x v H1 q1 x1 r1 => ?_⟩
    obtain ⟨b, hb, q⟩ := truP_ok r1 q1
    refine ⟨b, hK ▸ hb, ?_⟩
    cases b with
    | true => rw [if_pos rfl]; exact ⟨E, L, γ, _, hK, R.ex x1, q, fun y u H2 q2 x2 r2 => k y u H2 q2 (x1.trans x2) (r2.anti fun c z => av_mono and_r and_r z)⟩
    | false => exact k x v H1 q x1 (r1.anti fun c z => av_mono and_l and_l z)
theorem qe_orV {rest : List Expr} (h1 : QE X ks a1 s1 e1 p1) (h2 : QE X ks a2 s2 (.BoolOp .Or (e2 :: rest) pos) p2) (ha : a = (a1 && a2) := by rfl) (hb : s = (s1 && s2) := by rfl) : QE X ks a s (.BoolOp .Or (e1 :: e2 :: rest) pos) (pOrV p1 p2) := by
  subst ha hb
  exact PEi (pe_orT h1 h2) fun σ H Q ⟨E, L, γ, Qp, hK, R, hp, k⟩ => by
    refine ⟨E, L, γ, _, hK, R, hp, fun x v H1 q1 x1 r1 => ?_⟩
    obtain ⟨b, hb, q⟩ := truP_ok r1 q1
    refine ⟨b, hK ▸ hb, ?_⟩
    cases b with
    | false => exact ⟨E, L, γ, _, hK, R.ex x1, q, fun y u H2 q2 x2 r2 => k y u H2 q2 (x1.trans x2) (r2.anti fun c z => av_mono and_r and_r z)⟩
    | true => rw [if_pos rfl]; exact k x v H1 q x1 (r1.anti fun c z => av_mono and_l and_l z)
theorem qe_one {op} (h : QE X ks a s e p) : QE X ks a s (.BoolOp op [e] pos) p := pe_one h
theorem qe_notV (h : QE X ks a s e p) : QE X ks true true (.UnaryOp .Not e pos) (pNotV p) :=
  PEi (pe_notT h) fun σ H Q ⟨E, L, γ, Qp, hK, R, hp, k⟩ => by
    refine ⟨E, L, γ, _, hK, R, hp, fun x v H1 q1 x1 r1 => ?_⟩
    obtain ⟨b, hb, q⟩ := truP_ok r1 q1
    exact ⟨b, hK ▸ hb, k _ _ H1 q x1 (.bl _)⟩
def oNeg : PV → (PV → Prop) → Prop
  | .int i, Q => Q (.int (-i))
  | _, _ => False
theorem qe_neg (h : QE X ks a s e p) : QE X ks true true (.UnaryOp .USub e pos) (pUn oNeg p) :=
  PEi (pe_un un_negA h) fun σ H Q ⟨E, L, γ, Qp, hK, R, hp, k⟩ => by
    refine ⟨E, L, γ, _, hK, R, hp, fun x v H1 q1 x1 r1 => ?_⟩
    cases r1 <;> first | exact (q1 : False).elim | skip
    exact ⟨_, rfl, k _ _ H1 q1 x1 (.int _)⟩
def pChain (o o' : PO2) (a b c : GE) : GE := fun γ Q => a γ fun x => b γ fun y => o x y fun z => match z with | .bl k => bfi k (c γ fun w => o' y w Q) (Q (.bl false)) | _ => False
theorem chain_ok {r r' : R2} {o o' : PO2} (ho : OpS X.K r o) (ho' : OpS X.K r' o') {E : Ac} {L : List Addr} {γ : G} {σ : St} {H : Hp} {Q : VK} {Qp : PV → Prop} (hK : E.B.K = X.K) (R : Rel E L ks γ σ H) (hp : pChain o o' p1 p2 p3 γ Qp)
    (k : ∀ z t H', Qp z → Ex E.B H H' → (∀ A, Rp E.B A H' z t) → Q t H') : tChain r r' (tE X.K ks a1 s1 p1) (tE X.K ks a2 s2 p2) (tE X.K ks a s p3) σ H Q := by
  refine ⟨E, L, γ, _, hK, R, hp, fun x v H1 q1 x1 r1 => ⟨E, L, γ, _, hK, R.ex x1, q1, fun y u H2 q2 x2 r2 => ?_⟩⟩
  refine ho E.B H2 x y v u _ _ hK (r1.ex x2 av_q).q r2.q q2 fun z t H3 qz x3 rz => ?_
  have := rz fun _ => False
  cases this <;> first | exact qz.elim | skip
  rename_i b
  refine ⟨b, rfl, ?_⟩
  cases b with
  | true =>
    rw [if_pos rfl]
    refine ⟨E, L, γ, _, hK, ((R.ex x1).ex x2).ex x3, qz, fun w m H4 q4 x4 r4 => ?_⟩
    exact ho' E.B H4 y w u m Q Qp hK ((r2.ex x3 av_q).ex x4 av_q).q r4.q q4 fun z t H' qz x5 rz => k z t H' qz (x1.trans (x2.trans (x3.trans (x4.trans x5)))) rz
  | false => exact k _ _ H3 qz (x1.trans (x2.trans x3)) fun A => .bl _
theorem qe_chain {op op' : CmpOp} {r r' : R2} {o o' : PO2} (hr : OpR X (compareOp op) r) (hr' : OpR X (compareOp op') r') (ho : OpS X.K r o) (ho' : OpS X.K r' o') (h1 : QE X ks a1 s1 e1 p1) (h2 : QE X ks a2 s2 e2 p2) (h3 : QE X ks a s e3 p3)
    (hm : lastMarks [op, op'] [e2, e3] = false := by with_unfolding_all rfl) : QE X ks true true (.Compare e1 [op, op'] [e2, e3] pos) (pChain o o' p1 p2 p3) :=
  PEi (pe_chain hr hr' h1 h2 h3 hm) fun σ H Q ⟨E, L, γ, Qp, hK, R, hp, k⟩ => chain_ok ho ho' hK R hp fun z t H' qz x rz => k z t H' qz x (rz _)
theorem qt_chain {op op' : CmpOp} {r r' : R2} {o o' : PO2} (hr : OpR X (compareOp op) r) (hr' : OpR X (compareOp op') r') (ho : OpS X.K r o) (ho' : OpS X.K r' o') (h1 : QE X ks a1 s1 e1 p1) (h2 : QE X ks a2 s2 e2 p2) (h3 : QE X ks a s e3 p3)
    (hm : lastMarks [op, op'] [e2, e3] = false := by with_unfolding_all rfl) : QT X ks (.Compare e1 [op, op'] [e2, e3] pos) (pTest (pChain o o' p1 p2 p3)) :=
  PTi (pt_chain hr hr' h1 h2 h3 hm) fun σ H Q ⟨E, L, γ, Qp, hK, R, hp, k⟩ => by
    refine chain_ok ho ho' hK R hp fun z t H' qz x rz => ?_
    have := rz fun _ => False
    cases this <;> first | exact qz.elim | exact ⟨_, rfl, k _ H' qz x⟩
def feq : PV → PV → Bool
  | .non, .non => true
  | .bl a, .bl b => a == b
  | .bl a, .int b => (if a then 1 else 0) == b
  | .int a, .bl b => a == (if b then 1 else 0)
  | .int a, .int b => a == b
  | .str a, .str b => a == b
  | _, _ => false
theorem flat_ok {B : Bg} {A : Addr → Prop} {H : Hp} {x : PV} {v : V} (r : Rp B A H x v) (h : flat1 x = true) : flatV v = true := by
  cases r <;> first | rfl | exact (Bool.false_ne_true h).elim
theorem feq_ok {B : Bg} {A : Addr → Prop} {H : Hp} {x y : PV} {v u : V} (r : Rp B A H x v) (t : Rp B A H y u) (h : flat1 x = true) (h' : flat1 y = true) : eqV v u = feq x y := by
  cases r <;> first | exact (Bool.false_ne_true h).elim | (cases t <;> first | rfl | exact (Bool.false_ne_true h').elim)
theorem feqs_ok {B : Bg} {A : Addr → Prop} {H : Hp} {x : PV} {v : V} (r : Rp B A H x v) (h : flat1 x = true) : ∀ {ys : List PV} {us : List V}, RpL B A H ys us → ys.all flat1 = true → us.all flatV = true ∧ inV v us = ys.any fun y => feq y x
  | _, _, .nil, _ => ⟨rfl, rfl⟩
  | _, _, .cons a b, h' => by
    rw [List.all_cons, Bool.and_eq_true] at h'
    have := feqs_ok r h b h'.2
    refine ⟨by rw [List.all_cons, flat_ok a h'.1, this.1]; rfl, ?_⟩
    show List.any _ _ = _
    rw [List.any_cons, List.any_cons, feq_ok a r h'.1 h, ← this.2]; rfl
def oIn (neg : Bool) : PO2
  | .str c, .str z, Q => c.cps.size = 1 ∧ Q (.bl (if neg then !decide (c.cps.toList.headD 0 ∈ z.cps.toList) else decide (c.cps.toList.headD 0 ∈ z.cps.toList)))
  | x, .lst ys, Q => flat1 x = true ∧ ys.all flat1 = true ∧ Q (.bl (if neg then !ys.any (fun y => feq y x) else ys.any fun y => feq y x))
  | x, .tup ys, Q => flat1 x = true ∧ ys.all flat1 = true ∧ Q (.bl (if neg then !ys.any (fun y => feq y x) else ys.any fun y => feq y x))
  | _, _, _ => False
theorem one_sign {c : Str} (h : c.cps.size = 1) : c = ⟨#[c.cps.toList.headD 0]⟩ := by
  obtain ⟨⟨l⟩⟩ := c
  match l, h with
  | [x], _ => rfl
theorem in_seq {K : Fg} {neg : Bool} {B : Bg} {H : Hp} {x : PV} {v : V} {ys : List PV} {us : List V} {b : Addr} {A : Addr → Prop} {Q : VK} {Qp : PV → Prop} (hK : B.K = K) (rx : Rp B A H x v) (r : RpL B A H ys us) (hs : SqL K H b us ∨ SqT K H b us)
    (h : flat1 x = true ∧ ys.all flat1 = true ∧ Qp (.bl (if neg then !ys.any (fun y => feq y x) else ys.any fun y => feq y x))) (k : ∀ z t H', Qp z → Ex B H H' → (∀ A, Rp B A H' z t) → Q t H') : rIn K neg v (.ref b) H Q := by
  obtain ⟨h1, h2, h3⟩ := h
  have := feqs_ok rx h1 r h2
  refine ⟨b, us, rfl, hs, flat_ok rx h1, this.1, ?_⟩
  rw [this.2]; exact k _ _ H h3 (.refl _ _) fun A => .bl _
theorem in_ok {K : Fg} : OpS K (rInA K) (oIn false) := by
  intro B H x y v u Q Qp hK rx ry h k
  cases ry with
  | lst n h1 r => exact .inr (in_seq hK rx r (.inl (.inl (.inl h1))) (by cases rx <;> exact h) k)
  | tup h1 r => exact .inr (in_seq hK rx r (.inr (hK ▸ h1.sq)) (by cases rx <;> exact h) k)
  | str z =>
    cases rx <;> first | exact (h : False).elim | skip
    exact .inl ⟨_, _, congrArg _ (one_sign h.1), rfl, k _ _ H h.2 (.refl _ _) fun A => .bl _⟩
  | _ => cases rx <;> exact (h : False).elim
theorem notIn_ok {K : Fg} : OpS K (rNotInA K) (oIn true) := by
  intro B H x y v u Q Qp hK rx ry h k
  cases ry with
  | lst n h1 r => exact .inr (in_seq hK rx r (.inl (.inl (.inl h1))) (by cases rx <;> exact h) k)
  | tup h1 r => exact .inr (in_seq hK rx r (.inr (hK ▸ h1.sq)) (by cases rx <;> exact h) k)
  | str z =>
    cases rx <;> first | exact (h : False).elim | skip
    exact .inl ⟨_, _, congrArg _ (one_sign h.1), rfl, k _ _ H h.2 (.refl _ _) fun A => .bl _⟩
  | _ => cases rx <;> exact (h : False).elim
theorem qa_nil : QA X ks true true [] pNil := PAi pa_nil fun σ H Q ⟨E, L, γ, Qp, hK, R, hp, k⟩ => k [] [] H hp (.refl _ _) .nil rfl
theorem qa_cons (h : QE X ks a1 s1 e p) (t : QA X ks a2 s2 es pa) (hs : starEach (e :: es) X.env = (false, eval e X.env) :: starEach es X.env := by rfl) (ha : a = (a1 && a2) := by rfl) (hb : s = (s1 && s2) := by rfl) : QA X ks a s (e :: es) (pCons p pa) := by
  subst ha hb
  exact PAi (pa_cons h t hs) fun σ H Q ⟨E, L, γ, Qp, hK, R, hp, k⟩ => by
    refine ⟨E, L, γ, _, hK, R, hp, fun x v H1 q1 x1 r1 => ⟨E, L, γ, _, hK, R.ex x1, q1, fun xs vs H2 q2 x2 r2 l2 => ?_⟩⟩
    exact k _ _ H2 q2 (x1.trans x2) (.cons ((r1.ex x2 av_q).anti fun c z => av_mono and_l and_l z) (r2.anti fun c z => av_mono and_r and_r z)) (by simp [l2])
def pTup (t : GA) : GE := fun γ Q => t γ fun xs => Q (.tup xs)
def pLst (t : GA) : GE := fun γ Q => t γ fun xs => Q (.lst xs)
theorem few {n : Nat} (h : n ≤ 1000) : n ≤ sizeLine := by rw [sizeLine_eq]; omega
theorem qe_tup {x1} (h : QA X ks a s es pa) (hn : es.length ≤ 1000 := by decide) : QE X ks a s (.Tuple es x1 pos) (pTup pa) :=
  PEi (pe_tup h) fun σ H Q ⟨E, L, γ, Qp, hK, R, hp, k⟩ => by
    refine ⟨E, L, γ, _, hK, R, hp, fun xs vs H1 q1 x1 r1 l1 => ⟨by rw [← r1.length, l1]; exact few hn, fun b nb => ?_⟩⟩
    exact k _ _ _ q1 (x1.trans (.new nb)) (Rp.newT r1 av_q nb)
theorem qe_lst (h : QA X ks a s es pa) (hn : es.length ≤ 1000 := by decide) : QE X ks a s (.List es pos) (pLst pa) :=
  PEi (pe_lst h) fun σ H Q ⟨E, L, γ, Qp, hK, R, hp, k⟩ => by
    refine ⟨E, L, γ, _, hK, R, hp, fun xs vs H1 q1 x1 r1 l1 => ⟨by rw [← r1.length, l1]; exact few hn, fun b nb => ?_⟩⟩
    exact k _ _ _ q1 (x1.trans (.new nb)) (Rp.new r1 av_q nb fun c z => av_nn (R.ex x1) z)
theorem RpL.more {B : Bg} {A : Addr → Prop} {H : Hp} {x : List PV} {v : List V} {b : Addr} (h : RpL B A H x v) (n : H b = none) : RpL B (fun c => A c ∨ c = b) H x v :=
  h.mv (fun _ _ h _ => h) (fun _ _ h => h) fun c z m => z.elim id fun z => absurd (z ▸ n) m
theorem Rp.more {B : Bg} {A : Addr → Prop} {H : Hp} {x : PV} {v : V} {b : Addr} (h : Rp B A H x v) (n : H b = none) : Rp B (fun c => A c ∨ c = b) H x v :=
  h.mv (fun _ _ h _ => h) (fun _ _ h => h) fun c z m => z.elim id fun z => absurd (z ▸ n) m
theorem qn_lst (h : QA X ks true true es pa) (hn : es.length ≤ 1000 := by decide) : QN X ks (.List es pos) (pLst pa) :=
  PEi (pe_lst h) fun σ H Q ⟨E, L, γ, Qp, hK, R, hp, k⟩ => by
    refine ⟨E, L, γ, _, hK, R, hp, fun xs vs H1 q1 x1 r1 l1 => ⟨by rw [← r1.length, l1]; exact few hn, fun b nb => ?_⟩⟩
    exact k _ _ _ q1 (x1.trans (.new nb)) (x1.free nb) ⟨vs, upd_same, (r1.more nb).ex (.new nb) (.inl av_q)⟩
def oIx : PO2
  | .lst xs, .int i, Q => match atI xs i with | some x => Q x | none => False
  | .tup xs, .int i, Q => match atI xs i with | some x => Q x | none => False
  | .str z, .int i, Q => z.length ≤ sizeLine ∧ match atI z.cps.toList i with | some c => Q (.str ⟨#[c]⟩) | none => False
  | _, _, _ => False
theorem RpL.atI {B : Bg} {A : Addr → Prop} {H : Hp} {x : List PV} {v : List V} (r : RpL B A H x v) {i : Int} {p : PV} (h : atI x i = some p) : ∃ u, atI v i = some u ∧ Rp B A H p u := by
  unfold L2.atI at h ⊢
  rw [r.length] at h
  cases e : ixN v.length i with
  | none => rw [e] at h; cases h
  | some j => rw [e] at h; exact r.get h
theorem ix_ok {K : Fg} : OpP K (rIx K) oIx := by
  intro B A H x y v u Q Qp hK aq nn rx ry h k
  subst hK
  cases rx <;> cases ry <;> first | exact (h : False).elim | skip
  · rename_i z i
    obtain ⟨h1, h2⟩ := h
    cases e : atI z.cps.toList i with
    | none => rw [e] at h2; exact h2.elim
    | some c => rw [e] at h2; exact .inr (.inr ⟨_, _, c, rfl, rfl, h1, e, k _ _ H h2 (.refl _ _) (.str _)⟩)
  · rename_i b vs xs n h1 r i
    cases e : atI xs i with
    | none => simp only [oIx, e] at h
    | some c =>
      simp only [oIx, e] at h
      obtain ⟨u, hu, ru⟩ := r.atI e
      exact .inl ⟨_, _, _, u, rfl, rfl, .inl (.inl h1), hu, k _ _ H h (.refl _ _) ru⟩
  · rename_i b vs xs h1 r i
    cases e : atI xs i with
    | none => simp only [oIx, e] at h
    | some c =>
      simp only [oIx, e] at h
      obtain ⟨u, hu, ru⟩ := r.atI e
      exact .inr (.inl ⟨_, _, _, u, rfl, rfl, h1.sq, hu, k _ _ H h (.refl _ _) ru⟩)
abbrev GO := G → (Option Int → Prop) → Prop
def tO (K : Fg) (ks : List Kd) (p : GO) : TO := fun σ H Q => ∃ (E : Ac) (L : List Addr) (γ : G) (Qp : Option Int → Prop), E.B.K = K ∧ Rel E L ks γ σ H ∧ p γ Qp ∧ ∀ i H', Qp i → Ex E.B H H' → Q i H'
def pNoPart : GO := fun _ Q => Q none
def pPart (p : GE) : GO := fun γ Q => p γ fun x => match x with | .int i => Q (some i) | _ => False
theorem POi {o : Option Expr} {t t' : TO} (h : PO X o t) (i : ∀ σ H Q, t' σ H Q → t σ H Q) : PO X o t' := ⟨fun pins s σ H Q I q => h.run pins s σ H Q I (i _ _ _ q)⟩
abbrev QO (X : Cx) (ks : List Kd) (o : Option Expr) (p : GO) : Prop := PO X o (tO X.K ks p)
theorem qo_none : QO X ks none pNoPart := POi po_none fun σ H Q ⟨E, L, γ, Qp, hK, R, hp, k⟩ => k none H hp (.refl _ _)
theorem qo_some (h : QE X ks a s e p) : QO X ks (some e) (pPart p) := POi (po_some h) fun σ H Q ⟨E, L, γ, Qp, hK, R, hp, k⟩ => by
  refine ⟨E, L, γ, _, hK, R, hp, fun x v H1 q1 x1 r1 => ?_⟩
  cases r1 <;> first | exact q1.elim | exact ⟨_, rfl, k _ H1 q1 x1⟩
def cutP (xs : List PV) (lo hi : Option Int) : List PV := (xs.drop (HT.sIx xs.length 0 lo)).take (HT.sIx xs.length xs.length hi - HT.sIx xs.length 0 lo)
def pSl (p : GE) (l u : GO) : GE := fun γ Q => p γ fun x => l γ fun i => u γ fun j => match x with
  | .lst xs => Q (.lst (cutP xs i j))
  | .str z => z.length ≤ sizeLine ∧ Q (.str (cutS z i j))
  | _ => False
theorem RpL.cut {B : Bg} {A : Addr → Prop} {H : Hp} {x : List PV} {v : List V} (r : RpL B A H x v) (i j : Option Int) : RpL B A H (cutP x i j) (cutV v i j) := by
  unfold cutP cutV; rw [r.length]; exact (r.drop _).take _
def rSlA (K : Fg) : V → Option Int → Option Int → Hp → VK → Prop := fun x i j H Q => rSlL K x i j H Q ∨ rSlS x i j H Q
theorem sl_A : SlR X (rSlA X.K) := SlR.or sl_list sl_str
theorem qe_sl {lo hi : Option Expr} {pl pu : GO} {q2 : Pos} (h : QE X ks a s e p) (hl : QO X ks lo pl) (hu : QO X ks hi pu) : QE X ks a s (.Subscript e (.Slice lo hi none q2) pos) (pSl p pl pu) :=
  PEi (pe_slice sl_A h hl hu) fun σ H Q ⟨E, L, γ, Qp, hK, R, hp, k⟩ => by
    refine ⟨E, L, γ, _, hK, R, hp, fun x v H1 q1 x1 r1 => ⟨E, L, γ, _, hK, R.ex x1, q1, fun i H2 q2 x2 => ⟨E, L, γ, _, hK, (R.ex x1).ex x2, q2, fun j H3 q3 x3 => ?_⟩⟩⟩
    have r3 := (r1.ex x2 av_q).ex x3 av_q
    cases r3 <;> first | exact q3.elim | skip
    · exact .inr ⟨_, rfl, q3.1, k _ _ H3 q3.2 (x1.trans (x2.trans x3)) (.str _)⟩
    · rename_i b vs xs n h1 r
      exact .inl ⟨_, _, rfl, .inl (.inl h1), fun c nc => k _ _ _ q3 (x1.trans (x2.trans (x3.trans (.new nc)))) (Rp.new (r.cut i j) av_q nc fun d z => av_nn (((R.ex x1).ex x2).ex x3) z)⟩
end
end Vl
namespace Vl
open PySem PySem.Spec L2 Lb
abbrev PCl := List PV → (PV → Prop) → Prop
def CallP (K : Fg) (r : List V → Hp → VK → Prop) (o : PCl) : Prop := ∀ (B : Bg) (A : Addr → Prop) (H : Hp) (xs : List PV) (vs : List V) (Q : VK) (Qp : PV → Prop), B.K = K → A B.q → (∀ b, A b → H b ≠ none) → RpL B A H xs vs → o xs Qp →
  (∀ z t H', Qp z → Ex B H H' → Rp B A H' z t → Q t H') → r vs H Q
def CallS (K : Fg) (r : List V → Hp → VK → Prop) (o : PCl) : Prop := ∀ (B : Bg) (H : Hp) (xs : List PV) (vs : List V) (Q : VK) (Qp : PV → Prop), B.K = K → RpL B (fun b => b = B.q) H xs vs → o xs Qp →
  (∀ z t H', Qp z → Ex B H H' → (∀ A, A B.q → (∀ b, A b → H b ≠ none) → Rp B A H' z t) → Q t H') → r vs H Q
section
variable {X : Cx} {ks : List Kd} {a s a1 s1 a2 s2 : Bool} {e e1 e2 e3 : Expr} {es : List Expr} {p p1 p2 p3 : GE} {pa : GA} {pt pt1 pt2 : GT} {pos : Pos}
theorem cbP {r : List V → Hp → VK → Prop} {o : PCl} (ho : CallP X.K r o) {e : Expr} (pe : ∀ {t : TA}, PA X es t → PE X e (tCB r t)) (h : QA X ks a s es pa) : QE X ks a s e (pCB o pa) :=
  PEi (pe h) fun σ H Q ⟨E, L, γ, Qp, hK, R, hp, k⟩ => by
    refine ⟨E, L, γ, _, hK, R, hp, fun xs vs H1 q1 x1 r1 l1 => ?_⟩
    exact ho E.B _ H1 xs vs Q Qp hK av_q (fun b z => av_nn (R.ex x1) z) r1 q1 fun z t H' qz x2 rz => k z t H' qz (x1.trans x2) rz
theorem cbS {r : List V → Hp → VK → Prop} {o : PCl} (ho : CallS X.K r o) {e : Expr} (pe : ∀ {t : TA}, PA X es t → PE X e (tCB r t)) (h : QA X ks a s es pa) : QE X ks true true e (pCB o pa) :=
  PEi (pe h) fun σ H Q ⟨E, L, γ, Qp, hK, R, hp, k⟩ => by
    refine ⟨E, L, γ, _, hK, R, hp, fun xs vs H1 q1 x1 r1 l1 => ?_⟩
    exact ho E.B H1 xs vs Q Qp hK r1.q q1 fun z t H' qz x2 rz => k z t H' qz (x1.trans x2) (rz _ av_q fun b z => av_nn (R.ex x1) z)
def pBools : List PV → Option (List Bool)
  | [] => some []
  | .bl b :: t => (pBools t).map (b :: ·)
  | _ => none
def pStrs : List PV → Option (List Str)
  | [] => some []
  | .str b :: t => (pStrs t).map (b :: ·)
  | _ => none
theorem bools_ok {B : Bg} {A : Addr → Prop} {H : Hp} : ∀ {xs : List PV} {vs : List V}, RpL B A H xs vs → ∀ {bs : List Bool}, pBools xs = some bs → vs = bs.map V.bl
  | _, _, .nil, _, e => by cases e; rfl
  | _, _, .cons (x := x) (xs := xs) r t, bs, e => by
    cases r <;> first | (cases e; done) | skip
    rw [pBools] at e
    cases q : pBools xs with
    | none => rw [q] at e; cases e
    | some cs => rw [q] at e; cases e; rw [bools_ok t q]; rfl
theorem strs_ok {B : Bg} {A : Addr → Prop} {H : Hp} : ∀ {xs : List PV} {vs : List V}, RpL B A H xs vs → ∀ {bs : List Str}, pStrs xs = some bs → vs = bs.map V.str
  | _, _, .nil, _, e => by cases e; rfl
  | _, _, .cons (x := x) (xs := xs) r t, bs, e => by
    cases r <;> first | (cases e; done) | skip
    rw [pStrs] at e
    cases q : pStrs xs with
    | none => rw [q] at e; cases e
    | some cs => rw [q] at e; cases e; rw [strs_ok t q]; rfl
theorem bools_map {α : Type} {f : α → Bool} : ∀ l : List α, pBools (l.map fun x => .bl (f x)) = some (l.map f)
  | [] => rfl
  | x :: l => by simp [pBools, bools_map l]
def bLen : PCl
  | [.str z], Q => z.length ≤ sizeLine ∧ Q (.int z.length)
  | [.lst xs], Q => Q (.int xs.length)
  | [.tup xs], Q => Q (.int xs.length)
  | _, _ => False
theorem len_ok {K : Fg} : CallS K (rLen K) bLen := by
  intro B H xs vs Q Qp hK r h k
  subst hK
  match xs, r, h with
  | [_], .cons r .nil, h =>
    cases r <;> first | exact (h : False).elim | skip
    · exact ⟨_, _, rfl, ⟨h.1, rfl⟩, k _ _ H h.2 (.refl _ _) fun A _ _ => .int _⟩
    · rename_i b vs xs n h1 r
      exact ⟨_, vs.length, rfl, .inl ⟨vs, .inl (.inl h1), rfl⟩, k (.int xs.length) _ H h (.refl _ _) fun A _ _ => by rw [r.length]; exact .int _⟩
    · rename_i b vs xs h1 r
      exact ⟨_, vs.length, rfl, .inr ⟨vs, h1.sq, rfl⟩, k (.int xs.length) _ H h (.refl _ _) fun A _ _ => by rw [r.length]; exact .int _⟩
  | [], _, h => exact (h : False).elim
  | _ :: _ :: _, _, h => simp [bLen] at h
def isK : Kn → PV → Option Bool
  | .int, .int _ => some true
  | .int, .bl _ => some true
  | .bool, .bl _ => some true
  | .str, .str _ => some true
  | .list, .lst _ => some true
  | .tuple, .tup _ => some true
  | .dict, .dK _ => some true
  | .dict, .dT _ => some true
  | _, .non => some false
  | _, .bl _ => some false
  | _, .int _ => some false
  | _, .str _ => some false
  | _, .lst _ => some false
  | _, .tup _ => some false
  | _, .dK _ => some false
  | _, .dT _ => some false
  | _, _ => none
def bIs : PCl
  | [x, .ty t], Q => match isK t x with | some b => Q (.bl b) | none => False
  | _, _ => False
def tyn : PV → String
  | .non => "NoneType"
  | .bl _ => "bool"
  | .int _ => "int"
  | .str _ => "str"
  | .lst _ => "list"
  | .tup _ => "tuple"
  | _ => "dict"
theorem kit_ok (t : Kn) (x : PV) (b : Bool) (h : isK t x = some b) : kitB (tyn x) (knS t) = some b := by
  cases t <;> cases x <;> first | (cases h; done) | (cases h; simp only [tyn, knS]; decide +kernel)
theorem isB_ok {K : Fg} : CallS K (rIsB K) bIs := by
  intro B H xs vs Q Qp hK r h k
  subst hK
  match xs, r, h with
  | [], _, h => exact (h : False).elim
  | [_], .cons r .nil, h => cases r <;> exact (h : False).elim
  | _ :: _ :: _ :: _, .cons _ (.cons r _), h => cases r <;> exact (h : False).elim
  | [x, _], .cons rx (.cons ry .nil), h =>
    cases ry <;> first | exact (h : False).elim | skip
    rename_i t
    cases e : isK t x with
    | none => simp only [bIs, e] at h
    | some b =>
      simp only [bIs, e] at h
      have kb := kit_ok t x b e
      refine ⟨_, knS t, tyn x, b, rfl, ?_, kb, k _ _ H h (.refl _ _) fun A _ _ => .bl _⟩
      cases rx with
      | non => exact .base .non
      | bl b => exact .base (.bl b)
      | int i => exact .base (.int i)
      | str x => exact .base (.str x)
      | lst n h r => exact .base (.lst h)
      | tup h r =>
        rcases h with h | ⟨o, its, n, h, c, _⟩
        · exact .base (.tup h)
        · exact .kTuple h c
      | dK n h => exact .base (.dK h)
      | dT n h => exact .base (.dT h)
      | _ => cases t <;> cases e
def bBs (f : List Bool → Bool) : PCl
  | [.lst xs], Q => match pBools xs with | some bs => Q (.bl (f bs)) | none => False
  | _, _ => False
theorem bs_ok {K : Fg} {f : List Bool → Bool} : CallS K (fun vs H Q => ∃ (a : Addr) (bs : List Bool), vs = [V.ref a] ∧ SqL K H a (bs.map V.bl) ∧ Q (.bl (f bs)) H) (bBs f) := by
  intro B H xs vs Q Qp hK r h k
  match xs, r, h with
  | [_], .cons r .nil, h =>
    cases r <;> first | exact (h : False).elim | skip
    rename_i b vs xs n h1 r
    cases e : pBools xs with
    | none => simp only [bBs, e] at h
    | some bs =>
      simp only [bBs, e] at h
      exact ⟨b, bs, rfl, .inl (.inl (by rw [h1, bools_ok r e])), k _ _ H h (.refl _ _) fun A _ _ => .bl _⟩
  | [], _, h => exact (h : False).elim
  | _ :: _ :: _, .cons r _, h => cases r <;> exact (h : False).elim
def allB (bs : List Bool) : Bool := bs.all id
theorem all_ok {K : Fg} : CallS K (rAll K) (bBs allB) := bs_ok
def bTupOf : PCl
  | [.lst xs], Q => Q (.tup xs)
  | [.tup xs], Q => Q (.tup xs)
  | _, _ => False
theorem tupOf_ok {K : Fg} : CallP K (rTupOf K) bTupOf := by
  intro B A H xs vs Q Qp hK aq nn r h k
  subst hK
  match xs, r, h with
  | [_], .cons r .nil, h =>
    cases r <;> first | exact (h : False).elim | skip
    · rename_i b vs xs n h1 r
      exact ⟨_, _, rfl, .inl ⟨.inl (.inl h1), fun p np => k _ _ _ h (.new np) (Rp.newT r aq np)⟩⟩
    · rename_i b vs xs h1 r
      exact ⟨_, _, rfl, .inr ⟨h1.sq, k _ _ _ h (.refl _ _) (.tup h1 r)⟩⟩
  | [], _, h => exact (h : False).elim
  | _ :: _ :: _, .cons r _, h => cases r <;> exact (h : False).elim
def pJoin (p1 p2 : GE) : GE := fun γ Q => p1 γ fun x => match x with
  | .str a => p2 γ fun y => match y with
    | .lst ys => match pStrs ys with | some l => (l.map (·.length)).sum + l.length * a.length ≤ 16777216 ∧ Q (.str (Txt.join a l)) | none => False
    | _ => False
  | _ => False
theorem qe_join {apos : Pos} (h1 : QE X ks a1 s1 e1 p1) (h2 : QE X ks a2 s2 e2 p2) (hs : starEach [e2] X.env = [(false, eval e2 X.env)] := by rfl) (hbase : attributeBase e1 "join" X.env (eval e1 X.env) = eval e1 X.env := by rfl) (hline : (apos.endLine == pos.line) = true := by rfl) :
    QE X ks true true (.Call (.Attribute e1 "join" apos) [e2] [] pos) (pJoin p1 p2) :=
  PEi (pe_join h1 h2 hs hbase hline) fun σ H Q ⟨E, L, γ, Qp, hK, R, hp, k⟩ => by
    refine ⟨E, L, γ, _, hK, R, hp, fun x v H1 q1 x1 r1 => ?_⟩
    cases r1 <;> first | exact q1.elim | skip
    refine ⟨⟨_, rfl⟩, E, L, γ, _, hK, R.ex x1, q1, fun y u H2 q2 x2 r2 => ?_⟩
    cases r2 <;> first | exact q2.elim | skip
    rename_i b vs xs n h1 r
    cases e : pStrs xs with
    | none => simp only [e] at q2
    | some l =>
      simp only [e] at q2
      exact ⟨_, _, l, rfl, rfl, .inl (.inl (.inl (by rw [h1, strs_ok r e]))), q2.1, k _ _ H2 q2.2 (x1.trans x2) (.str _)⟩
mutual
def ckV (K : Fg) : PV → Value → Bool
  | .non, u => decide (u = .none)
  | .bl b, u => decide (u = .bool b)
  | .int i, u => match u with | .int j _ => decide (i = j) | _ => false
  | .str x, u => match u with | .str y _ => decide (x = y) | _ => false
  | .tup xs, u => match u with
    | .ref a => (match K.lookup a with
      | some o => decide (o.cls = .type "tuple") && decide (o.dict = none) && (match o.data with | .seq its _ => decide (its.size ≤ 1000) && ckL K xs its.toList | _ => false)
      | none => false)
    | _ => false
  | _, _ => false
def ckL (K : Fg) : List PV → List Value → Bool
  | [], us => us.isEmpty
  | x :: xs, us => match us with | u :: us => ckV K x u && ckL K xs us | [] => false
end
theorem ck_tup {K : Fg} {xs : List PV} {a : Addr} (h : ckV K (.tup xs) (.ref a) = true) : ∃ (o : Obj) (its : Array Value) (n : Nat), K.lookup a = some o ∧ o.cls = .type "tuple" ∧ o.dict = none ∧ o.data = .seq its n ∧ its.size ≤ sizeLine ∧ ckL K xs its.toList = true := by
  rw [ckV] at h
  cases e : K.lookup a with
  | none => rw [e] at h; cases h
  | some o =>
    rw [e] at h
    simp only [Bool.and_eq_true, decide_eq_true_eq] at h
    obtain ⟨⟨h1, h2⟩, h3⟩ := h
    cases q : o.data with
    | seq its n =>
      rw [q] at h3
      simp only [Bool.and_eq_true, decide_eq_true_eq] at h3
      exact ⟨o, its, n, rfl, h1, h2, q, few h3.1, h3.2⟩
    | _ => rw [q] at h3; cases h3
mutual
theorem ckV_ok {K : Fg} {q r : Addr} {A : Addr → Prop} {H : Hp} : ∀ (x : PV) (u : Value), ckV K x u = true → ∃ v, RelV v u ∧ Rp ⟨K, q, r⟩ A H x v
  | .non, u, h => by
    rw [ckV] at h; have := of_decide_eq_true h; subst this
    exact ⟨.non, rfl, .non⟩
  | .bl b, u, h => by
    rw [ckV] at h; have := of_decide_eq_true h; subst this
    exact ⟨.bl b, rfl, .bl b⟩
  | .int i, u, h => by
    cases u <;> first | (simp [ckV] at h; done) | skip
    simp [ckV] at h; subst h
    exact ⟨.int _, ⟨_, rfl⟩, .int _⟩
  | .str x, u, h => by
    cases u <;> first | (simp [ckV] at h; done) | skip
    simp [ckV] at h; subst h
    exact ⟨.str _, ⟨_, rfl⟩, .str _⟩
  | .tup xs, u, h => by
    cases u <;> first | (simp [ckV] at h; done) | skip
    obtain ⟨o, its, n, h1, h2, _, h3, h4, h5⟩ := ck_tup h
    obtain ⟨vs, hv, hr⟩ := ckL_ok xs its.toList h5
    exact ⟨.ref _, rfl, .tup (.inr ⟨o, its, n, h1, h2, h3, h4, hv⟩) hr⟩
  | .lst _, u, h => by simp [ckV] at h
  | .dK _, u, h => by simp [ckV] at h
  | .dT _, u, h => by simp [ckV] at h
  | .ins _ _, u, h => by simp [ckV] at h
  | .cls _, u, h => by simp [ckV] at h
  | .bag, u, h => by simp [ckV] at h
  | .ty _, u, h => by simp [ckV] at h
theorem ckL_ok {K : Fg} {q r : Addr} {A : Addr → Prop} {H : Hp} : ∀ (x : List PV) (u : List Value), ckL K x u = true → ∃ v, Vals v u ∧ RpL ⟨K, q, r⟩ A H x v
  | [], [], _ => ⟨[], .nil, .nil⟩
  | [], _ :: _, h => by rw [ckL] at h; cases h
  | _ :: _, [], h => by rw [ckL] at h; cases h
  | x :: xs, u :: us, h => by
    rw [ckL, Bool.and_eq_true] at h
    obtain ⟨v, h1, h2⟩ := ckV_ok x u h.1
    obtain ⟨vs, h3, h4⟩ := ckL_ok xs us h.2
    exact ⟨v :: vs, .cons h1 h3, .cons h2 h4⟩
end
/-- a written name's value: x at K's globals -/
def GV (K : Fg) (mg : Str → Option Value) (n : Str) (x : PV) : Prop := ∃ u, mg n = some u ∧ ckV K x u = true
theorem qe_g {n : Str} {x : PV} (h : GV X.K X.mg n x) (hg : Gl X n) (hd : (n == ("__debug__" : Str)) = false := by decide) : QE X ks true true (.Name n pos) (pC x) := by
  obtain ⟨u, h1, h2⟩ := h
  obtain ⟨v, hv, _⟩ := ckV_ok (q := 0) (r := 0) (A := fun _ => False) (H := fun _ => none) x u h2
  refine qe_c (v := v) (pe_glob hg h1 hv hd) fun q r A H => ?_
  obtain ⟨v', hv', hr⟩ := ckV_ok (q := q) (r := r) (A := A) (H := H) x u h2
  have : v = v' := by
    cases hr <;> cases u <;> first | (simp [ckV] at h2; done) | skip
    all_goals (cases v <;> first | (cases hv; done) | skip)
    all_goals (simp [RelV] at hv hv' <;> simp_all)
  rw [this]; exact hr
end
end Vl
namespace Vl
open PySem PySem.Spec L2 Lb
section
variable {E : Ac} {L L' : List Addr} {H H' : Hp} {ks : List Kd} {γ : G} {σ : St}
/-- a store to slot i, all else as it stands; the heap may have gone on -/
theorem Rel.put {i : Nat} {k : Kd} {x : PV} {v : V} {O' : List Addr} (R : Rel E L ks γ σ H) (f : Fw E.B L H L' H') (fl : ∀ a ∈ L, a ∉ O' → ∀ o, H a = some o → H' a = some o) (old : ∀ a o, E.H0 a = some o → a ≠ E.B.q → H' a = some o) (bag : BagOk E.B H')
    (ll : ∀ a ∈ L', a ∈ L ∨ E.H0 a = none) (ln : ∀ a ∈ L', H' a ≠ none) (lL : ∀ a ∈ L, a ∈ L')
    (hk : Kr E L' H' k x v O') (hO : ∀ a ∈ O', a ∈ L') (hn : O'.Nodup) (hd : ∀ (O : Nat → List Addr), (∀ j a, a ∈ O j → a ∈ L) → (∀ j j' a, a ∈ O j → a ∈ O j' → j = j') → (∀ j y, γ[j]? = some (some y) → ∃ w, σ[j]? = some (some w) ∧ Kr E L H (kd ks j) y w (O j)) → ∀ j a, j ≠ i → a ∈ O' → a ∉ O j)
    (hi : i < ks.length) : Rel E L' (ks.set i k) (γ.set i (some x)) (σ.set i (some v)) H' where
  old := old
  onn := fun a h => f.nn a (R.onn a h)
  bag := bag
  a0 := R.a0
  aq := R.aq
  ar := R.ar
  lf := fun a h => ⟨(ll a h).elim (fun z => (R.lf a z).1) id, ln a h⟩
  len := by simp [R.len]
  sl := by
    obtain ⟨O, h1, h2, h3, h4⟩ := R.sl
    have hd' := hd O h2 h3 h1
    refine ⟨fun j => if j = i then O' else O j, fun j y hy => ?_, fun j a m => ?_, fun j j' a m m' => ?_, fun j => ?_⟩
    · by_cases hj : j = i
      · subst hj
        have hl : j < γ.length := by
          have := (List.getElem?_eq_some_iff.mp hy).1; simpa using this
        rw [List.getElem?_set_self hl] at hy
        cases hy
        refine ⟨v, by rw [List.getElem?_set_self (by rw [← R.len]; exact hl)], ?_⟩
        show Kr E L' H' _ _ _ (if j = j then O' else O j)
        rw [if_pos rfl]
        have : kd (ks.set j k) j = k := by unfold kd; simp [List.getD, hi]
        rw [this]; exact hk
      · rw [List.getElem?_set_ne (fun z => hj z.symm)] at hy
        obtain ⟨w, hw, kw⟩ := h1 j y hy
        refine ⟨w, by rw [List.getElem?_set_ne (fun z => hj z.symm)]; exact hw, ?_⟩
        show Kr E L' H' _ _ _ (if j = i then O' else O j)
        rw [if_neg hj]
        have : kd (ks.set i k) j = kd ks j := by unfold kd; simp [List.getD, List.getElem?_set_ne (fun z => hj z.symm)]
        rw [this]
        exact kw.mv (fun a o e n nl => f.st a o e nl n) f.tp f.ls fun a m o e => fl a (h2 j a m) (fun z => hd' j a hj z m) o e
    · by_cases hj : j = i
      · simp only [if_pos hj] at m; exact hO a m
      · simp only [if_neg hj] at m; exact lL a (h2 j a m)
    · by_cases hj : j = i <;> by_cases hj' : j' = i
      · rw [hj, hj']
      · simp only [if_pos hj, if_neg hj'] at m m'; exact absurd m' (hd' j' a hj' m)
      · simp only [if_neg hj, if_pos hj'] at m m'; exact absurd m (hd' j a hj m')
      · simp only [if_neg hj, if_neg hj'] at m m'; exact h3 j j' a m m'
    · by_cases hj : j = i
      · simp only [if_pos hj]; exact hn
      · simp only [if_neg hj]; exact h4 j
/-- a plain value to a slot -/
theorem Rel.set {i : Nat} {k : Kd} {x : PV} {v : V} (R : Rel E L ks γ σ H) (hk : Kr E L H k x v []) (hi : i < ks.length) : Rel E L (ks.set i k) (γ.set i (some x)) (σ.set i (some v)) H :=
  R.put (.refl _ _ _) (fun _ _ _ _ h => h) R.old R.bag (fun _ h => .inl h) (fun a h => (R.lf a h).2) (fun _ h => h) hk (fun _ h => nomatch h) List.nodup_nil (fun _ _ _ _ _ _ _ h => nomatch h) hi
theorem set_same {ks : List Kd} {i : Nat} {k : Kd} (h : ks[i]? = some k) : ks.set i k = ks := by
  apply List.ext_getElem?
  intro j
  by_cases hj : i = j
  · subst hj; rw [List.getElem?_set_self (List.getElem?_eq_some_iff.mp h).1, h]
  · rw [List.getElem?_set_ne hj]
/-- slots forgotten -/
def wipeG (γ : G) : List Nat → G
  | [] => γ
  | v :: vs => (wipeG γ vs).set v none
theorem wipeG_some {γ : G} {i : Nat} {x : PV} : ∀ {vs : List Nat}, (wipeG γ vs)[i]? = some (some x) → γ[i]? = some (some x) ∧ i ∉ vs
  | [], h => ⟨h, by simp⟩
  | v :: vs, h => by
    unfold wipeG at h
    by_cases hi : v = i
    · subst hi
      by_cases hv : v < (wipeG γ vs).length
      · rw [List.getElem?_set_self hv] at h; cases h
      · rw [List.getElem?_eq_none (by simpa using hv)] at h; cases h
    · rw [List.getElem?_set_ne hi] at h
      obtain ⟨h1, h2⟩ := wipeG_some h
      exact ⟨h1, by simp only [List.mem_cons, not_or]; exact ⟨fun e => hi e.symm, h2⟩⟩
theorem wipeG_length (γ : G) : ∀ vs : List Nat, (wipeG γ vs).length = γ.length
  | [] => rfl
  | v :: vs => by unfold wipeG; rw [List.length_set, wipeG_length γ vs]
theorem wipe_at {σ : St} {i : Nat} : ∀ {vs : List Nat}, i ∉ vs → (wipe σ vs)[i]? = σ[i]?
  | [], _ => rfl
  | v :: vs, h => by
    simp only [List.mem_cons, not_or] at h
    unfold wipe
    rw [List.getElem?_set_ne (fun z => h.1 z.symm)]
    exact wipe_at h.2
theorem wipe_in {σ : St} {i : Nat} : ∀ {vs : List Nat}, i ∈ vs → i < σ.length → (wipe σ vs)[i]? = some none
  | [], h, _ => nomatch h
  | v :: vs, h, hl => by
    unfold wipe
    by_cases hi : v = i
    · subst hi; rw [List.getElem?_set_self (by rw [wipe_length]; exact hl)]
    · rw [List.getElem?_set_ne hi]
      exact wipe_in ((List.mem_cons.mp h).elim (fun z => absurd z.symm hi) id) hl
theorem Rel.wipe (R : Rel E L ks γ σ H) (vs : List Nat) : Rel E L ks (wipeG γ vs) (wipe σ vs) H where
  old := R.old
  onn := R.onn
  bag := R.bag
  a0 := R.a0
  aq := R.aq
  ar := R.ar
  lf := R.lf
  len := by rw [wipeG_length, wipe_length]; exact R.len
  sl := by
    obtain ⟨O, h1, h2, h3, h4⟩ := R.sl
    refine ⟨O, fun j y hy => ?_, h2, h3, h4⟩
    obtain ⟨e, n⟩ := wipeG_some hy
    obtain ⟨v, hv, k⟩ := h1 j y e
    exact ⟨v, by rw [wipe_at n]; exact hv, k⟩
def SameS (js : List Nat) (σ σ' : St) : Prop := σ'.length = σ.length ∧ ∀ i, i ∉ js → σ'[i]? = σ[i]?
theorem SameS.refl (js : List Nat) (σ : St) : SameS js σ σ := ⟨rfl, fun _ _ => rfl⟩
theorem SameS.trans {js : List Nat} {σ σ1 σ2 : St} (a : SameS js σ σ1) (b : SameS js σ1 σ2) : SameS js σ σ2 := ⟨b.1.trans a.1, fun i h => (b.2 i h).trans (a.2 i h)⟩
theorem SameS.set {js : List Nat} {σ : St} {i : Nat} {v : Option V} (h : i ∈ js) : SameS js σ (σ.set i v) := ⟨by simp, fun j n => List.getElem?_set_ne (fun z => n (by rw [← z]; exact h))⟩
theorem SameS.wipe {js vs : List Nat} {σ σ' : St} (h : SameS js (L2.wipe σ vs) σ') (s : ∀ j ∈ js, j ∈ vs) : L2.wipe σ' vs = L2.wipe σ vs := by
  have hl : σ'.length = σ.length := by rw [h.1, wipe_length]
  apply List.ext_getElem?
  intro i
  by_cases hi : i ∈ vs
  · by_cases hn : i < σ.length
    · rw [wipe_in hi hn, wipe_in hi (by omega)]
    · rw [List.getElem?_eq_none (by rw [wipe_length]; omega), List.getElem?_eq_none (by rw [wipe_length]; omega)]
  · rw [wipe_at hi, h.2 i (fun z => hi (s i z)), wipe_at hi]
end
abbrev GG := PV → G → (G → Prop) → Prop
abbrev GGs := List PV → G → (G → Prop) → Prop
def tG (K : Fg) (ks : List Kd) (a s : Bool) (js : List Nat) (g : GG) : TG := fun v σ H Q => ∃ (E : Ac) (L : List Addr) (γ : G) (x : PV) (Qp : G → Prop), E.B.K = K ∧ Rel E L ks γ σ H ∧ Rp E.B (av E L a s) H x v ∧ g x γ Qp ∧
  ∀ γ' σ', Qp γ' → Rel E L ks γ' σ' H → SameS js σ σ' → Q σ' H
def pgName (i : Nat) : GG := fun x γ Q => Q (γ.set i (some x))
section
variable {X : Cx} {ks : List Kd} {a s : Bool} {js : List Nat} {tg e : Expr} {es : List Expr} {g : GG} {gs : GGs} {pos : Pos}
theorem PGi {t t' : TG} (h : PG X tg t) (i : ∀ v σ H Q, t' v σ H Q → t v σ H Q) : PG X tg t' := ⟨fun pins s σ H v u Q I r q => h.run pins s σ H v u Q I r (i _ _ _ _ q)⟩
abbrev QG (X : Cx) (ks : List Kd) (a s : Bool) (js : List Nat) (tg : Expr) (g : GG) : Prop := PG X tg (tG X.K ks a s js g)
/-- what a slot of a kind takes -/
def takes (k : Kd) (a s : Bool) : Bool := match k with
  | .sh => a && s
  | .bor => s
  | _ => false
theorem takes_ok {E : Ac} {L : List Addr} {H : Hp} {k : Kd} {x : PV} {v : V} (h : takes k a s = true) (r : Rp E.B (av E L a s) H x v) : Kr E L H k x v [] := by
  cases k with
  | sh => rw [takes, Bool.and_eq_true] at h; exact ⟨rfl, by rw [h.1, h.2] at r; exact r⟩
  | bor => have h : s = true := h; subst h; exact ⟨rfl, r.anti fun c z => av_mono (a' := false) (s' := true) (fun z => nomatch z) (fun _ => rfl) z⟩
  | _ => cases h
theorem getElem?_kd {ks : List Kd} {i : Nat} {k : Kd} (h : ks[i]? = some k) : kd ks i = k := by unfold kd; simp [List.getD, h]
theorem qg_name {i : Nat} {k : Kd} (hg : PG X tg (gName i)) (hk : ks[i]? = some k := by rfl) (ht : takes k a s = true := by rfl) (hj : i ∈ js := by decide) : QG X ks a s js tg (pgName i) :=
  PGi hg fun v σ H Q ⟨E, L, γ, x, Qp, hK, R, r, hp, q⟩ => q _ _ hp (by
    have := R.set (i := i) (takes_ok ht r) (List.getElem?_eq_some_iff.mp hk).1
    rw [set_same hk] at this; exact this) (.set hj)
end
structure ItOk (E : Ac) (L : List Addr) (H : Hp) (a : Bool) (xs : List PV) (J : It) : Prop where
  ex : ∃ P : List Addr → Hp → Prop, P L H ∧ (∀ L H L' H', P L H → Fw E.B L H L' H' → P L' H') ∧
    (∀ i L H, P L H → i < xs.length → J.go i H ∧ ∀ v H', J.yld i H v H' → Ex E.B H H' ∧ ∃ x, xs[i]? = some x ∧ Rp E.B (av E L a true) H' x v) ∧ ∀ i L H, P L H → xs.length ≤ i → J.stop i H
def tI (K : Fg) (ks : List Kd) (a : Bool) (p : GA) : TI := fun σ H R => ∃ (E : Ac) (L : List Addr) (γ : G) (Qp : List PV → Prop), E.B.K = K ∧ Rel E L ks γ σ H ∧ p γ Qp ∧ ∀ xs J H', Qp xs → Ex E.B H H' → ItOk E L H' a xs J → R J H'
abbrev QI (X : Cx) (ks : List Kd) (a : Bool) (tg e : Expr) (p : GA) : Prop := PI X tg e (tI X.K ks a p)
section
variable {X : Cx} {ks : List Kd} {a s a1 a2 : Bool} {tg e e1 e2 : Expr} {es : List Expr} {p p1 p2 : GE} {pa : GA} {pos : Pos}
theorem PIi {t t' : TI} (h : PI X tg e t) (i : ∀ σ H R, t' σ H R → t σ H R) : PI X tg e t' := ⟨fun pins s σ H R I q => h.run pins s σ H R I (i _ _ _ q)⟩
def pItT (p : GE) : GA := fun γ Q => p γ fun x => match x with | .tup xs => Q xs | _ => False
def chars (z : Str) : List PV := z.cps.toList.map fun c => .str ⟨#[c]⟩
def pItS (p : GE) : GA := fun γ Q => p γ fun x => match x with | .str z => Q (chars z) | _ => False
def upTo (i : Int) (n : Nat) : List PV := (List.range n).map fun k => .int (i + (k : Nat))
def pRng (p : GE) : GA := fun γ Q => p γ fun x => match x with | .int j => (-(2 ^ 62) ≤ j ∧ j < 2 ^ 62) ∧ Q (upTo 0 j.toNat) | _ => False
/-- a list that is not changed meanwhile -/
def LstP (E : Ac) (a : Bool) (b : Addr) (xs : List PV) (vs : List V) : List Addr → Hp → Prop := fun L H => H b = some (.lst vs) ∧ b ∉ L ∧ b ≠ E.B.q ∧ RpL E.B (av E L a true) H xs vs
theorem LstP.fw {E : Ac} {a : Bool} {b : Addr} {xs : List PV} {vs : List V} {L L' : List Addr} {H H' : Hp} (h : LstP E a b xs vs L H) (f : Fw E.B L H L' H') : LstP E a b xs vs L' H' :=
  ⟨f.st _ _ h.1 h.2.1 h.2.2.1, fun z => (f.ls b z).elim h.2.1 (fun e => by rw [h.1] at e; cases e), h.2.2.1, h.2.2.2.fw f⟩
def TupP (E : Ac) (a : Bool) (b : Addr) (xs : List PV) (vs : List V) : List Addr → Hp → Prop := fun L H => STp E.B.K H b vs ∧ RpL E.B (av E L a true) H xs vs
theorem TupP.fw {E : Ac} {a : Bool} {b : Addr} {xs : List PV} {vs : List V} {L L' : List Addr} {H H' : Hp} (h : TupP E a b xs vs L H) (f : Fw E.B L H L' H') : TupP E a b xs vs L' H' :=
  ⟨h.1.elim (fun h => .inl (f.tp _ _ h)) .inr, h.2.fw f⟩
theorem qi_tup (h : QE X ks a true e p) : QI X ks a tg e (pItT p) :=
  PIi (pi_tup h) fun σ H R ⟨E, L, γ, Qp, hK, Rl, hp, k⟩ => by
    refine ⟨E, L, γ, _, hK, Rl, hp, fun x v H1 q1 x1 r1 => ?_⟩
    cases r1 <;> first | exact q1.elim | skip
    rename_i b vs xs h1 r
    refine ⟨b, rfl, ⟨vs, hK ▸ h1.sq⟩, k xs _ H1 q1 x1 ⟨TupP E a b xs vs, ⟨h1, r⟩, fun _ _ _ _ h f => h.fw f, fun i L H h hi => ?_, fun i L H h hi => ?_⟩⟩
    · obtain ⟨u, hu, ru⟩ := h.2.get (List.getElem?_eq_getElem hi)
      refine ⟨⟨vs, u, hK ▸ h.1.sq, hu⟩, fun v H' ⟨e1, e2⟩ => ?_⟩
      subst e1
      have := e2 vs (hK ▸ h.1.sq)
      rw [hu] at this; cases this
      exact ⟨.refl _ _, _, List.getElem?_eq_getElem hi, ru⟩
    · exact ⟨vs, hK ▸ h.1.sq, by rw [← h.2.length]; exact hi⟩
theorem qi_str (h : QE X ks a s e p) : QI X ks true tg e (pItS p) :=
  PIi (pi_str h) fun σ H R ⟨E, L, γ, Qp, hK, Rl, hp, k⟩ => by
    refine ⟨E, L, γ, _, hK, Rl, hp, fun x v H1 q1 x1 r1 => ?_⟩
    cases r1 <;> first | exact q1.elim | skip
    rename_i z
    have hl : (chars z).length = z.cps.size := by simp [chars]
    refine ⟨z, rfl, k _ _ H1 q1 x1 ⟨fun _ _ => True, trivial, fun _ _ _ _ _ _ => trivial, fun i L H _ hi => ⟨by show i < z.cps.size; omega, fun v H' ⟨e1, c, e2, e3⟩ => ?_⟩, fun i L H _ hi => by show z.cps.size ≤ i; omega⟩⟩
    subst e1; subst e3
    exact ⟨.refl _ _, .str ⟨#[c]⟩, by simp [chars, e2], .str _⟩
theorem qi_rng {q1 : Pos} (hg : Gl X "range") (hm : X.mg "range" = none) (h : QE X ks a s e p) (hs : starEach [e] X.env = [(false, eval e X.env)] := by rfl) : QI X ks true tg (.Call (.Name "range" q1) [e] [] pos) (pRng p) :=
  PIi (pi_range1 hg hm (pa_cons h pa_nil hs) hs) fun σ H R ⟨E, L, γ, Qp, hK, Rl, hp, k⟩ => by
    refine ⟨E, L, γ, _, hK, Rl, hp, fun x v H1 q1 x1 r1 => ?_⟩
    cases r1 <;> first | exact q1.elim | skip
    rename_i j
    have hl : (upTo 0 j.toNat).length = j.toNat := by simp [upTo]
    refine ⟨j, rfl, q1.1.1, q1.1.2, k _ _ H1 q1.2 x1 ⟨fun _ _ => True, trivial, fun _ _ _ _ _ _ => trivial, fun i L H _ hi => ⟨by show i < j.toNat; omega, fun v H' ⟨e1, e2⟩ => ?_⟩, fun i L H _ hi => by show j.toNat ≤ i; omega⟩⟩
    subst e1; subst e2
    exact ⟨.refl _ _, .int (0 + (i : Nat)), by simp [upTo, List.getElem?_map, List.getElem?_range (show i < j.toNat by omega)], .int _⟩
end
end Vl
namespace Vl
open PySem PySem.Spec L2 Lb
def pYes : GT := fun _ Q => Q true
def lcP (g : GG) (t : GT) (e : GE) (γ : G) : List PV → (List PV → Prop) → Prop
  | [], Q => Q []
  | x :: xs, Q => g x γ fun γ2 => t γ2 fun b => bfi b (e γ2 fun y => lcP g t e γ xs fun ys => Q (y :: ys)) (lcP g t e γ xs Q)
def pLc (vs : List Nat) (it : GA) (g : GG) (t : GT) (e : GE) : GE := fun γ Q => it γ fun xs => xs.length ≤ sizeLine ∧ lcP g t e (wipeG γ vs) xs fun ys => Q (.lst ys)
section
variable {X : Cx} {ks : List Kd} {a s a1 a2 : Bool} {tg e : Expr} {ifs : List Expr} {p : GE} {pa : GA} {g : GG} {pt : GT} {pos : Pos} {js vs : List Nat}
abbrev QTs (X : Cx) (ks : List Kd) (ifs : List Expr) (p : GT) : Prop := PTs X ifs (tT X.K ks p)
theorem qts_nil : QTs X ks [] pYes := ⟨fun pins s σ H Q I ⟨E, L, γ, Qp, hK, R, hp, k⟩ => pts_nil.run pins s σ H Q I (k true H hp (.refl _ _))⟩
theorem qts_one (h : QT X ks e pt) : QTs X ks [e] pt := pts_one h
/-- a new object's address joins the own ones -/
theorem Rel.more {E : Ac} {L : List Addr} {γ : G} {σ : St} {H H' : Hp} {D : Addr} (R : Rel E L ks γ σ H) (x : Ex E.B H H') (n : H D = none) (m : H' D ≠ none) : Rel E (D :: L) ks γ σ H' where
  old := (R.ex x).old
  onn := (R.ex x).onn
  bag := (R.ex x).bag
  a0 := R.a0
  aq := R.aq
  ar := R.ar
  lf := fun a h => by
    rcases List.mem_cons.mp h with rfl | h
    · refine ⟨?_, m⟩
      cases q : E.H0 a with
      | none => rfl
      | some o => exact absurd n (R.onn a (by rw [q]; exact nofun))
    · exact ⟨(R.lf a h).1, x.nn a (R.lf a h).2⟩
  len := R.len
  sl := by
    obtain ⟨O, h1, h2, h3, h4⟩ := R.sl
    refine ⟨O, fun i y hx => ?_, fun i a m => List.mem_cons_of_mem _ (h2 i a m), h3, h4⟩
    obtain ⟨v, hv, k⟩ := h1 i y hx
    exact ⟨v, hv, k.mv (fun a u e n _ => x.st a u e n) x.tp (fun a m => (List.mem_cons.mp m).elim (fun z => .inr (by rw [z]; exact n)) .inl) fun a m u e => x.st a u e (R.lq (h2 i a m))⟩
theorem Fw.more {B : Bg} {L : List Addr} {H H' : Hp} {D : Addr} (x : Ex B H H') (n : H D = none) : Fw B L H (D :: L) H' where
  st := fun a u e _ m => x.st a u e m
  tp := x.tp
  nn := x.nn
  ls := fun a m => (List.mem_cons.mp m).elim (fun z => .inr (by rw [z]; exact n)) .inl
theorem Ex.inner {B : Bg} {H H' : Hp} {D : Addr} {o : HO} (x : Ex B H H') (n : H D = none) (b : BagOk B H) : Ex B H (upd H' D o) := by
  have k : ∀ a u, H a = some u → a ≠ D := fun a u e => ne_of_none e n
  refine ⟨fun a u e m => by rw [upd_ne (k a u e)]; exact x.st a u e m, fun a u e => by rw [upd_ne (k a _ e)]; exact x.tp a u e, fun a h => ?_, fun _ => ?_⟩
  · by_cases z : a = D
    · rw [z, upd_same]; exact nofun
    · rw [upd_ne z]; exact x.nn a h
  · have hb := x.bg b
    obtain ⟨_, _, _, _, h1, h2, _⟩ := b
    exact hb.stay (fun u e => by rw [upd_ne (k _ _ h1)]; exact e) fun u e => by rw [upd_ne (k _ _ h2)]; exact e
theorem RpL.inner {E : Ac} {L : List Addr} {a : Bool} {H : Hp} {D : Addr} {o : HO} {x : List PV} {v : List V} (h : RpL E.B (av E (D :: L) a true) H x v) (nt : ∀ vs, H D ≠ some (.tup vs)) : RpL E.B (av E (D :: L) a true) (upd H D o) x v :=
  h.mv (fun b u e n => by rw [upd_ne (fun z => n (.inr (.inr ⟨rfl, by rw [z]; simp⟩)))]; exact e) (fun b u e => by rw [upd_ne (fun z => nt u (by rw [← z]; exact e))]; exact e) fun _ z _ => z
theorem Rp.inner {E : Ac} {L : List Addr} {a : Bool} {H : Hp} {D : Addr} {o : HO} {x : PV} {v : V} (h : Rp E.B (av E (D :: L) a true) H x v) (nt : ∀ vs, H D ≠ some (.tup vs)) : Rp E.B (av E (D :: L) a true) (upd H D o) x v :=
  h.mv (fun b u e n => by rw [upd_ne (fun z => n (.inr (.inr ⟨rfl, by rw [z]; simp⟩)))]; exact e) (fun b u e => by rw [upd_ne (fun z => nt u (by rw [← z]; exact e))]; exact e) fun _ z _ => z
/-- the loop of a list comprehension by plain values -/
theorem lc_ok {E : Ac} {L : List Addr} {γ : G} {σ : St} {H : Hp} {Q : VK} {Qp : PV → Prop} (hK : E.B.K = X.K) (R : Rel E L ks γ σ H) (hp : pLc vs pa g pt p γ Qp) (hj : ∀ j ∈ js, j ∈ vs)
    (k : ∀ ys acc D H', Qp (.lst ys) → Ex E.B H H' → H D = none → H' D = some (.lst acc) → RpL E.B (av E (D :: L) a true) H' ys acc → Q (.ref D) H') :
    tLc (tI X.K ks a1 pa) (tG X.K ks a1 true js g) (tT X.K ks pt) (tE X.K ks a true p) vs σ H Q := by
  refine ⟨E, L, γ, _, hK, R, hp, fun xs J H1 ⟨hz, hq⟩ x1 ⟨P, p0, pf, pg, ps⟩ D nD => ?_⟩
  have R1 := R.ex x1
  have nH : H D = none := x1.free nD
  refine ⟨fun i m H => m = xs.length - i ∧ ∃ acc ys Qk, Ex E.B H1 H ∧ H D = some (.lst acc) ∧ RpL E.B (av E (D :: L) a true) H ys acc ∧ ys.length ≤ i ∧ lcP g pt p (wipeG γ vs) (xs.drop i) Qk ∧ ∀ zs, Qk zs → Qp (.lst (ys ++ zs)), ⟨_, rfl, [], [], _, .new nD, upd_same, .nil, by simp, hq, fun zs q => q⟩, ?_⟩
  rintro i m H2 ⟨rfl, acc, ys, Qk, x2, hD, ra, hl, hk, hQ⟩
  have Rm : Rel E (D :: L) ks γ σ H2 := R1.more x2 nD (by rw [hD]; exact nofun)
  have f2 : Fw E.B L H1 (D :: L) H2 := .more x2 nD
  by_cases hi : i < xs.length
  · right
    obtain ⟨go, yl⟩ := pg i (D :: L) H2 (pf _ _ _ _ p0 f2) hi
    refine ⟨go, fun H' => ∃ m', m' < xs.length - i ∧ (m' = xs.length - (i + 1) ∧ ∃ acc ys Qk, Ex E.B H1 H' ∧ H' D = some (.lst acc) ∧ RpL E.B (av E (D :: L) a true) H' ys acc ∧ ys.length ≤ i + 1 ∧ lcP g pt p (wipeG γ vs) (xs.drop (i + 1)) Qk ∧ ∀ zs, Qk zs → Qp (.lst (ys ++ zs))), fun H' h => h, fun v H3 hy => ?_⟩
    obtain ⟨x3, y, hy, ry⟩ := yl v H3 hy
    have hd : xs.drop i = y :: xs.drop (i + 1) := by
      rw [List.drop_eq_getElem_cons hi]
      rw [List.getElem?_eq_getElem hi] at hy; cases hy; rfl
    rw [hd] at hk
    have R3 := (Rm.ex x3).wipe vs
    refine ⟨E, D :: L, wipeG γ vs, y, _, hK, R3, ry, hk, fun γ2 σ2 q2 R4 ss => ⟨ss.wipe hj, E, D :: L, γ2, _, hK, R4, q2, fun b H4 q4 x4 => ?_⟩⟩
    have hDl : D ∈ D :: L := by simp
    cases b with
    | false =>
      refine ⟨_, by omega, rfl, acc, ys, Qk, x2.trans (x3.trans x4), x4.st _ _ (x3.st _ _ hD (Rm.lq hDl)) (Rm.lq hDl), (ra.ex x3 av_q).ex x4 av_q, by omega, q4, hQ⟩
    | true =>
      show if true = true then _ else _
      rw [if_pos rfl]
      refine ⟨E, D :: L, γ2, _, hK, R4.ex x4, q4, fun z t H5 q5 x5 r5 => ?_⟩
      have x6 := x3.trans (x4.trans x5)
      have hD5 := x6.st _ _ hD (Rm.lq hDl)
      have nt : ∀ vs, H5 D ≠ some (.tup vs) := fun vs => by rw [hD5]; exact nofun
      have ra5 := ra.ex x6 av_q
      refine ⟨acc, hD5, by rw [← ra.length]; omega, _, by omega, rfl, acc ++ [t], ys ++ [z], _, (x2.trans x6).inner nD R1.bag, upd_same, (ra5.inner nt).append (.cons (r5.inner nt) .nil), by simp; omega, q5, fun zs q => by simpa using hQ _ q⟩
  · left
    have hi := Nat.not_lt.mp hi
    refine ⟨ps i (D :: L) H2 (pf _ _ _ _ p0 f2) hi, ?_⟩
    rw [List.drop_eq_nil_of_le hi] at hk
    exact k ys acc D H2 (by simpa using hQ [] hk) (x1.trans x2) nH hD ra
theorem av_cons {E : Ac} {L : List Addr} {a s : Bool} {D c : Addr} (h : av E L a s c) : av E (D :: L) a s c := by
  rcases h with h | h | ⟨h, m⟩
  · exact .inl h
  · exact .inr (.inl h)
  · exact .inr (.inr ⟨h, List.mem_cons_of_mem _ m⟩)
theorem qe_lc {elt iter : Expr} {scope : Scope} {own : List (Str × Nat)} (pe : ∀ {wi : TI} {g : TG} {tt : TT} {te : TE}, PI X tg iter wi → (∀ (s : Shared) (H : Hp) (C : Addr) (cl : List (Str × Addr)) (fp : List Addr), PG (X.blk s H scope (compEnvC scope cl C X.env) fp) tg g) →
      (∀ (s : Shared) (H : Hp) (C : Addr) (cl : List (Str × Addr)) (fp : List Addr), PTs (X.blk s H scope (compEnvC scope cl C X.env) fp) ifs tt) → (∀ (s : Shared) (H : Hp) (C : Addr) (cl : List (Str × Addr)) (fp : List Addr), PE (X.blk s H scope (compEnvC scope cl C X.env) fp) elt te) → PE X e (tLc wi g tt te (own.map (·.2))))
    (hi : QI X ks a1 tg iter pa) (hg : ∀ (s : Shared) (H : Hp) (C : Addr) (cl : List (Str × Addr)) (fp : List Addr), QG (X.blk s H scope (compEnvC scope cl C X.env) fp) ks a1 true (own.map (·.2)) tg g)
    (ht : ∀ (s : Shared) (H : Hp) (C : Addr) (cl : List (Str × Addr)) (fp : List Addr), QTs (X.blk s H scope (compEnvC scope cl C X.env) fp) ks ifs pt) (he : ∀ (s : Shared) (H : Hp) (C : Addr) (cl : List (Str × Addr)) (fp : List Addr), QE (X.blk s H scope (compEnvC scope cl C X.env) fp) ks a true elt p) :
    QE X ks a true e (pLc (own.map (·.2)) pa g pt p) :=
  PEi (pe hi hg ht he) fun σ H Q ⟨E, L, γ, Qp, hK, R, hp, k⟩ => lc_ok hK R hp (fun _ h => h) fun ys acc D H' q x n h r => k _ _ H' q x (.lst (fun z => av_nn R z n) h (r.anti fun c z => av_cons z))
end
end Vl
namespace Vl
open PySem PySem.Spec L2 Lb
def pNext : GS := fun D γ => D.nx γ
def pSeq (p q : GS) : GS := fun D γ => p { D with nx := q D } γ
def pRet (e : GE) : GS := fun D γ => e γ fun x => D.rt x γ
def pIf (t : GT) (p q : GS) : GS := fun D γ => t γ fun b => bfi b (p D γ) (q D γ)
def pSet (i : Nat) (e : GE) : GS := fun D γ => e γ fun x => D.nx (γ.set i (some x))
def forP (g : GG) (b : GS) (D : GD) : List PV → G → Prop
  | [], γ => D.nx γ
  | x :: xs, γ => g x γ fun γ1 => b { D with nx := forP g b D xs, ct := forP g b D xs, bk := D.nx } γ1
def pFor (it : GA) (g : GG) (b : GS) : GS := fun D γ => it γ fun xs => forP g b D xs γ
def pApp (i : Nat) (e : GE) : GS := fun D γ => getS γ i fun x => match x with | .lst xs => e γ fun y => xs.length < sizeLine ∧ D.nx (γ.set i (some (.lst (xs ++ [y])))) | _ => False
def pSetIx (i : Nat) (k e : GE) : GS := fun D γ => e γ fun y => getS γ i fun x => k γ fun n => match x, n with
  | .lst xs, .int n => (match ixN xs.length n with | some j => D.nx (γ.set i (some (.lst (xs.set j y)))) | none => False)
  | _, _ => False
section
variable {X : Cx} {ks ks' ks1 kl : List Kd} {a s a1 s1 a2 s2 : Bool} {e e1 e2 tg : Expr} {es : List Expr} {st : Stmt} {sts sts' : List Stmt} {p p1 p2 : GE} {pa : GA} {pt : GT} {ps q : GS} {g g' : GG} {pos : Pos} {js js' : List Nat}
theorem qb_nil : QB X ks ks kl [] pNext := PSsi pss_nil fun D σ H ⟨E, L, γ, Dp, hK, R, hp, nx, rt, bk, ct⟩ => nx L γ σ H (.refl _ _ _) R hp
theorem qb_one (h : QS X ks ks' kl st ps) : QB X ks ks' kl [st] ps := pss_one h
theorem qb_cons (h1 : QS X ks ks1 kl st ps) (h2 : QB X ks1 ks' kl sts q) : QB X ks ks' kl (st :: sts) (pSeq ps q) :=
  PSsi (pss_cons h1 h2) fun D σ H ⟨E, L, γ, Dp, hK, R, hp, nx, rt, bk, ct⟩ =>
    ⟨E, L, γ, { Dp with nx := q Dp }, hK, R, hp, fun L1 γ1 σ1 H1 f1 R1 q1 => ⟨E, L1, γ1, Dp, hK, R1, q1, fun L2 γ2 σ2 H2 f2 R2 q2 => nx L2 γ2 σ2 H2 (f1.trans f2) R2 q2, rt, fun L2 γ2 σ2 H2 f2 R2 q2 => bk L2 γ2 σ2 H2 (f1.trans f2) R2 q2, fun L2 γ2 σ2 H2 f2 R2 q2 => ct L2 γ2 σ2 H2 (f1.trans f2) R2 q2⟩, rt, bk, ct⟩
/-- a block that never ends behind its last statement may stand for any kinds -/
theorem qs_ret (h : QE X ks true s e p) : QS X ks ks' kl (.Return (some e) pos) (pRet p) :=
  PSi (ps_ret h) fun D σ H ⟨E, L, γ, Dp, hK, R, hp, nx, rt, bk, ct⟩ => ⟨E, L, γ, _, hK, R, hp, fun x v H1 q1 x1 r1 =>
    rt x γ v H1 ⟨r1.anti fun c z => .inr (.inl ⟨rfl, z⟩), (R.ex x1).old, (R.ex x1).onn, (R.ex x1).bag⟩ q1⟩
theorem qs_if (ht : QT X ks e pt) (h1 : QB X ks ks' kl sts ps) (h2 : QB X ks ks' kl sts' q) : QS X ks ks' kl (.If e sts sts' pos) (pIf pt ps q) :=
  PSi (ps_if ht h1 h2) fun D σ H ⟨E, L, γ, Dp, hK, R, hp, nx, rt, bk, ct⟩ => by
    refine ⟨E, L, γ, _, hK, R, hp, fun b H1 q1 x1 => ?_⟩
    have f : ∀ {L' H'}, Fw E.B L H1 L' H' → Fw E.B L H L' H' := fun f => Fw.trans x1.fw f
    cases b with
    | true => show if true = true then _ else _; rw [if_pos rfl]; exact ⟨E, L, γ, Dp, hK, R.ex x1, q1, fun L2 γ2 σ2 H2 f2 R2 q2 => nx L2 γ2 σ2 H2 (f f2) R2 q2, rt, fun L2 γ2 σ2 H2 f2 R2 q2 => bk L2 γ2 σ2 H2 (f f2) R2 q2, fun L2 γ2 σ2 H2 f2 R2 q2 => ct L2 γ2 σ2 H2 (f f2) R2 q2⟩
    | false => exact ⟨E, L, γ, Dp, hK, R.ex x1, q1, fun L2 γ2 σ2 H2 f2 R2 q2 => nx L2 γ2 σ2 H2 (f f2) R2 q2, rt, fun L2 γ2 σ2 H2 f2 R2 q2 => bk L2 γ2 σ2 H2 (f f2) R2 q2, fun L2 γ2 σ2 H2 f2 R2 q2 => ct L2 γ2 σ2 H2 (f f2) R2 q2⟩
/-- x = e -/
theorem qs_setG {i : Nat} {k : Kd} (pe : ∀ {t : TE}, PE X e t → PS X st (tAsg t (gName i))) (h : QE X ks a s e p) (hk : ks[i]? = some k := by rfl) (ht : takes k a s = true := by rfl) : QS X ks ks kl st (pSet i p) :=
  PSi (pe h) fun D σ H ⟨E, L, γ, Dp, hK, R, hp, nx, rt, bk, ct⟩ => ⟨E, L, γ, _, hK, R, hp, fun x v H1 q1 x1 r1 => nx L _ _ H1 x1.fw (by
    have := (R.ex x1).set (i := i) (takes_ok ht r1) (List.getElem?_eq_some_iff.mp hk).1
    rw [set_same hk] at this; exact this) q1⟩
/-- x = a new list or dict of one's own -/
theorem qs_setN {i : Nat} (pe : ∀ {t : TE}, PE X e t → PS X st (tAsg t (gName i))) (h : QN X ks e p) (hi : i < ks.length := by decide) : QS X ks (ks.set i .own) kl st (pSet i p) :=
  PSi (pe h) fun D σ H ⟨E, L, γ, Dp, hK, R, hp, nx, rt, bk, ct⟩ => ⟨E, L, γ, _, hK, R, hp, fun x b H1 q1 x1 nb ob => by
    have hb : H1 b ≠ none := by cases x <;> first | exact (ob : False).elim | (obtain ⟨_, h, _⟩ := ob; rw [h]; exact nofun) | (obtain ⟨_, _, h, _⟩ := ob; rw [h]; exact nofun)
    have R1 := R.more x1 nb hb
    have nL : b ∉ L := fun z => (R.lf b z).2 nb
    refine nx (b :: L) _ _ H1 (.more x1 nb) (R.put (i := i) (k := .own) (x := x) (v := .ref b) (O' := [b]) (.more x1 nb) (fun c m _ o e => x1.st c o e (R.lq m)) R1.old R1.bag (fun c h => (List.mem_cons.mp h).elim (fun z => .inr (by rw [z]; exact (R1.lf b (by simp)).1)) .inl) (fun a h => (R1.lf a h).2) (fun _ h => List.mem_cons_of_mem _ h) ⟨b, rfl, rfl, ?_⟩ (fun c m => by simp at m; simp [m]) (by simp) ?_ hi) q1
    · exact ob.mv (fun _ _ h _ => h) (fun _ _ h => h) (fun c z _ => by
        rcases z with z | z | ⟨_, z⟩
        · exact .inl (.inl z)
        · exact .inl (.inr (.inl z))
        · exact (List.mem_cons.mp z).elim .inr fun z => .inl (.inr (.inr ⟨rfl, z⟩))) fun _ h => h
    · intro O h2 h3 h1 j c hj hc m
      simp at hc; subst hc
      exact nL (h2 j c m)⟩
theorem qs_for {iter : Expr} (pe : ∀ {wi : TI} {g : TG} {tb : TS}, PI X tg iter wi → PG X tg g → PSs X sts tb → PS X st (tFor wi g tb)) (hi : QI X ks a tg iter pa) (hg : QG X ks a true js tg g) (hb : QB X ks ks ks sts ps) : QS X ks ks kl st (pFor pa g ps) :=
  PSi (pe hi hg hb) fun D σ H ⟨E, L, γ, Dp, hK, R, hp, nx, rt, bk, ct⟩ => by
    refine ⟨E, L, γ, _, hK, R, hp, fun xs J H1 hq x1 ⟨P, p0, pf, pg, pst⟩ => ?_⟩
    refine ⟨fun i m σ H2 => m = xs.length - i ∧ ∃ L' γ', Fw E.B L H1 L' H2 ∧ Rel E L' ks γ' σ H2 ∧ forP g ps Dp (xs.drop i) γ', ⟨_, rfl, L, γ, .refl _ _ _, R.ex x1, hq⟩, ?_⟩
    rintro i m σ2 H2 ⟨rfl, L2, γ2, f2, R2, h2⟩
    by_cases hi : i < xs.length
    · right
      obtain ⟨go, yl⟩ := pg i L2 H2 (pf _ _ _ _ p0 f2) hi
      refine ⟨go, fun σ' H' => ∃ m', m' < xs.length - i ∧ (m' = xs.length - (i + 1) ∧ ∃ L' γ', Fw E.B L H1 L' H' ∧ Rel E L' ks γ' σ' H' ∧ forP g ps Dp (xs.drop (i + 1)) γ'), fun _ _ h => h, fun v H3 hy => ?_⟩
      obtain ⟨x3, y, hy, ry⟩ := yl v H3 hy
      have hd : xs.drop i = y :: xs.drop (i + 1) := by
        rw [List.drop_eq_getElem_cons hi]
        rw [List.getElem?_eq_getElem hi] at hy; cases hy; rfl
      rw [hd] at h2
      refine ⟨E, L2, γ2, y, _, hK, R2.ex x3, ry, h2, fun γ3 σ3 q3 R3 _ => ⟨E, L2, γ3, _, hK, R3, q3, ?_, rt, ?_, ?_⟩⟩
      · intro L4 γ4 σ4 H4 f4 R4 q4
        exact ⟨_, by omega, rfl, L4, γ4, f2.trans (Fw.trans x3.fw f4), R4, q4⟩
      · intro L4 γ4 σ4 H4 f4 R4 q4
        exact nx L4 γ4 σ4 H4 (Fw.trans x1.fw (f2.trans (Fw.trans x3.fw f4))) R4 q4
      · intro L4 γ4 σ4 H4 f4 R4 q4
        exact ⟨_, by omega, rfl, L4, γ4, f2.trans (Fw.trans x3.fw f4), R4, q4⟩
    · left
      have hi := Nat.not_lt.mp hi
      refine ⟨pst i L2 H2 (pf _ _ _ _ p0 f2) hi, ?_⟩
      rw [List.drop_eq_nil_of_le hi] at h2
      exact nx L2 γ2 σ2 H2 (Fw.trans x1.fw f2) R2 h2
theorem Ob.nt {B : Bg} {A : Addr → Prop} {H : Hp} {b : Addr} {x : PV} (h : Ob B A H b x) : ∀ vs, H b ≠ some (.tup vs) := fun vs z => by
  cases x <;> first | exact (h : False).elim | (obtain ⟨_, h, _⟩ := h; rw [h] at z; cases z) | (obtain ⟨_, _, h, _⟩ := h; rw [h] at z; cases z)
theorem Rp.upL {E : Ac} {L : List Addr} {c : Bool} {H : Hp} {D : Addr} {o : HO} {x : PV} {v : V} (h : Rp E.B (av E L c true) H x v) (m : D ∈ L) (nt : ∀ vs, H D ≠ some (.tup vs)) : Rp E.B (av E L c true) (upd H D o) x v :=
  h.mv (fun b u e n => by rw [upd_ne (fun z => n (.inr (.inr ⟨rfl, by rw [z]; exact m⟩)))]; exact e) (fun b u e => by rw [upd_ne (fun z => nt u (by rw [← z]; exact e))]; exact e) fun _ z _ => z
theorem RpL.upL {E : Ac} {L : List Addr} {c : Bool} {H : Hp} {D : Addr} {o : HO} {x : List PV} {v : List V} (h : RpL E.B (av E L c true) H x v) (m : D ∈ L) (nt : ∀ vs, H D ≠ some (.tup vs)) : RpL E.B (av E L c true) (upd H D o) x v :=
  h.mv (fun b u e n => by rw [upd_ne (fun z => n (.inr (.inr ⟨rfl, by rw [z]; exact m⟩)))]; exact e) (fun b u e => by rw [upd_ne (fun z => nt u (by rw [← z]; exact e))]; exact e) fun _ z _ => z
theorem set_self {α : Type} {l : List α} {i : Nat} {x : α} (h : l[i]? = some x) : l.set i x = l := by
  apply List.ext_getElem?
  intro j
  by_cases hj : i = j
  · subst hj; rw [List.getElem?_set_self (List.getElem?_eq_some_iff.mp h).1, h]
  · rw [List.getElem?_set_ne hj]
theorem Fw.upd {B : Bg} {L : List Addr} {H : Hp} {b : Addr} {o : HO} (m : b ∈ L) (nt : ∀ vs, H b ≠ some (.tup vs)) : Fw B L H L (L2.upd H b o) where
  st := fun c u e n _ => by rw [upd_ne (fun z => n (by rw [z]; exact m))]; exact e
  tp := fun c u e => by rw [upd_ne (fun z => nt u (by rw [← z]; exact e))]; exact e
  nn := fun c h => by
    by_cases z : c = b
    · rw [z, upd_same]; exact nofun
    · rw [upd_ne z]; exact h
  ls := fun c h => .inl h
/-- an own slot's object is changed -/
theorem Rel.upd1 {E : Ac} {L : List Addr} {γ : G} {σ : St} {H : Hp} {i : Nat} {x : PV} (R : Rel E L ks γ σ H) (hk : ks[i]? = some .own) (hx : γ[i]? = some (some x)) : ∃ b, σ[i]? = some (some (.ref b)) ∧ b ∈ L ∧ Ob E.B (av E L true true) H b x ∧
    ∀ o x', Ob E.B (av E L true true) (upd H b o) b x' → Rel E L ks (γ.set i (some x')) σ (upd H b o) := by
  obtain ⟨O, h1, h2, h3, h4⟩ := R.sl
  obtain ⟨v, hv, k⟩ := h1 i x hx
  rw [getElem?_kd hk] at k
  obtain ⟨b, rfl, ho, ob⟩ := k
  have hb : b ∈ L := h2 i b (by rw [ho]; simp)
  refine ⟨b, hv, hb, ob, fun o x' ob' => ?_⟩
  have hr : b ≠ E.B.r := fun z => R.ar (by rw [← z]; exact (R.lf b hb).1)
  have := R.put (i := i) (k := .own) (x := x') (v := .ref b) (O' := [b]) (.upd (o := o) hb ob.nt) (fun c m n u e => by rw [upd_ne (fun z => n (by simp [z]))]; exact e)
    (fun c u e n => by rw [upd_ne (fun z => by rw [z, (R.lf b hb).1] at e; cases e)]; exact R.old c u e n) (R.bag.stay (fun u e => by rw [upd_ne (R.lq hb).symm]; exact e) fun u e => by rw [upd_ne hr.symm]; exact e)
    (fun c m => .inl m) (fun c m => (Fw.upd (B := E.B) hb ob.nt).nn c (R.lf c m).2) (fun _ h => h) ⟨b, rfl, rfl, ob'⟩ (fun c m => by simp at m; rw [m]; exact hb) (by simp) (fun O' g2 g3 g1 j c hj hc m => by
      simp at hc; subst hc
      obtain ⟨w, hw, kw⟩ := g1 i x hx
      rw [hv] at hw; cases hw
      rw [getElem?_kd hk] at kw
      obtain ⟨d, e1, e2, _⟩ := kw
      cases e1
      exact hj (g3 j i c m (by rw [e2]; simp))) (List.getElem?_eq_some_iff.mp hk).1
  rw [set_same hk, set_self hv] at this
  exact this
theorem qs_app {i : Nat} (pe : ∀ {t : TE}, PE X e t → PS X st (tDrop (tBM X.K "list" rAppend (tVar i) (tCons t tNil)))) (h : QE X ks true true e p) (hk : ks[i]? = some .own := by rfl) : QS X ks ks kl st (pApp i p) :=
  PSi (pe h) fun D σ H ⟨E, L, γ, Dp, hK, R, hp, nx, rt, bk, ct⟩ => by
    obtain ⟨x, hx, q⟩ := getS_of hp
    obtain ⟨b, hv, hb, ob, _⟩ := R.upd1 hk hx
    cases x <;> first | exact (q : False).elim | skip
    rename_i xs
    obtain ⟨vs, h1, r1⟩ := ob
    refine ⟨.ref b, hv, .inl ⟨rfl, vs, .inl (.inl h1)⟩, E, L, γ, _, hK, R, q, fun y u H1 q1 x1 ry => ?_⟩
    have R1 := R.ex x1
    obtain ⟨b', hv', hb', ob', up⟩ := R1.upd1 hk hx
    rw [hv] at hv'; cases hv'
    obtain ⟨vs', h1', r1'⟩ := ob'
    have nt : ∀ vs, H1 b ≠ some (.tup vs) := fun z => by rw [h1']; exact nofun
    refine ⟨b, vs', u, rfl, rfl, h1', by rw [← r1'.length]; exact q1.1, nx L _ _ _ (Fw.trans x1.fw (.upd hb nt)) (up _ (.lst (xs ++ [y])) ⟨vs' ++ [u], upd_same, (r1'.upL hb nt).append (.cons (ry.upL hb nt) .nil)⟩) q1.2⟩
theorem qs_setIx {i : Nat} {e3 : Expr} {p3 : GE} (pe : ∀ {t t' : TE}, PE X e t → PE X e3 t' → PS X st (tAsg t (gSub (tVar i) t' rSetL))) (h : QE X ks true true e p) (h3 : QE X ks a s e3 p3) (hk : ks[i]? = some .own := by rfl) : QS X ks ks kl st (pSetIx i p3 p) :=
  PSi (pe h h3) fun D σ H ⟨E, L, γ, Dp, hK, R, hp, nx, rt, bk, ct⟩ => by
    refine ⟨E, L, γ, _, hK, R, hp, fun y u H1 q1 x1 ry => ?_⟩
    obtain ⟨x, hx, q⟩ := getS_of q1
    obtain ⟨b, hv, hb, -, -⟩ := (R.ex x1).upd1 hk hx
    refine ⟨.ref b, hv, E, L, γ, _, hK, R.ex x1, q, fun n w H2 q2 x2 rn => ?_⟩
    have R2 := (R.ex x1).ex x2
    obtain ⟨b', hv', hb', ob', up⟩ := R2.upd1 hk hx
    rw [hv] at hv'; cases hv'
    cases x <;> first | exact (q2 : False).elim | skip
    cases rn <;> first | exact (q2 : False).elim | skip
    rename_i xs i
    obtain ⟨vs, h1, r1⟩ := ob'
    have nt : ∀ vs, H2 b ≠ some (.tup vs) := fun z => by rw [h1]; exact nofun
    cases e : ixN xs.length i with
    | none => simp only [e] at q2
    | some j =>
      simp only [e] at q2
      refine ⟨b, vs, i, j, rfl, rfl, h1, by rw [← r1.length]; exact e, nx L _ _ _ (Fw.trans (x1.trans x2).fw (.upd hb nt)) (up _ (.lst (xs.set j y)) ⟨vs.set j u, upd_same, (r1.upL hb nt).set j ((ry.ex x2 av_q).upL hb nt)⟩) q2⟩
/-- an own list or dict is no more changed: it may be shared -/
theorem Rel.freeze {E : Ac} {L : List Addr} {γ : G} {σ : St} {H : Hp} {i : Nat} (R : Rel E L ks γ σ H) (hk : ks[i]? = some .own) : ∃ L', Fw E.B L H L' H ∧ Rel E L' (ks.set i .sh) γ σ H := by
  obtain ⟨O, h1, h2, h3, h4⟩ := R.sl
  refine ⟨L.filter (fun c => !decide (c ∈ O i)), ⟨fun c u e n m => e, fun _ _ h => h, fun _ h => h, fun c m => .inl (List.mem_filter.mp m).1⟩, ⟨R.old, R.onn, R.bag, R.a0, R.aq, R.ar, fun c m => R.lf c (List.mem_filter.mp m).1, R.len, ?_⟩⟩
  refine ⟨fun j => if j = i then [] else O j, fun j y hy => ?_, fun j c m => ?_, fun j j' c m m' => ?_, fun j => ?_⟩
  · obtain ⟨v, hv, k⟩ := h1 j y hy
    refine ⟨v, hv, ?_⟩
    have g : ∀ {bb : Bool} c, av E (L.filter (fun c => !decide (c ∈ O i))) bb true c → H c ≠ none → av E L bb true c := fun c z _ => by
      rcases z with z | z | ⟨_, z⟩
      · exact .inl z
      · exact .inr (.inl z)
      · exact .inr (.inr ⟨rfl, (List.mem_filter.mp z).1⟩)
    by_cases hj : j = i
    · subst hj
      show Kr E _ H _ _ _ (if j = j then [] else O j)
      rw [if_pos rfl]
      have e1 : kd (ks.set j .sh) j = .sh := by unfold kd; simp [List.getD, (List.getElem?_eq_some_iff.mp hk).1]
      rw [e1]
      rw [getElem?_kd hk] at k
      obtain ⟨b, rfl, ho, ob⟩ := k
      refine ⟨rfl, ?_⟩
      have n : ¬ av E (L.filter (fun c => !decide (c ∈ O j))) true true b := by
        rintro (z | ⟨_, z⟩ | ⟨_, z⟩)
        · exact R.lq (h2 j b (by rw [ho]; simp)) z
        · exact R.a0 b z (R.lf b (h2 j b (by rw [ho]; simp))).1
        · have := (List.mem_filter.mp z).2; rw [ho] at this; simp at this
      cases y with
      | lst xs => obtain ⟨vs, g1, g2⟩ := ob; exact .lst n g1 (g2.mv (fun _ _ h _ => h) (fun _ _ h => h) g)
      | dT kvs => obtain ⟨ws, g1, g2, g3⟩ := ob; exact .dT n g1 g2 rfl rfl rfl (g3.mv (fun _ _ h _ => h) (fun _ _ h => h) g)
      | dK kvs => obtain ⟨ws, g1, g2, g3⟩ := ob; exact .dK n g1 g2 rfl rfl rfl (g3.mv (fun _ _ h _ => h) (fun _ _ h => h) g)
      | ins c fs => obtain ⟨dx, ws, g1, g2, g3⟩ := ob; exact .ins n g1 g2 rfl (g3.mv (fun _ _ h _ => h) (fun _ _ h => h) g)
      | _ => exact ob.elim
    · show Kr E _ H _ _ _ (if j = i then [] else O j)
      rw [if_neg hj]
      have e1 : kd (ks.set i .sh) j = kd ks j := by unfold kd; simp [List.getD, List.getElem?_set_ne (fun z => hj z.symm)]
      rw [e1]
      exact k.mv (fun _ _ h _ _ => h) (fun _ _ h => h) (fun c m => .inl (List.mem_filter.mp m).1) fun _ _ _ h => h
  · by_cases hj : j = i
    · simp [hj] at m
    · simp only [if_neg hj] at m
      exact List.mem_filter.mpr ⟨h2 j c m, by simp; intro z; exact hj (h3 j i c m z)⟩
  · by_cases hj : j = i <;> by_cases hj' : j' = i
    · rw [hj, hj']
    · simp [hj] at m
    · simp [hj'] at m'
    · simp only [if_neg hj, if_neg hj'] at m m'; exact h3 j j' c m m'
  · by_cases hj : j = i
    · simp [hj]
    · simp only [if_neg hj]; exact h4 j
theorem qb_frz (i : Nat) (h : QB X (ks.set i .sh) ks' kl sts q) (hk : ks[i]? = some .own := by rfl) : QB X ks ks' kl sts q :=
  PSsi h fun D σ H ⟨E, L, γ, Dp, hK, R, hp, nx, rt, bk, ct⟩ => by
    obtain ⟨L1, f1, R1⟩ := R.freeze hk
    exact ⟨E, L1, γ, Dp, hK, R1, hp, fun L2 γ2 σ2 H2 f2 R2 q2 => nx L2 γ2 σ2 H2 (f1.trans f2) R2 q2, rt, fun L2 γ2 σ2 H2 f2 R2 q2 => bk L2 γ2 σ2 H2 (f1.trans f2) R2 q2, fun L2 γ2 σ2 H2 f2 R2 q2 => ct L2 γ2 σ2 H2 (f1.trans f2) R2 q2⟩
end
end Vl
namespace Vl
open PySem PySem.Spec L2 Lb
abbrev PW := List PV → (PV → Prop) → Prop
/-- .. : all that it tells is new, whatever was handed in -/
def spF (n : Nat) (w : Vl.PW) (K : Fg) : Sp := fun vs H Q _ => ∃ (q r : Addr) (xs : List PV) (Qp : PV → Prop), vs.length = n ∧ BagOk ⟨K, q, r⟩ H ∧ RpL ⟨K, q, r⟩ (fun a => a = q) H xs vs ∧ w xs Qp ∧
  ∀ x v H', Qp x → Ex ⟨K, q, r⟩ H H' → Rp ⟨K, q, r⟩ (fun a => H a ≠ none) H' x v → Q v H'
def startG (N : Nat) (xs : List PV) : G := xs.map some ++ List.replicate (N - xs.length) none
def wF (N : Nat) (p : GS) : Vl.PW := fun xs Q => p ⟨fun _ => Q .non, fun x _ => Q x, fun _ => False, fun _ => False⟩ (startG N xs)
theorem start_get {N : List Str} {xs : List PV} {i : Nat} {x : PV} (h : (startG N.length xs)[i]? = some (some x)) : xs[i]? = some x := by
  unfold startG at h
  by_cases hi : i < xs.length
  · rw [List.getElem?_append_left (by simpa using hi), List.getElem?_map] at h
    cases e : xs[i]? with
    | none => rw [e] at h; cases h
    | some y => rw [e] at h; simp at h; rw [h]
  · rw [List.getElem?_append_right (by simpa using hi)] at h
    have := List.mem_of_getElem? h
    simp at this
theorem start_at {N : List Str} {vs : List V} {i : Nat} {v : V} (h : vs[i]? = some v) : (start N vs)[i]? = some (some v) := by
  unfold L2.start
  rw [List.getElem?_append_left (by simpa using (List.getElem?_eq_some_iff.mp h).1), List.getElem?_map, h]; rfl
theorem start_len {N : List Str} {xs : List PV} {vs : List V} (h : xs.length = vs.length) : (startG N.length xs).length = (start N vs).length := by
  simp [startG, L2.start, h]
theorem rel_startF {B : Bg} {H : Hp} {N : List Str} {xs : List PV} {vs : List V} {ks : List Kd} (bg : BagOk B H) (r : RpL B (fun a => a = B.q) H xs vs) (hk : ∀ i, i < xs.length → kd ks i = .bor) (me : Addr) : Rel ⟨B, fun a => H a ≠ none, H, me⟩ [] ks (startG N.length xs) (start N vs) H where
  old := fun _ _ h _ => h
  onn := fun _ h => h
  bag := bg
  a0 := fun _ h => h
  aq := bg.q
  ar := by obtain ⟨_, _, _, _, _, h, _⟩ := bg; show H B.r ≠ none; rw [h]; exact nofun
  lf := fun _ h => nomatch h
  len := start_len r.length
  sl := by
    refine ⟨fun _ => [], fun i x h => ?_, by simp, by simp, by simp⟩
    have h1 := start_get h
    obtain ⟨v, hv, rv⟩ := r.get h1
    refine ⟨v, start_at hv, ?_⟩
    rw [hk i (List.getElem?_eq_some_iff.mp h1).1]
    exact ⟨rfl, rv.anti fun c z => by
      rcases z with z | ⟨z, _⟩ | ⟨_, z⟩
      · exact z
      · cases z
      · cases z⟩
theorem ex_of {B : Bg} {H H' : Hp} (bg : BagOk B H) (old : ∀ a o, H a = some o → a ≠ B.q → H' a = some o) (onn : ∀ a, H a ≠ none → H' a ≠ none) (bg' : BagOk B H') : Ex B H H' :=
  ⟨old, fun a vs h => old a _ h (fun z => by obtain ⟨_, _, _, _, hq, _⟩ := bg; rw [z, hq] at h; cases h), onn, fun _ => bg'⟩
theorem ksh {ks : List Kd} {n : Nat} {k : Kd} (h : (ks.take n).all (fun x => decide (x = k)) = true) (hn : n ≤ ks.length) : ∀ i, i < n → kd ks i = k := fun i hi => by
  have h1 : (ks.take n)[i]? = ks[i]? := by rw [List.getElem?_take, if_pos hi]
  have h2 : i < ks.length := by omega
  have := List.all_eq_true.mp h (ks[i]) (List.mem_of_getElem? (i := i) (by rw [h1, List.getElem?_eq_getElem h2]))
  unfold kd; simp [List.getD, List.getElem?_eq_getElem h2]; simpa using this
section
variable {X : Cx} {N : List Str} {ks ks' kl : List Kd} {sts : List Stmt} {p : GS} {n c : Nat} {vs : List V} {H : Hp} {Q : VK} {E : XK}
theorem body_F (h : QB X ks ks' kl sts p) (hk : (ks.take n).all (fun x => decide (x = Kd.bor)) = true) (hn : n ≤ ks.length) (hs : spF n (wF N.length p) X.K vs H Q E) : ∃ t, PSs X sts t ∧ t { nx := fun _ H' => Q .non H', rt := Q } (start N vs) H := by
  obtain ⟨q, r, xs, Qp, hl, bg, rx, w, k⟩ := hs
  refine ⟨_, h, ⟨⟨X.K, q, r⟩, fun a => H a ≠ none, H, 0⟩, [], startG N.length xs, _, rfl, rel_startF bg rx (fun i hi => ksh hk hn i (by rw [rx.length, hl] at hi; exact hi)) 0, w, ?_, ?_, fun _ _ _ _ _ _ z => z.elim, fun _ _ _ _ _ _ z => z.elim⟩
  · intro L' γ' σ' H' _ R q1
    exact k .non .non H' q1 (ex_of bg R.old R.onn R.bag) .non
  · intro x γ' v H' ⟨r1, r2, r3, r4⟩ q1
    exact k x v H' q1 (ex_of bg r2 r3 r4) r1
theorem len_F {w : Vl.PW} {K : Fg} (h : spF n w K vs H Q E) : vs.length = n := by obtain ⟨_, _, _, _, h, _⟩ := h; exact h
end
def pCall (w : Vl.PW) (ds : List PV) (t : GA) : GE := fun γ Q => t γ fun xs => w (xs ++ ds) Q
section
variable {X : Cx} {ks : List Kd} {a s a1 s1 a2 s2 : Bool} {e o : Expr} {es : List Expr} {kws : List Keyword} {p : GE} {pa pk : GA} {pos : Pos} {n c m : Nat} {w : Vl.PW} {ds : List PV} {dvs : List V} {x : Str} {sp : Sp} {t : TE} {f : Str}
/-- values that stand whatever the heap: defaults -/
def Dfl (K : Fg) (ds : List PV) (dvs : List V) : Prop := ∀ q r A H, RpL ⟨K, q, r⟩ A H ds dvs
theorem dfl_nil {K : Fg} : Dfl K [] [] := fun _ _ _ _ => .nil
theorem Dfl.b {K : Fg} (h : Dfl K ds dvs) {B : Bg} (hK : B.K = K) (A : Addr → Prop) (H : Hp) : RpL B A H ds dvs := by subst hK; exact h _ _ _ _
theorem call_F {E : Ac} {L : List Addr} {γ : G} {σ : St} {H : Hp} {Q : VK} {XE : XK} {Qp : PV → Prop} {xs : List PV} {vs : List V} (hK : E.B.K = X.K) (R : Rel E L ks γ σ H) (r : RpL E.B (av E L a s) H xs vs) (hl : vs.length = n) (hw : w xs Qp)
    (k : ∀ z t H', Qp z → Ex E.B H H' → Rp E.B (av E L true true) H' z t → Q t H') : spF n w X.K vs H Q XE := by
  obtain ⟨⟨K, q, r0⟩, A0, H0, me⟩ := E
  cases hK
  exact ⟨q, r0, xs, Qp, hl, R.bag, r.q, hw, fun z t H' qz x rz => k z t H' qz x (rz.anti fun b z => av_nn R z)⟩
theorem qe_callF {ps : List Str} (pe : ∀ {t : TA}, PA X es t → PE X e (tCall (spF n w X.K) dvs E0 t)) (hd : Dfl X.K ds dvs) (h : QA X ks a s es pa) (hn : es.length + dvs.length = n := by rfl) : QE X ks true true e (pCall w ds pa) :=
  PEi (pe h) fun σ H Q ⟨E, L, γ, Qp, hK, R, hp, k⟩ => by
    refine ⟨E, L, γ, _, hK, R, hp, fun xs vs H1 q1 x1 r1 l1 => ?_⟩
    exact call_F hK (R.ex x1) (r1.append (hd.b hK _ _)) (by rw [List.length_append, ← r1.length, l1]; exact hn) q1 fun z t H' qz x2 rz => k z t H' qz (x1.trans x2) rz
end
end Vl
namespace Vl
open PySem PySem.Spec L2 Lb
section
variable {X : Cx} {ks ks' kl : List Kd} {a s a1 s1 a2 s2 a3 s3 : Bool} {e e1 e2 e3 tg : Expr} {es : List Expr} {st : Stmt} {sts sts' : List Stmt} {p p1 p2 p3 : GE} {pa pb : GA} {pt : GT} {ps q : GS} {g g' : GG} {pos : Pos} {js js' : List Nat}
theorem qe_add (h1 : QE X ks a1 s1 e1 p1) (h2 : QE X ks a2 s2 e2 p2) (ha : a = (a1 && a2) := by rfl) (hb : s = (s1 && s2) := by rfl) : QE X ks a s (.BinOp e1 .Add e2 pos) (pOp oAdd p1 p2) := by
  subst ha hb
  exact qe_op2 add_ok (pe_op op_addV) h1 h2
theorem qe_mul (h1 : QE X ks a1 s1 e1 p1) (h2 : QE X ks a2 s2 e2 p2) (ha : a = (a1 && a2) := by rfl) (hb : s = (s1 && s2) := by rfl) : QE X ks a s (.BinOp e1 .Mult e2 pos) (pOp oMul p1 p2) := by
  subst ha hb
  exact qe_op2 mul_ok (pe_op op_mulV) h1 h2
theorem qe_sub (h1 : QE X ks a1 s1 e1 p1) (h2 : QE X ks a2 s2 e2 p2) : QE X ks true true (.BinOp e1 .Sub e2 pos) (pOp oSub p1 p2) := qe_opS sub_ok (pe_op op_subA) h1 h2
theorem qe_mod (h1 : QE X ks a1 s1 e1 p1) (h2 : QE X ks a2 s2 e2 p2) : QE X ks true true (.BinOp e1 .Mod e2 pos) (pOp oMod p1 p2) := qe_opS mod_ok (pe_op op_modA) h1 h2
theorem qe_pow (h1 : QE X ks a1 s1 e1 p1) (h2 : QE X ks a2 s2 e2 p2) : QE X ks true true (.BinOp e1 .Pow e2 pos) (pOp oPow p1 p2) := qe_opS pow_ok (pe_op op_powA) h1 h2
theorem qe_eq (hu : X.A.units + 64 < cLine) (h1 : QE X ks a1 s1 e1 p1) (h2 : QE X ks a2 s2 e2 p2) : QE X ks true true (.Compare e1 [.Eq] [e2] pos) (pOp oEq p1 p2) := qe_opS eq_ok (fun x y => pe_cmpR (op_eqA hu) x y (nomark _)) h1 h2
theorem qt_eq (hu : X.A.units + 64 < cLine) (h1 : QE X ks a1 s1 e1 p1) (h2 : QE X ks a2 s2 e2 p2) : QT X ks (.Compare e1 [.Eq] [e2] pos) (pTest (pOp oEq p1 p2)) := qt_opS eq_ok (fun x y => pt_cmpR (op_eqA hu) x y (nomark _)) h1 h2
theorem qt_ne (hu : X.A.units + 64 < cLine) (h1 : QE X ks a1 s1 e1 p1) (h2 : QE X ks a2 s2 e2 p2) : QT X ks (.Compare e1 [.NotEq] [e2] pos) (pTest (pOp oNe p1 p2)) := qt_opS ne_ok (fun x y => pt_cmpR (op_neA hu) x y (nomark _)) h1 h2
theorem qt_lt (h1 : QE X ks a1 s1 e1 p1) (h2 : QE X ks a2 s2 e2 p2) : QT X ks (.Compare e1 [.Lt] [e2] pos) (pTest (pOp oLt p1 p2)) := qt_opS lt_ok (fun x y => pt_cmpR op_ltA x y (nomark _)) h1 h2
theorem qt_gt (h1 : QE X ks a1 s1 e1 p1) (h2 : QE X ks a2 s2 e2 p2) : QT X ks (.Compare e1 [.Gt] [e2] pos) (pTest (pOp oGt p1 p2)) := qt_opS gt_ok (fun x y => pt_cmpR op_gtA x y (nomark _)) h1 h2
theorem qe_in (h1 : QE X ks a1 s1 e1 p1) (h2 : QE X ks a2 s2 e2 p2) (hm : behindInMarks .In e2 = false := by rfl) : QE X ks true true (.Compare e1 [.In] [e2] pos) (pOp (oIn false) p1 p2) := qe_opS in_ok (fun x y => pe_cmpR op_inA x y hm) h1 h2
theorem qt_notIn (h1 : QE X ks a1 s1 e1 p1) (h2 : QE X ks a2 s2 e2 p2) (hm : behindInMarks .NotIn e2 = false := by rfl) : QT X ks (.Compare e1 [.NotIn] [e2] pos) (pTest (pOp (oIn true) p1 p2)) := qt_opS notIn_ok (fun x y => pt_cmpR op_notInA x y hm) h1 h2
theorem qe_ix (h1 : QE X ks a1 s1 e1 p1) (h2 : QE X ks a2 s2 e2 p2) (hs : PlainIx e2 := by intro _ _; rfl) (ha : a = (a1 && a2) := by rfl) (hb : s = (s1 && s2) := by rfl) : QE X ks a s (.Subscript e1 e2 pos) (pOp oIx p1 p2) := by
  subst ha hb
  exact qe_op2 ix_ok (fun x y => pe_ix ix_seq x y hs) h1 h2
variable {x : Str} {p0 : Pos}
theorem qe_cbS {id : String} {r : List V → Hp → VK → Prop} {o : PCl} (ho : CallS X.K r o) (hc : CallR X (.builtin id) r) (hm : X.mg x = none) (hg : Gl X x) (hv : bootBuiltins x = some (.builtin id)) (h : QA X ks a s (e :: es) pa) (hn : x ≠ "__name__" := by decide) (hdb : (x == ("__debug__" : Str)) = false := by decide)
    (he : starEach (e :: es) X.env = (false, eval e X.env) :: starEach es X.env := by rfl) (hpl : (backTo pos (starEach es X.env)).any (·.1) = false := by rfl) : QE X ks true true (.Call (.Name x p0) (e :: es) [] pos) (pCB o pa) := cbS ho (fun t => pe_callB hc hg hm hv t hn hdb he hpl) h
theorem qe_ctP {T : String} {r : List V → Hp → VK → Prop} {o : PCl} (ho : CallP X.K r o) (hc : CallR X (.type T) r) (hm : X.mg x = none) (hg : Gl X x) (hv : bootBuiltins x = some (.type T)) (h : QA X ks a s (e :: es) pa) (hn : x ≠ "__name__" := by decide) (hdb : (x == ("__debug__" : Str)) = false := by decide)
    (he : starEach (e :: es) X.env = (false, eval e X.env) :: starEach es X.env := by rfl) (hpl : (backTo pos (starEach es X.env)).any (·.1) = false := by rfl) : QE X ks a s (.Call (.Name x p0) (e :: es) [] pos) (pCB o pa) := cbP ho (fun t => pe_callTy hc hg hm hv t hn hdb he hpl) h
theorem qe_ty (T : Kn) (hm : X.mg x = none) (hg : Gl X x) (hv : bootBuiltins x = some (.type (knS T))) (hn : x ≠ "__name__" := by decide) (hdb : (x == ("__debug__" : Str)) = false := by decide) : QE X ks true true (.Name x p0) (pC (.ty T)) := qe_c (pe_bltn (v := .ty (knS T)) hg hm hv rfl hn hdb) fun _ _ _ _ => .ty T
variable {ps' : List Str} {k n c m : Nat} {w : Vl.PW} {ds : List PV} {dvs : List V} {kws : List Keyword} {kn : List Str} {o : Expr} {apos : Pos} {f : Str}
theorem qe_calF (cc : Cal X.prog X.w X.K X.mg X.base x k ps' (spF n w X.K) dvs) (hd : Dfl X.K ds dvs) (hr : Room k X.A) (hg : Gl X x) (h : QA X ks a s (e :: es) pa) (hn : (e :: es).length + dvs.length = n := by rfl) (hdb : (x == ("__debug__" : Str)) = false := by decide)
    (he : starEach (e :: es) X.env = (false, eval e X.env) :: starEach es X.env := by rfl) (hpl : (backTo pos (starEach es X.env)).any (·.1) = false := by rfl) : QE X ks true true (.Call (.Name x p0) (e :: es) [] pos) (pCall w ds pa) := qe_callF (ps := ps') (fun t => pe_cal cc hr hg t hdb he hpl) hd h hn
end
end Vl
namespace Vl
open PySem PySem.Spec L2 Lb
section
variable {X : Cx} {ks ks' kl : List Kd} {a s a1 s1 a2 s2 a3 s3 : Bool} {e e1 e2 e3 tg : Expr} {es ifs : List Expr} {st : Stmt} {sts sts' : List Stmt} {p p1 p2 p3 : GE} {pa pb : GA} {pt : GT} {ps q : GS} {g g' : GG} {pos : Pos} {js vs : List Nat}
theorem Obs.nn {B : Bg} {A : Addr → Prop} {H : Hp} : ∀ {xs : List PV} {as : List Addr}, Obs B A H xs as → ∀ b ∈ as, H b ≠ none
  | _, _, .nil, _, m => nomatch m
  | _, _, .cons h t, b, m => by
    rcases List.mem_cons.mp m with rfl | m
    · rename_i x _ _
      cases x <;> first | exact (h : False).elim | (obtain ⟨_, h, _⟩ := h; rw [h]; exact nofun) | (obtain ⟨_, _, h, _⟩ := h; rw [h]; exact nofun)
    · exact t.nn b m
theorem Obs.append {B : Bg} {A : Addr → Prop} {H : Hp} : ∀ {xs ys : List PV} {as bs : List Addr}, Obs B A H xs as → Obs B A H ys bs → Obs B A H (xs ++ ys) (as ++ bs)
  | _, _, _, _, .nil, t => t
  | _, _, _, _, .cons h r, t => .cons h (r.append t)
theorem Obs.get {B : Bg} {A : Addr → Prop} {H : Hp} : ∀ {xs : List PV} {as : List Addr}, Obs B A H xs as → ∀ {i : Nat} {x : PV}, xs[i]? = some x → ∃ b, as[i]? = some b ∧ Ob B A H b x
  | _, _, .nil, _, _, e => by simp at e
  | _, _, .cons h _, 0, _, e => by simp at e; subst e; exact ⟨_, rfl, h⟩
  | _, _, .cons _ t, i + 1, _, e => by simpa using t.get (by simpa using e)
theorem Obs.len {B : Bg} {A : Addr → Prop} {H : Hp} : ∀ {xs : List PV} {as : List Addr}, Obs B A H xs as → xs.length = as.length
  | _, _, .nil => rfl
  | _, _, .cons _ t => by simp [t.len]
theorem Obs.set {B : Bg} {A : Addr → Prop} {H H' : Hp} (f : ∀ c x, Ob B A H c x → ∀ o, H c = some o → H' c = some o → Ob B A H' c x) : ∀ {xs : List PV} {as : List Addr} {i : Nat} {b : Addr} {y : PV}, Obs B A H xs as → as[i]? = some b → as.Nodup → (∀ c, c ≠ b → c ∈ as → ∀ o, H c = some o → H' c = some o) → (∀ c ∈ as, ∃ o, H c = some o) → Ob B A H' b y → Obs B A H' (xs.set i y) as
  | _, _, _, _, _, .nil, e, _, _, _, _ => by simp at e
  | _, _, 0, b, y, .cons (a := c) (as := as) h t, e, nd, g, hh, hb => by
    simp at e; subst e
    rw [List.nodup_cons] at nd
    refine .cons hb ?_
    have : ∀ {xs : List PV} {as' : List Addr}, Obs B A H xs as' → (∀ d ∈ as', d ∈ as) → Obs B A H' xs as' := by
      intro xs as' o
      induction o with
      | nil => intro _; exact .nil
      | cons h0 t0 ih =>
        rename_i x0 xs0 d ds
        intro hm
        have hd : d ∈ as := hm d (by simp)
        obtain ⟨o0, ho⟩ := hh d (by simp [hd])
        exact .cons (f _ _ h0 o0 ho (g d (fun z => nd.1 (z ▸ hd)) (by simp [hd]) o0 ho)) (ih fun d' m => hm d' (by simp [m]))
    exact this t fun d m => m
  | _, _, i + 1, b, y, .cons (a := c) (as := as) h t, e, nd, g, hh, hb => by
    rw [List.nodup_cons] at nd
    have e' : as[i]? = some b := by simpa using e
    have hc : c ≠ b := fun z => nd.1 (by rw [z]; exact List.mem_of_getElem? e')
    obtain ⟨o0, ho⟩ := hh c (by simp)
    exact .cons (f _ _ h o0 ho (g c hc (by simp) o0 ho)) (t.set f e' nd.2 (fun d n m => g d n (by simp [m])) (fun d m => hh d (by simp [m])) hb)
end
end Vl
namespace Vl
open PySem PySem.Spec L2 Lb
abbrev bx (K : Fg) (i : Int) : TE := tOp (rIx K) (tVar 0) (tC (.int i))
abbrev ci (i : Int) : TE := tC (.int i)
/-- its second half -/
def t_tkB (K : Fg) : TS := tSeq (tIfS (tTest (tOp rGtA (bx K 0) (ci 0)))
    (tSeq (tAsg (tOp rModA (bx K 0) (tVar 1)) (gName 3))
    (tSeq (tAsg (tOp rDivA (bx K 0) (tVar 1)) (gSub (tVar 0) (ci 0) rSetL))
      (tRet (tVar 3)))) tNext)
  (tSeq (tAsg (tOp rModA (tOp rMulA (tOp rAddA (bx K 1) (ci 1)) (ci 39373)) (ci 1000000007)) (gName 4))
  (tSeq (tAsg (tOp rModA (tOp rMulA (tOp rModA (tOp rMulA (tVar 4) (tVar 4)) (ci 998244353)) (ci 30011)) (ci 998244353)) (gName 5))
  (tSeq (tIfS (tTest (tOp rGtA (tVar 1) (ci 1000000))) (tRet (tOp rModA (tOp rAddA (tOp rMulA (tVar 5) (ci 1000000007)) (tVar 4)) (tVar 1))) tNext)
    (tRet (tOp rModA (tOp rDivA (tVar 5) (ci 7)) (tVar 1))))))
def t_tkL (K : Fg) : TS := tAsg (tOp rModA (tOp rAddA (tOp rAddA (tOp rMulA (bx K 1) (ci 48271)) (tOp rModA (tVar 2) (ci 2147483647))) (tOp rMulA (ci 7919) (bx K 2))) (ci 2147483647)) (gSub (tVar 0) (ci 1) rSetL)
def t_tkM (K : Fg) : TS := tSeq (tIfS (tTest (tOp rGeA (tVar 2) (ci 1000000000000000000))) (tAsg (tVar 2) (gSub (tVar 0) (ci 0) rSetL)) tNext) (t_tkL K)
def t_tkN (K : Fg) : TS := tSeq (tAugS (tVar 0) (ci 2) (ci 1) (rGetL K) ipAddA rSetL) (t_tkM K)
def t_tkC (K : Fg) : TS := tSeq (tIfS (tTest (tOp rLtA (bx K 2) (tCB (rLen K) (tCons (bx K 3) tNil)))) (tAsg (tOp (rIx K) (bx K 3) (bx K 2)) (gName 2)) tNext) (t_tkN K)
def t_take (K : Fg) : TS := tSeq (tIfS (tTest (tOp (rEqA K) (bx K 0) (ci 0))) (tSeq (tAsg (ci 0) (gName 2)) (t_tkC K)) tNext) (t_tkB K)
def w_law_take : Vl.PW := fun xs Q => match xs with | [.bag, .int n] => (0 < n ∧ n < 2 ^ 62) ∧ ∀ v : Int, 0 ≤ v → v < n → Q (.int v) | _ => False
section
variable {K : Fg} {H : Hp} {Q : VK} {q r : Addr} {l : St} {a0 a1 a2 a3 : V}
theorem bx0 (h : H q = some (.lst [a0, a1, a2, a3])) (k : Q a0 H) : bx K 0 (some (.ref q) :: l) H Q := ⟨.ref q, rfl, .inl ⟨q, _, 0, a0, rfl, rfl, .inl (.inl h), rfl, k⟩⟩
theorem bx1 (h : H q = some (.lst [a0, a1, a2, a3])) (k : Q a1 H) : bx K 1 (some (.ref q) :: l) H Q := ⟨.ref q, rfl, .inl ⟨q, _, 1, a1, rfl, rfl, .inl (.inl h), rfl, k⟩⟩
theorem bx2 (h : H q = some (.lst [a0, a1, a2, a3])) (k : Q a2 H) : bx K 2 (some (.ref q) :: l) H Q := ⟨.ref q, rfl, .inl ⟨q, _, 2, a2, rfl, rfl, .inl (.inl h), rfl, k⟩⟩
theorem bx3 (h : H q = some (.lst [a0, a1, a2, a3])) (k : Q a3 H) : bx K 3 (some (.ref q) :: l) H Q := ⟨.ref q, rfl, .inl ⟨q, _, 3, a3, rfl, rfl, .inl (.inl h), rfl, k⟩⟩
theorem ifT {c : Bool} {A B : Prop} (h : c = true) (k : A) : if c = true then A else B := by rw [if_pos h]; exact k
theorem ifF {c : Bool} {A B : Prop} (h : c = false) (k : B) : if c = true then A else B := by rw [if_neg (by rw [h]; decide)]; exact k
/-- the last part of a draw -/
theorem take_end {n x y : Int} {z : Int} {cs : List Int} {v2 v3 v4 v5 : Option V} {D : Ends} (hn : 0 < n ∧ n < 2 ^ 62) (hq : H q = some (.lst [.int x, .int y, .int z, .ref r])) (hx : 0 ≤ x) (hy : 0 ≤ y)
    (k : ∀ v : Int, 0 ≤ v → v < n → ∀ x' H', 0 ≤ x' → H' = H ∨ H' = upd H q (.lst [.int x', .int y, .int z, .ref r]) → D.rt (.int v) H') :
    t_tkB K D [some (.ref q), some (.int n), v2, v3, v4, v5] H := by
  unfold t_tkB
  refine bx0 hq ⟨x, 0, rfl, rfl, _, rfl, ?_⟩
  by_cases hx0 : 0 < x
  · refine ifT (decide_eq_true hx0) ?_
    refine bx0 hq ⟨.int n, rfl, x, n, rfl, rfl, hn.1, ?_⟩
    refine bx0 hq ⟨.int n, rfl, x, n, rfl, rfl, ⟨hn.1, ?_⟩, ⟨.ref q, rfl, q, _, 0, 0, rfl, rfl, hq, rfl, ?_⟩⟩
    · have : n.natAbs < 2 ^ 62 := by omega
      have := (Nat.log2_lt (by omega)).mpr this
      omega
    · exact ⟨.int (x % n), rfl, k _ (Int.emod_nonneg _ (by omega)) (Int.emod_lt_of_pos _ hn.1) (x / n) _ (Int.ediv_nonneg hx (by omega)) (.inr rfl)⟩
  · refine ifF (decide_eq_false hx0) ?_
    have hf := Int.emod_nonneg ((y + 1) * 39373) (b := 1000000007) (by decide)
    have hf' := Int.emod_lt_of_pos ((y + 1) * 39373) (b := 1000000007) (by decide)
    have p1 : (0 : Int) < 1000000007 := by decide
    have p2 : (0 : Int) < 998244353 := by decide
    refine bx1 hq (.inl ⟨y, 1, rfl, rfl, .inl ⟨y + 1, 39373, rfl, rfl, .inr ⟨by decide, by decide⟩, (y + 1) * 39373, 1000000007, rfl, rfl, p1, ?_⟩⟩)
    obtain ⟨f, hfe⟩ : ∃ f, f = (y + 1) * 39373 % 1000000007 := ⟨_, rfl⟩
    rw [← hfe] at hf hf'
    show tSeq _ _ D [some (.ref q), some (.int n), v2, v3, some (.int ((y + 1) * 39373 % 1000000007)), v5] H
    rw [← hfe]
    refine ⟨.int f, rfl, .int f, rfl, .inl ⟨f, f, rfl, rfl, .inl ⟨by omega, by omega⟩, f * f, 998244353, rfl, rfl, p2, .inl ⟨f * f % 998244353, 30011, rfl, rfl, .inr ⟨by decide, by decide⟩, _, 998244353, rfl, rfl, p2, ?_⟩⟩⟩
    obtain ⟨g, hge⟩ : ∃ g, g = f * f % 998244353 * 30011 % 998244353 := ⟨_, rfl⟩
    show tSeq _ _ D [some (.ref q), some (.int n), v2, v3, some (.int f), some (.int (f * f % 998244353 * 30011 % 998244353))] H
    rw [← hge]
    refine ⟨.int n, rfl, n, 1000000, rfl, rfl, _, rfl, ?_⟩
    by_cases hb : 1000000 < n
    · refine ifT (decide_eq_true hb) ?_
      exact ⟨.int g, rfl, .inl ⟨g, 1000000007, rfl, rfl, .inr ⟨by decide, by decide⟩, .int f, rfl, .inl ⟨g * 1000000007, f, rfl, rfl, .int n, rfl, _, n, rfl, rfl, hn.1, k _ (Int.emod_nonneg _ (by omega)) (Int.emod_lt_of_pos _ hn.1) x _ hx (.inl rfl)⟩⟩⟩
    · refine ifF (decide_eq_false hb) ?_
      exact ⟨.int g, rfl, g, 7, rfl, rfl, ⟨by decide, by decide⟩, .int n, rfl, _, n, rfl, rfl, hn.1, k _ (Int.emod_nonneg _ (by omega)) (Int.emod_lt_of_pos _ hn.1) x _ hx (.inl rfl)⟩
theorem tkL_ok {x y z c : Int} {l : St} {v1 : Option V} {D : Ends} (hq : H q = some (.lst [.int x, .int y, .int z, .ref r])) (k : ∀ y' : Int, 0 ≤ y' → y' < 2147483647 → D.nx (some (.ref q) :: v1 :: some (.int c) :: l) (upd H q (.lst [.int x, .int y', .int z, .ref r]))) :
    t_tkL K D (some (.ref q) :: v1 :: some (.int c) :: l) H := by
  have p3 : (0 : Int) < 2147483647 := by decide
  refine bx1 hq (.inl ⟨y, 48271, rfl, rfl, .inr ⟨by decide, by decide⟩, .int c, rfl, c, 2147483647, rfl, rfl, p3, .inl ⟨_, _, rfl, rfl, bx2 hq (.inl ⟨7919, z, rfl, rfl, .inl ⟨by decide, by decide⟩, .inl ⟨_, _, rfl, rfl, _, 2147483647, rfl, rfl, p3, ?_⟩⟩)⟩⟩)
  exact ⟨.ref q, rfl, q, _, 1, 1, rfl, rfl, hq, rfl, k _ (Int.emod_nonneg _ (by decide)) (Int.emod_lt_of_pos _ p3)⟩
theorem tkM_ok {x y z c : Int} {l : St} {v1 : Option V} {D : Ends} (hc : 0 ≤ c) (hx : 0 ≤ x) (hq : H q = some (.lst [.int x, .int y, .int z, .ref r])) (k : ∀ x' y' : Int, 0 ≤ x' → 0 ≤ y' → y' < 2147483647 → D.nx (some (.ref q) :: v1 :: some (.int c) :: l) (upd H q (.lst [.int x', .int y', .int z, .ref r]))) :
    t_tkM K D (some (.ref q) :: v1 :: some (.int c) :: l) H := by
  refine ⟨.int c, rfl, c, 1000000000000000000, rfl, rfl, _, rfl, ?_⟩
  by_cases hb : 1000000000000000000 ≤ c
  · refine ifT (decide_eq_true hb) ⟨.int c, rfl, .ref q, rfl, q, _, 0, 0, rfl, rfl, hq, rfl, ?_⟩
    refine tkL_ok (H := upd H q (.lst [.int c, .int y, .int z, .ref r])) upd_same fun y' h0 h1 => ?_
    rw [upd_upd]; exact k c y' hc h0 h1
  · exact ifF (decide_eq_false hb) (tkL_ok hq fun y' h0 h1 => k x y' hx h0 h1)
theorem tkN_ok {x y c : Int} {z : Nat} {l : St} {v1 : Option V} {D : Ends} (hc : 0 ≤ c) (hx : 0 ≤ x) (hq : H q = some (.lst [.int x, .int y, .int (z : Nat), .ref r])) (k : ∀ x' y' : Int, 0 ≤ x' → 0 ≤ y' → y' < 2147483647 → D.nx (some (.ref q) :: v1 :: some (.int c) :: l) (upd H q (.lst [.int x', .int y', .int ((z + 1 : Nat) : Int), .ref r]))) :
    t_tkN K D (some (.ref q) :: v1 :: some (.int c) :: l) H := by
  refine ⟨.ref q, rfl, q, _, 2, .int (z : Nat), rfl, rfl, .inl (.inl hq), rfl, .inl ⟨(z : Int), 1, rfl, rfl, q, _, 2, 2, rfl, rfl, hq, rfl, ?_⟩⟩
  have hz1 : ((z + 1 : Nat) : Int) = (z : Int) + 1 := by omega
  refine tkM_ok (H := upd H q (.lst [.int x, .int y, .int ((z : Int) + 1), .ref r])) hc hx upd_same fun x' y' h1 h2 h3 => ?_
  rw [upd_upd, ← hz1]; exact k x' y' h1 h2 h3
theorem tkC_ok {x y : Int} {z : Nat} {cs : List Int} {l : St} {v1 : Option V} {D : Ends} (hcs : ∀ c ∈ cs, 0 ≤ c) (hx : 0 ≤ x) (hq : H q = some (.lst [.int x, .int y, .int (z : Nat), .ref r])) (hr : H r = some (.lst (cs.map V.int)))
    (k : ∀ c x' y' : Int, 0 ≤ x' → 0 ≤ y' → y' < 2147483647 → D.nx (some (.ref q) :: v1 :: some (.int c) :: l) (upd H q (.lst [.int x', .int y', .int ((z + 1 : Nat) : Int), .ref r]))) :
    t_tkC K D (some (.ref q) :: v1 :: some (.int 0) :: l) H := by
  refine bx2 hq (bx3 hq ⟨.ref r, cs.length, rfl, .inl ⟨_, .inl (.inl hr), by simp⟩, .inl ⟨(z : Int), (cs.length : Int), rfl, rfl, _, rfl, ?_⟩⟩)
  by_cases hz : (z : Int) < (cs.length : Int)
  · have hz' : z < cs.length := by omega
    refine ifT (decide_eq_true hz) (bx3 hq (bx2 hq (.inl ⟨r, _, z, .int cs[z], rfl, rfl, .inl (.inl hr), ?_, ?_⟩)))
    · unfold atI ixN
      rw [List.length_map, if_pos (by omega), if_pos hz]; simp [hz']
    · exact tkN_ok (c := cs[z]) (hcs _ (List.getElem_mem hz')) hx hq fun x' y' h1 h2 h3 => k _ x' y' h1 h2 h3
  · exact ifF (decide_eq_false hz) (tkN_ok (c := 0) (Int.le_refl 0) hx hq fun x' y' h1 h2 h3 => k _ x' y' h1 h2 h3)
theorem pure_take {vs : List V} {E : XK} (h : spF 2 w_law_take K vs H Q E) : t_take K ⟨fun _ H' => Q .non H', Q, fun _ _ => False, fun _ _ => False⟩ (start ["_law_bag_here", "_law_many", "_law_cell", "_law_value", "_law_first", "_law_second"] vs) H := by
  obtain ⟨q, r, xs, Qp, hl, bg, rx, w, k⟩ := h
  match xs, rx, w with
  | [_, _], .cons r1 (.cons r2 .nil), w =>
    cases r1 <;> first | exact (w : False).elim | skip
    cases r2 <;> first | exact (w : False).elim | skip
    rename_i n
    obtain ⟨hn, w⟩ := w
    obtain ⟨x, y, z, cs, hq, hr, nrq, hx, hy, hy2, hcs⟩ := bg
    have fin : ∀ (x' y' : Int) (z' : Nat) (H' : Hp), (∀ a o, a ≠ q → H a = some o → H' a = some o) → (∀ a, H a ≠ none → H' a ≠ none) → H' q = some (.lst [.int x', .int y', .int z', .ref r]) → 0 ≤ x' → 0 ≤ y' → y' < 2147483647 → ∀ v : Int, 0 ≤ v → v < n → Q (.int v) H' := fun x' y' z' H' st nn hq' hx' hy' hy2' v h0 h1 =>
      k (.int v) _ H' (w v h0 h1) ⟨fun a o e m => st a o m e, fun a u e => st a _ (fun z => by rw [z] at e; rw [hq] at e; cases e) e, nn, fun _ => ⟨x', y', z', cs, hq', st _ _ nrq hr, nrq, hx', hy', hy2', hcs⟩⟩ (.int v)
    have nu : ∀ {H1 : Hp} {o : HO}, (∀ a, H a ≠ none → H1 a ≠ none) → ∀ a, H a ≠ none → upd H1 q o a ≠ none := fun {H1 o} nn a m => by
      by_cases z : a = q
      · rw [z, upd_same]; exact nofun
      · rw [upd_ne z]; exact nn a m
    have half : ∀ (x' y' : Int) (z' : Nat) (H' : Hp) (v2 : Option V), (∀ a o, a ≠ q → H a = some o → H' a = some o) → (∀ a, H a ≠ none → H' a ≠ none) → H' q = some (.lst [.int x', .int y', .int z', .ref r]) → 0 ≤ x' → 0 ≤ y' → y' < 2147483647 →
        t_tkB K ⟨fun _ H' => Q .non H', Q, fun _ _ => False, fun _ _ => False⟩ [some (.ref q), some (.int n), v2, none, none, none] H' := fun x' y' z' H' v2 st nn hq' hx' hy' hy2' =>
      take_end (cs := cs) hn hq' hx' hy' fun v h0 h1 x2 H2 hx2 e => by
        rcases e with rfl | rfl
        · exact fin x' y' z' _ st nn hq' hx' hy' hy2' v h0 h1
        · exact fin x2 y' z' _ (fun a o m e => by rw [upd_ne m]; exact st a o m e) (nu nn) upd_same hx2 hy' hy2' v h0 h1
    show t_take K _ [some (.ref q), some (.int n), none, none, none, none] H
    unfold t_take
    refine bx0 hq (.inl ⟨rfl, ⟨_, rfl, ?_⟩⟩)
    by_cases h0 : x = 0
    · refine ifT (decide_eq_true (by rw [h0])) ?_
      refine tkC_ok (D := ⟨t_tkB K ⟨fun _ H' => Q .non H', Q, fun _ _ => False, fun _ _ => False⟩, Q, fun _ _ => False, fun _ _ => False⟩) (l := [none, none, none]) (v1 := some (.int n)) hcs hx hq hr fun c x' y' h1 h2 h3 => ?_
      exact half x' y' (z + 1) _ (some (.int c)) (fun a o m e => by rw [upd_ne m]; exact e) (nu fun a m => m) upd_same h1 h2 h3
    · refine ifF (decide_eq_false (fun z => h0 (V.int.inj z))) ?_
      exact half x y z H none (fun a o _ e => e) (fun a m => m) hq hx hy hy2
  | [], _, w => exact (w : False).elim
  | [_], .cons r1 .nil, w => cases r1 <;> exact (w : False).elim
  | _ :: _ :: _ :: _, .cons r1 (.cons r2 _), w => cases r1 <;> cases r2 <;> exact (w : False).elim
end
end Vl
namespace Vl
open PySem PySem.Spec L2 Lb
def t_bag (K : Fg) : TS := tRet (tLst (tCons (ci 0) (tCons (ci 1234567891) (tCons (ci 0) (tCons (tLc (iList K (tSl (rSlL K) (tVar 0) tNoPart (tPart (ci 63)))) (gName 1) tYes (tCB rAbs (tCons (tVar 1) tNil)) [1]) tNil)))))
def spBag (K : Fg) : Sp := fun vs H Q _ => ∃ (a : Addr) (ns : List Int), vs = [.ref a] ∧ SqL K H a (ns.map V.int) ∧ ns.length ≤ sizeLine ∧ ∀ (q r : Addr) (cs : List Int) (H' : Hp), (∀ b o, H b = some o → H' b = some o) → BagOk ⟨K, q, r⟩ H' → H' q = some (.lst [.int 0, .int 1234567891, .int 0, .ref r]) → H' r = some (.lst (cs.map V.int)) → Q (.ref q) H'
section
variable {K : Fg} {H : Hp} {Q : VK}
def absI (i : Int) : Int := if i < 0 then -i else i
theorem absI_nn (i : Int) : 0 ≤ absI i := by unfold absI; split <;> omega
theorem yesT {σ : St} {A B : Hp → Prop} (k : A H) : tYes σ H fun b H' => if b = true then A H' else B H' := by
  show if true = true then A H else B H
  rw [if_pos rfl]; exact k
theorem pure_bag {vs : List V} {E : XK} (h : spBag K vs H Q E) : t_bag K ⟨fun _ H' => Q .non H', Q, fun _ _ => False, fun _ _ => False⟩ (start ["_law_script", "_law_cell"] vs) H := by
  obtain ⟨a, ns, rfl, hs, hn, k⟩ := h
  show t_bag K _ [some (.ref a), none] H
  refine ⟨.ref a, rfl, 63, rfl, a, _, rfl, hs, fun p np => ?_⟩
  obtain ⟨ms, hms, hml⟩ : ∃ ms : List Int, cutV (ns.map V.int) none (some 63) = ms.map V.int ∧ ms.length ≤ sizeLine := by
    refine ⟨(ns.drop (HT.sIx (ns.map V.int).length 0 none)).take (HT.sIx (ns.map V.int).length (ns.map V.int).length (some 63) - HT.sIx (ns.map V.int).length 0 none), ?_, ?_⟩
    · unfold cutV; rw [List.map_take, List.map_drop]
    · exact Nat.le_trans (by rw [List.length_take, List.length_drop]; omega) hn
  rw [hms]
  refine ⟨p, rfl, ⟨_, .inl (.inl upd_same)⟩, fun D nD => ?_⟩
  have pD : p ≠ D := fun z => by rw [← z, upd_same] at nD; cases nD
  have st0 : ∀ b o, H b = some o → upd (upd H p (.lst (ms.map V.int))) D (.lst []) b = some o := fun b o e => by
    have bp : b ≠ p := ne_of_none e np
    rw [upd_ne (fun z => by rw [← z, upd_ne bp, e] at nD; cases nD), upd_ne bp]; exact e
  refine ⟨fun i m H2 => m = ms.length - i ∧ i ≤ ms.length ∧ (∀ b o, H b = some o → H2 b = some o) ∧ H2 p = some (.lst (ms.map V.int)) ∧ H2 D = some (.lst (((ms.take i).map absI).map V.int)), ⟨_, rfl, by simp, st0, by rw [upd_ne pD, upd_same], by rw [upd_same]; simp⟩, ?_⟩
  rintro i m H2 ⟨rfl, hi0, st, hp, hD⟩
  by_cases hi : i < ms.length
  · right
    refine ⟨⟨ms.map V.int, .int ms[i], .inl (.inl hp), by simp [hi]⟩, fun H' => H' p = some (.lst (ms.map V.int)) ∧ H' D = some (.lst (((ms.take (i + 1)).map absI).map V.int)) ∧ ∀ b o, H b = some o → H' b = some o, fun H' ⟨h1, h2, h3⟩ => ⟨_, by omega, rfl, by omega, h3, h1, h2⟩, ?_⟩
    rintro v H3 ⟨rfl, hv⟩
    have := hv _ (.inl (.inl hp))
    have e : v = .int ms[i] := by
      rw [List.getElem?_map, List.getElem?_eq_getElem hi] at this; simpa using this.symm
    subst e
    refine ⟨rfl, ?_⟩
    refine yesT ⟨.int ms[i], rfl, ms[i], rfl, _, hD, ?_, ?_⟩
    · simp; omega
    · refine ⟨by rw [upd_ne pD]; exact hp, ?_, fun b o e => ?_⟩
      · rw [upd_same, List.take_add_one, List.getElem?_eq_getElem hi]
        simp only [Option.toList_some, List.map_append, List.map_cons, List.map_nil]; rfl
      · by_cases z : b = D
        · rw [z] at e
          rw [upd_ne (fun z => pD z.symm), e] at nD; cases nD
        · rw [upd_ne z]; exact st b o e
  · left
    have hi : ms.length ≤ i := Nat.not_lt.mp hi
    refine ⟨⟨_, .inl (.inl hp), by simpa using hi⟩, few (n := 4) (by decide), fun q nq => ?_⟩
    have qD : D ≠ q := fun z => by rw [← z, hD] at nq; cases nq
    refine k q D ((ms.take i).map absI) _ (fun b o e => by rw [upd_ne (fun z => by rw [z] at e; have := st q o e; rw [nq] at this; cases this)]; exact st b o e) ⟨0, 1234567891, 0, (ms.take i).map absI, upd_same, by rw [upd_ne qD]; exact hD, qD, by decide, by decide, by decide, fun c m => ?_⟩ upd_same (by rw [upd_ne qD]; exact hD)
    obtain ⟨x, _, rfl⟩ := List.mem_map.mp m
    exact absI_nn x
/-- the rest of the law, when the bag is there -/
def spLaw (K : Fg) : Sp := fun vs H Q _ => ∃ (a : Addr) (ns : List Int), vs = [.ref a] ∧ SqL K H a (ns.map V.int) ∧ ns.length ≤ sizeLine ∧ ∀ H', Q (.bl true) H'
def lawG (N : Nat) : G := none :: some .bag :: List.replicate (N - 2) none
def lawD : GD := ⟨fun _ => False, fun x _ => x = .bl true, fun _ => False, fun _ => False⟩
theorem body_law {X : Cx} {N : List Str} {ks ks' kl : List Kd} {st : Stmt} {sts : List Stmt} {p : GS} {vs : List V} {E : XK} (h0 : PS X st (tAsg (tCall (spBag X.K) [] E0 (tCons (tVar 0) tNil)) (gName 1))) (h : QB X ks ks' kl sts p) (hk : kd ks 1 = .sh) (hN : 2 ≤ N.length) (hp : p lawD (lawG N.length)) (hs : spLaw X.K vs H Q E) :
    ∃ t, PSs X (st :: sts) t ∧ t { nx := fun _ H' => Q .non H', rt := Q } (start N vs) H := by
  obtain ⟨a, ns, rfl, hS, hn, k⟩ := hs
  refine ⟨_, pss_cons h0 h, ?_⟩
  obtain ⟨n, hn2⟩ : ∃ n, N.length = n + 2 := ⟨N.length - 2, by omega⟩
  have es : start N [.ref a] = some (.ref a) :: none :: List.replicate n none := by
    simp [L2.start, hn2, List.replicate_succ]
  rw [es]
  refine ⟨.ref a, rfl, a, ns, rfl, hS, hn, fun q r cs H' st0 bg hq hr => ?_⟩
  have R : Rel ⟨⟨X.K, q, r⟩, fun b => b = q, H', 0⟩ [] ks (lawG N.length) (some (.ref a) :: some (.ref q) :: List.replicate n none) H' := by
    refine ⟨fun _ _ h _ => h, fun _ h => h, bg, fun b z => by have z : b = q := z; rw [z]; exact bg.q, rfl, by show H' r ≠ none; rw [hr]; exact nofun, by simp, by simp [lawG, hn2], ?_⟩
    refine ⟨fun _ => [], fun i x h => ?_, by simp, by simp, by simp⟩
    rcases i with _ | _ | i
    · simp [lawG] at h
    · simp [lawG] at h; subst h
      refine ⟨.ref q, rfl, ?_⟩
      rw [hk]; exact ⟨rfl, .bag⟩
    · simp only [lawG, List.getElem?_cons_succ] at h
      have := List.mem_of_getElem? h
      simp at this
  refine ⟨⟨⟨X.K, q, r⟩, fun b => b = q, H', 0⟩, [], lawG N.length, lawD, rfl, R, hp, fun _ _ _ _ _ _ z => z.elim, fun x _ v H2 ⟨r1, _⟩ q1 => ?_, fun _ _ _ _ _ _ z => z.elim, fun _ _ _ _ _ _ z => z.elim⟩
  have q1 : x = .bl true := q1
  subst q1
  cases r1
  exact k H2
end
end Vl
namespace Vl
open PySem PySem.Spec L2 Lb
def gvB (K : Fg) (n : Str) (x : PV) : Bool := match PySem.W.nsIn K mainGlobals n with
  | some (some u) => ckV K x u
  | _ => false
theorem gvB_ok {K : Fg} {h : Heap} {mg : Str → Option Value} {n : Str} {x : PV} (X : K.In h) (G : h.Ns mainGlobals mg) (c : gvB K n x = true) : GV K mg n x := by
  unfold gvB at c
  cases e : PySem.W.nsIn K mainGlobals n with
  | none => rw [e] at c; cases c
  | some o =>
    rw [e] at c
    cases o with
    | none => cases c
    | some u => exact ⟨u, PySem.W.mg_of X G e, c⟩
theorem all_at {K : Fg} : ∀ {l : List (Fg → Bool)} (i : Nat) {f : Fg → Bool}, (l.all fun f => f K) = true → l[i]? = some f → f K = true := fun {l} i {f} h e => List.all_eq_true.mp h f (List.mem_of_getElem? e)
end Vl
namespace Vl
open PySem PySem.Spec L2 Lb
def setS (γ : G) : Nat → Option PV → (G → Prop) → Prop :=
  List.rec (motive := fun _ => Nat → Option PV → (G → Prop) → Prop) (fun _ _ K => K [])
    (fun a l ih i x K => Nat.rec (motive := fun _ => Prop) (K (x :: l)) (fun i _ => ih i x fun l' => K (a :: l')) i) γ
theorem setS_eq : ∀ (γ : G) (i : Nat) (x : Option PV) (K : G → Prop), setS γ i x K = K (γ.set i x)
  | [], _, _, _ => rfl
  | _ :: _, 0, _, _ => rfl
  | a :: l, i + 1, x, K => setS_eq l i x fun l' => K (a :: l')
def wipeS (γ : G) (vs : List Nat) : (G → Prop) → Prop :=
  List.rec (motive := fun _ => (G → Prop) → Prop) (fun K => K γ) (fun v _ ih K => ih fun γ1 => setS γ1 v none K) vs
theorem wipeS_eq (γ : G) : ∀ (vs : List Nat) (K : G → Prop), wipeS γ vs K = K (wipeG γ vs)
  | [], _ => rfl
  | v :: vs, K => (wipeS_eq γ vs fun γ1 => setS γ1 v none K).trans (setS_eq _ _ _ _)
def noneS (n : Nat) : (G → Prop) → Prop := Nat.rec (motive := fun _ => (G → Prop) → Prop) (fun K => K []) (fun _ ih K => ih fun l => K (none :: l)) n
theorem noneS_eq : ∀ (n : Nat) (K : G → Prop), noneS n K = K (List.replicate n none)
  | 0, _ => rfl
  | n + 1, K => by rw [List.replicate_succ]; exact noneS_eq n fun l => K (none :: l)
def startS (xs : List PV) : Nat → (G → Prop) → Prop :=
  List.rec (motive := fun _ => Nat → (G → Prop) → Prop) (fun N K => noneS N K) (fun x _ ih N K => ih (N - 1) fun l => K (some x :: l)) xs
theorem startS_eq : ∀ (xs : List PV) (N : Nat) (K : G → Prop), startS xs N K = K (startG N xs)
  | [], N, K => by show noneS N K = _; rw [noneS_eq]; simp [startG]
  | x :: xs, N, K => by
    show startS xs (N - 1) (fun l => K (some x :: l)) = _
    rw [startS_eq xs]
    simp only [startG, List.map_cons, List.length_cons, List.cons_append]
    rw [show N - 1 - xs.length = N - (xs.length + 1) by omega]
def xF (N : Nat) (p : GS) : Vl.PW := fun xs Q => startS xs N fun γ => p ⟨fun _ => Q .non, fun x _ => Q x, fun _ => False, fun _ => False⟩ γ
theorem xF_eq (N : Nat) (p : GS) : xF N p = wF N p := by funext xs Q; rw [xF, startS_eq]; rfl
def xgName (i : Nat) : GG := fun x γ Q => setS γ i (some x) Q
theorem xgName_eq (i : Nat) : xgName i = pgName i := by funext x γ Q; rw [xgName, setS_eq]; rfl
def xLc (vs : List Nat) (it : GA) (g : GG) (t : GT) (e : GE) : GE := fun γ Q => it γ fun xs => xs.length ≤ sizeLine ∧ wipeS γ vs fun γw => lcP g t e γw xs fun ys => Q (.lst ys)
theorem xLc_eq (vs : List Nat) (it : GA) (g : GG) (t : GT) (e : GE) : xLc vs it g t e = pLc vs it g t e := by
  funext γ Q
  show (it γ fun xs => _ ∧ _) = (it γ fun xs => _ ∧ _)
  congr; funext xs; rw [wipeS_eq]
def xSet (i : Nat) (e : GE) : GS := fun D γ => e γ fun x => setS γ i (some x) D.nx
theorem xSet_eq (i : Nat) (e : GE) : xSet i e = pSet i e := by funext D γ; show e γ _ = e γ _; congr; funext x; rw [setS_eq]
def xApp (i : Nat) (e : GE) : GS := fun D γ => getS γ i fun x => match x with | .lst xs => e γ fun y => xs.length < sizeLine ∧ setS γ i (some (.lst (xs ++ [y]))) D.nx | _ => False
theorem xApp_eq (i : Nat) (e : GE) : xApp i e = pApp i e := by
  funext D γ; show getS γ i _ = getS γ i _; congr; funext x
  cases x <;> first | rfl | (show e γ _ = e γ _; congr; funext y; rw [setS_eq])
def xSetIx (i : Nat) (k e : GE) : GS := fun D γ => e γ fun y => getS γ i fun x => k γ fun n => match x, n with
  | .lst xs, .int n => (match ixN xs.length n with | some j => setS γ i (some (.lst (xs.set j y))) D.nx | none => False)
  | _, _ => False
theorem xSetIx_eq (i : Nat) (k e : GE) : xSetIx i k e = pSetIx i k e := by
  funext D γ; show e γ _ = e γ _; congr; funext y; congr; funext x; congr; funext n
  cases x <;> cases n <;> first | rfl | skip
  rename_i xs n
  show (match ixN xs.length n with | some j => _ | none => False) = (match ixN xs.length n with | some j => _ | none => False)
  cases ixN xs.length n <;> simp only [setS_eq]
section
variable {X : Cx} {ks ks' kl : List Kd} {a s a1 s1 a2 s2 a3 s3 : Bool} {e e1 e2 e3 tg : Expr} {es ifs : List Expr} {st : Stmt} {sts sts' : List Stmt} {p p1 p2 p3 : GE} {pa pb : GA} {pt : GT} {ps q : GS} {g g' : GG} {pos : Pos} {js vs : List Nat} {i j l : Nat}
theorem xq_name {k : Kd} (hg : PG X tg (gName i)) (hk : ks[i]? = some k := by rfl) (ht : takes k a s = true := by rfl) (hj : i ∈ js := by decide) : QG X ks a s js tg (xgName i) := by rw [xgName_eq]; exact qg_name hg hk ht hj
theorem xs_setG {k : Kd} (pe : ∀ {t : TE}, PE X e t → PS X st (tAsg t (gName i))) (h : QE X ks a s e p) (hk : ks[i]? = some k := by rfl) (ht : takes k a s = true := by rfl) : QS X ks ks kl st (xSet i p) := by rw [xSet_eq]; exact qs_setG pe h hk ht
theorem xs_setN (pe : ∀ {t : TE}, PE X e t → PS X st (tAsg t (gName i))) (h : QN X ks e p) (hi : i < ks.length := by decide) : QS X ks (ks.set i .own) kl st (xSet i p) := by rw [xSet_eq]; exact qs_setN pe h hi
theorem xs_app (pe : ∀ {t : TE}, PE X e t → PS X st (tDrop (tBM X.K "list" rAppend (tVar i) (tCons t tNil)))) (h : QE X ks true true e p) (hk : ks[i]? = some .own := by rfl) : QS X ks ks kl st (xApp i p) := by rw [xApp_eq]; exact qs_app pe h hk
theorem xs_setIx (pe : ∀ {t t' : TE}, PE X e t → PE X e3 t' → PS X st (tAsg t (gSub (tVar i) t' rSetL))) (h : QE X ks true true e p) (h3 : QE X ks a s e3 p3) (hk : ks[i]? = some .own := by rfl) : QS X ks ks kl st (xSetIx i p3 p) := by rw [xSetIx_eq]; exact qs_setIx pe h h3 hk
variable {elt iter : Expr} {scope : Scope} {own : List (Str × Nat)}
theorem xe_lc (pe : ∀ {wi : TI} {g : TG} {tt : TT} {te : TE}, PI X tg iter wi → (∀ (s : Shared) (H : Hp) (C : Addr) (cl : List (Str × Addr)) (fp : List Addr), PG (X.blk s H scope (compEnvC scope cl C X.env) fp) tg g) →
      (∀ (s : Shared) (H : Hp) (C : Addr) (cl : List (Str × Addr)) (fp : List Addr), PTs (X.blk s H scope (compEnvC scope cl C X.env) fp) ifs tt) → (∀ (s : Shared) (H : Hp) (C : Addr) (cl : List (Str × Addr)) (fp : List Addr), PE (X.blk s H scope (compEnvC scope cl C X.env) fp) elt te) → PE X e (tLc wi g tt te (own.map (·.2))))
    (hi : QI X ks a1 tg iter pa) (hg : ∀ (s : Shared) (H : Hp) (C : Addr) (cl : List (Str × Addr)) (fp : List Addr), QG (X.blk s H scope (compEnvC scope cl C X.env) fp) ks a1 true (own.map (·.2)) tg g)
    (ht : ∀ (s : Shared) (H : Hp) (C : Addr) (cl : List (Str × Addr)) (fp : List Addr), QTs (X.blk s H scope (compEnvC scope cl C X.env) fp) ks ifs pt) (he : ∀ (s : Shared) (H : Hp) (C : Addr) (cl : List (Str × Addr)) (fp : List Addr), QE (X.blk s H scope (compEnvC scope cl C X.env) fp) ks a true elt p) :
    QE X ks a true e (xLc (own.map (·.2)) pa g pt p) := by rw [xLc_eq]; exact qe_lc pe hi hg ht he
end
end Vl
namespace Vl
open PySem PySem.Spec L2 Lb
section
variable {X : Cx}
def rRepr (K : Fg) : List V → Hp → VK → Prop := fun xs H Q => ∃ x d, xs = [x] ∧ Dp K H x d ∧ d.showable = true ∧ d.hasDict = false ∧ d.depth ≤ 30 ∧ d.shown.length ≤ sizeLine ∧ (∀ i, d = .int i → i.natAbs.log2 < 1920) ∧ Q (.str d.shown) H
theorem call_reprG (hg : X.A.guards = some []) (hu : X.A.units + 64 < cLine) : CallR X (.builtin "repr") (rRepr X.K) := by
  intro pins s σ H xs us Q I r h
  obtain ⟨x, d, rfl, hd, hs, hD, hdp, hz, hi, q⟩ := h
  obtain ⟨u, rfl, ru⟩ := vals1 r
  cases hd with
  | non => cases ru; exact PySem.P.repr_of_none ⟨.str _, H, I.tok _, ⟨_, rfl⟩, q⟩
  | bl b => cases ru; exact PySem.P.repr_of_bool ⟨.str _, H, I.tok _, ⟨_, rfl⟩, q⟩
  | int i => obtain ⟨t, rfl⟩ := ru; exact PySem.P.repr_of_int (hi i rfl) ⟨.str _, H, I.tok _, ⟨_, rfl⟩, q⟩
  | str y => obtain ⟨t, rfl⟩ := ru; exact PySem.P.repr_of_str ⟨.str _, H, I.tok _, ⟨_, rfl⟩, q⟩ hz
  | lst h1 h2 =>
    obtain ⟨as, rd⟩ := Dp.reads I _ _ _ (.lst h1 h2) ru
    cases ru
    exact repr_of_reads' rd hs (fun e => by rw [hD] at e; cases e) hg (by omega) (fun _ _ e => e) (fun h' u tk k => ⟨.str _, H, I.kept k, ⟨_, rfl⟩, q⟩) hz
  | tup h1 h2 =>
    obtain ⟨as, rd⟩ := Dp.reads I _ _ _ (.tup h1 h2) ru
    cases ru
    exact repr_of_reads' rd hs (fun e => by rw [hD] at e; cases e) hg (by omega) (fun _ _ e => e) (fun h' u tk k => ⟨.str _, H, I.kept k, ⟨_, rfl⟩, q⟩) hz
end
end Vl
namespace Vl
open PySem PySem.Spec L2 Lb PyProof.Rows
structure FnG (P : Program) (w : World) (K : Fg) (mg : Str → Option Value) (base : Heap) (k : Nat) (f : Addr) (fd : FuncData) (ps : List Str) (sp : Sp) : Prop where
  n : ∀ vs H Q E, sp vs H Q E → vs.length = ps.length
  go : ∀ (A : Around) (o : List Env) (s : Shared) (H : Hp) (args : Args) (us : List Value) (vs : List V) (Q : VK) (E : XK), A.guards = some [] → Room k A →
    Env0 P w K mg base A o s H → BindsTo s fd args (ps.zip us) → Vals vs us → sp vs H Q E → codeAny (model P w) A (.call (.ref f) args) (CR CX0 o P w H s Q E) s
section
variable {P : Program} {w : World} {K : Fg} {mg : Str → Option Value} {base : Heap} {k : Nat} {f : Addr} {fd : FuncData} {ps : List Str} {sp : Sp}
theorem FnG.mono {j : Nat} (F : FnG P w K mg base j f fd ps sp) (h : j ≤ k) : FnG P w K mg base k f fd ps sp := ⟨F.n, fun A o s H args us vs Q E g r => F.go A o s H args us vs Q E g (r.mono h)⟩
theorem fnG_of {nm qual : Str} {pr : Arguments} {bd : List Stmt} {sc : Scope} {dV kV doc pm cdv ct oc : Value} {an od : Option Addr} {osl : Array (Option Value)} {N : List Str}
    (lk : K.lookup f = some ⟨oc, od, .func (PySem.W.fnOf nm qual pr bd sc dV kV doc pm an cdv ct), osl⟩) (hcd : PySem.W.codeIn K cdv qual = true) (S : FnScope N ps sc) (hn : ∀ vs H Q E, sp vs H Q E → vs.length = ps.length)
    (hb : ∀ (A : Around) (o : List Env) (s : Shared) (H : Hp) (vs : List V) (Q : VK) (E : XK), A.guards = some [] → Room k (A.deeper (envOfC qual sc s.heap.objs.size f cdv)) → sp vs H Q E →
      ∃ t, PSs (cxOf CX0 P w K mg base N qual sc f cdv A o s H E) bd t ∧ t { nx := fun _ H' => Q .non H', rt := Q } (start N vs) H) :
    FnG P w K mg base (k + 1) f (PySem.W.fnOf nm qual pr bd sc dV kV doc pm an cdv ct) ps sp := by
  constructor
  · exact hn
  intro A o s H args us vs Q E g hr e0 bnd rv hsp
  have old : ∀ b u, base.get? b = some u → s.heap.get? b = some u := fun b u e => (e0.bs b u e).1
  have inK : K.In s.heap := e0.mod.kin.keeps old
  have kinds : ∀ y ∈ ps.zip us, sc.names.lookup y.1 = some .local ∨ (sc.names.lookup y.1 = some .cell ∧ ((cellsFrom (s.heap.objs.size + 1) sc.names []).lookup y.1).isSome = true) := by
    rintro ⟨a, b⟩ m
    exact (S.par a (List.of_mem_zip m).1).imp id fun z => ⟨z, PySem.W.cellsFrom_some _ _ _ (.inl z)⟩
  apply codeAny_call_function hr.depth (inK _ _ lk) rfl S.co S.gen rfl (PySem.W.codeRec_of inK hcd)
  apply bnd
  apply wpAny_newFunctionEnv_cells S.kind kinds
  rintro _ rfl s1 x
  constructor
  · exact (e0.mod.nolimit.keeps old).keeps x.toInCall.keep
  apply codeAny_func
  obtain ⟨t, h1, h2⟩ := hb A o s H vs Q E g (hr.deeper _) hsp
  have J := h1.run [] s1 (start N vs) H _ (inv_start S hr.hd e0 (hn _ _ _ _ hsp) rv x) h2
  refine wpAny_mono J (fun fl s' z => ?_) fun _ _ z => z
  match fl, z with
  | .ret u, ⟨v, _, H', J, r, q⟩ => exact ⟨v, H', J.os, J.bare, J.base, J.hok, r, q⟩
  | .next, ⟨_, H', J, q⟩ => exact ⟨.non, H', J.os, J.bare, J.base, J.hok, rfl, q⟩
  | .brk, ⟨_, _, _, q⟩ => exact q.elim
  | .cont, ⟨_, _, _, q⟩ => exact q.elim
end
end Vl
namespace Vl
open PySem PySem.Spec L2 Lb PyProof.Rows
section
variable {P : Program} {w : World} {K : Fg} {mg mb : Str → Option Value} {k : Nat} {fa a : Addr} {fd : FuncData} {x : Str} {sp : Sp} {s₁ : Shared} {vs : List Value} {ns : List Int}
theorem endG0 (KX : K.In s₁.heap) (h1 : s₁.heap.Ns mainGlobals mg) (h2 : s₁.heap.Ns builtinsNs mb) (h3 : ∀ x : Str, x ≠ "__name__" → mb x = bootBuiltins x) (h4 : s₁.heap.NoLimit) (h5 : s₁.gens = #[])
    (ha : s₁.heap.get? a = some { cls := .type "list", data := .seq vs.toArray }) (hr : Room k callerA)
    (F : ∀ base : Heap, K.In base → base.Ns mainGlobals mg → FnG P w K mg base k fa fd [x] sp) (hb : ∀ (s : Shared) (u : Value), BindsTo s fd ⟨[u], []⟩ [(x, u)])
    {H : Hp} (hO : Only H) (hok : HOk P w H s₁.heap) (hA : ∀ b, H b ≠ none → b = a) (hK : H a ≠ none → K.lookup a = none) (hs : sp [.ref a] H (fun v _ => v = .bl true) fun _ _ _ => False) (hE : ∀ e s', ¬ CX0 [] H s₁ (fun _ _ _ => False) e s') :
    codeAny (model P w) callerA (.call (.ref fa) ⟨[.ref a], []⟩) (fun r s' => r = .ok (.ret (.bool true)) ∧ OldK s₁.heap s'.heap ∧ s'.os = s₁.os ∧ AllBare s'.gens) s₁ := by
  have nd : ∀ {b : Addr} {o : Obj}, s₁.heap.get? b = some o → (b = a → False) → (hidT s₁.heap H).get? b = some o := fun {b o} e n => hidT_get e (Classical.byContradiction fun z => n (hA b z))
  have nsK : ∀ {b : Addr} {m : Str → Option Value}, s₁.heap.Ns b m → (hidT s₁.heap H).Ns b m := by
    rintro b m ⟨o, es, ep, e, d, r⟩
    refine ⟨o, es, ep, nd e fun z => ?_, d, r⟩
    subst z
    rw [ha] at e
    cases e
    cases (d : Data.seq vs.toArray _ = Data.dict es ep)
  have inK : K.In (hidT s₁.heap H) := by
    intro b o e
    refine hidT_get (KX b o e) (Classical.byContradiction fun z => ?_)
    have e' := hA b z
    subst e'
    rw [hK z] at e
    cases e
  obtain ⟨mc, l1, l2⟩ := h4
  have e0 : Env0 P w K mg (hidT s₁.heap H) callerA [] s₁ H :=
    ⟨rfl, ⟨inK, nsK h1, ⟨mb, nsK h2, h3⟩, ⟨mc, nsK l1, l2⟩⟩, fun b o e => of_hidT e, Nat.le_of_eq (hidT_size _ _), trivial, fun b z => absurd (show b ∈ ([] : List Addr) from z) (by simp), hok, .of_eq h5⟩
  have run := (F _ inK (nsK h1)).go callerA [] s₁ H ⟨[.ref a], []⟩ [.ref a] [.ref a] _ _ rfl hr e0 (hb s₁ (.ref a)) (.cons rfl .nil) hs
  refine codeAny_mono run fun r s' h => ?_
  match r, h with
  | .error e, h => exact (hE e s' h).elim
  | .ok .next, h => exact (h : False).elim
  | .ok .brk, h => exact (h : False).elim
  | .ok .cont, h => exact (h : False).elim
  | .ok (.ret u), ⟨v, H', os, bare, un, hok', r', q⟩ =>
    obtain rfl : v = .bl true := q
    obtain rfl : u = Value.bool true := r'
    refine ⟨rfl, OldK.of_keep fun b o e => ?_, os, bare⟩
    rcases hO b with z | ⟨ob, xs, z⟩
    · exact un.keep b o e z (fun m => absurd (show b ∈ ([] : List Addr) from m) (by simp)) (by simp)
    · have e1 := (hok b _ z).1
      rw [e] at e1
      cases e1
      exact (hok' b _ (un.frzs b _ _ z)).1
theorem endG (KX : K.In s₁.heap) (h1 : s₁.heap.Ns mainGlobals mg) (h2 : s₁.heap.Ns builtinsNs mb) (h3 : ∀ x : Str, x ≠ "__name__" → mb x = bootBuiltins x) (h4 : s₁.heap.NoLimit) (h5 : s₁.gens = #[])
    (ha : s₁.heap.get? a = some { cls := .type "list", data := .seq vs.toArray }) (hi : IntsAre vs ns) (hl : ns.length ≤ sizeLine) (hr : Room k callerA)
    (F : ∀ base : Heap, K.In base → base.Ns mainGlobals mg → FnG P w K mg base k fa fd [x] sp) (hb : ∀ (s : Shared) (u : Value), BindsTo s fd ⟨[u], []⟩ [(x, u)])
    (hs : ∀ H : Hp, Only H → SqL K H a (ns.map V.int) → sp [.ref a] H (fun v _ => v = .bl true) fun _ _ _ => False) (hE : ∀ H e s', ¬ CX0 [] H s₁ (fun _ _ _ => False) e s') :
    codeAny (model P w) callerA (.call (.ref fa) ⟨[.ref a], []⟩) (fun r s' => r = .ok (.ret (.bool true)) ∧ OldK s₁.heap s'.heap ∧ s'.os = s₁.os ∧ AllBare s'.gens) s₁ := by
  have rv := vals_ints hi
  have le : vs.toArray.size ≤ sizeLine := by rw [List.size_toArray, ← show ns.length = vs.length from hi.length.symm]; exact hl
  cases hk : K.lookup a with
  | some o =>
    have e := KX a o hk
    rw [ha] at e
    cases e
    have O : Only (fun _ => none) := fun _ => .inl rfl
    exact endG0 KX h1 h2 h3 h4 h5 ha hr F hb O (fun b u z => by cases (z : (none : Option HO) = some u)) (fun b z => absurd rfl z) (fun z => absurd rfl z) (hs _ O (.inr ⟨_, vs.toArray, _, hk, rfl, rfl, rfl, le, by simpa using rv⟩)) (hE _)
  | none =>
    let H : Hp := fun b => if b = a then some (.frz { cls := .type "list", data := .seq vs.toArray } (.lst (ns.map V.int))) else none
    have at_a : H a = some (.frz { cls := .type "list", data := .seq vs.toArray } (.lst (ns.map V.int))) := if_pos rfl
    have off : ∀ b, b ≠ a → H b = none := fun b n => if_neg n
    have O : Only H := fun b => by
      by_cases z : b = a
      · subst z; exact .inr ⟨_, _, at_a⟩
      · exact .inl (off b z)
    refine endG0 KX h1 h2 h3 h4 h5 ha hr F hb O (fun b u z => ?_) (fun b z => Classical.byContradiction fun n => z (off b n)) (fun _ => hk) (hs H O (.inl (.inr ⟨_, at_a⟩))) (hE _)
    by_cases n : b = a
    · subst n
      rw [at_a] at z
      cases z
      exact ⟨ha, by rw [List.length_map]; exact hl, vs, _, rv, ha⟩
    · rw [off b n] at z
      cases z
end
theorem walkG {l : PySem.W.OpenLaw} {n k : Nat} {q : Program} {loose : List Str} {XP : (Str → Option Value) → Heap → Prop} {YP : World → Heap → Prop} {d : DefRec} {x : Str}
    (hn : l.most = some n) (hn2 : n ≤ sizeLine) (hdf : d.params.defaults = []) (hr : Room k callerA)
    (F : ∀ (w : World) (mg : Str → Option Value) (fa : Addr) (h : Heap), YP w h → h.Ns mainGlobals mg → mg d.name = some (.ref fa) →
      ∃ (K : Fg) (fd : FuncData) (sp : Sp), K.In h ∧ (∀ (s : Shared) (u : Value), BindsTo s fd ⟨[u], []⟩ [(x, u)]) ∧
        (∀ (H : Hp) (a : Addr) (ns : List Int), ns.length ≤ n → Only H → SqL K H a (ns.map V.int) → sp [.ref a] H (fun v _ => v = .bl true) fun _ _ _ => False) ∧
        ∀ base : Heap, K.In base → base.Ns mainGlobals mg → FnG l.prog w K mg base k fa fd [x] sp) :
    PySem.W.WalkO q loose XP YP l.row.toRowW d [] (fun f vs => PySem.call f vs) := by
  apply Att.attach_call hn hdf
  intro w s₀ s₁ mg mb fa o pm cd doc a vs ns G Y ho hd hcd hmg hobj hints hlen hg
  obtain ⟨K, fd, sp, KX, hb, hsp, hF⟩ := F w mg fa _ Y G.T.g hmg
  exact endG KX G.T.g G.T.b G.T.builtins G.T.nolimit hg hobj hints (Nat.le_trans hlen hn2) hr hF hb (fun H hO hS => hsp H a ns hlen hO hS) fun _ _ _ z => z
end Vl
namespace Vl
open PySem PySem.Spec L2 Lb
def shw (x : PV) : Prop := dat 8 x = true ∧ (toD x).showable = true ∧ (toD x).hasDict = false ∧ (toD x).depth ≤ 30 ∧ (toD x).shown.length ≤ sizeLine ∧ ∀ i, toD x = .int i → i.natAbs.log2 < 1920
section
open PyProof.Rows
variable {P : Program} {w : World} {K : Fg} {mg : Str → Option Value} {base : Heap} {x qual : Str} {pr : Arguments} {bd : List Stmt} {sc : Scope} {dvs : List V} {kws : List (Str × V)} {f : Addr} {fd : FuncData}
theorem okG {N ps : List Str} {k : Nat} {sp : Sp} (F : FunD K x qual pr bd sc dvs kws f fd) (S : FnScope N ps sc) (hn : ∀ vs H Q E, sp vs H Q E → vs.length = ps.length)
    (hb : ∀ (cdv : Value) (A : Around) (o : List Env) (s : Shared) (H : Hp) (vs : List V) (Q : VK) (E : XK), A.guards = some [] → Room k (A.deeper (envOfC qual sc s.heap.objs.size f cdv)) → sp vs H Q E →
      ∃ t, PSs (cxOf CX0 P w K mg base N qual sc f cdv A o s H E) bd t ∧ t { nx := fun _ H' => Q .non H', rt := Q } (start N vs) H) : FnG P w K mg base (k + 1) f fd ps sp := by
  obtain ⟨oc, od, dV, kV, doc, pm, an, cdv, ct, osl, e, lk, hcd, z⟩ := F.ex
  subst e
  exact fnG_of lk hcd S hn (hb cdv)
end
end Vl
namespace Vl
open PySem PySem.Spec L2 Lb
end Vl
namespace Vl
open PySem PySem.Spec L2 Lb
end Vl
namespace Vl
open PySem PySem.Spec L2 Lb
def oNeS : PO2
  | .str a, .str b, Q => Q (.bl (!decide (a = b)))
  | _, _, _ => False
theorem dec_strV (a b : Str) : decide (V.str a = V.str b) = decide (a = b) := by
  by_cases h : a = b
  · simp [h]
  · rw [decide_eq_false h, decide_eq_false (fun z => h (V.str.inj z))]
theorem neS_ok {K : Fg} : OpS K (rNeA K) oNeS := by
  intro B H x y v u Q Qp hK rx ry h k
  cases rx <;> cases ry <;> first | exact (h : False).elim | skip
  refine .inl ⟨rfl, ?_⟩
  rw [dec_strV]; exact k _ _ H h (.refl _ _) fun A => .bl _
section
variable {X : Cx} {ks : List Kd} {a s a1 s1 a2 s2 : Bool} {e e1 e2 : Expr} {p p1 p2 : GE} {pos : Pos}
theorem qt_neS (hu : X.A.units + 64 < cLine) (h1 : QE X ks a1 s1 e1 p1) (h2 : QE X ks a2 s2 e2 p2) : QT X ks (.Compare e1 [.NotEq] [e2] pos) (pTest (pOp oNeS p1 p2)) := qt_opS neS_ok (fun x y => pt_cmpR (op_neA hu) x y (nomark _)) h1 h2
end
mutual
/-- small: ints below 10 ^ 18, texts of small signs, no dicts; w: how heavy -/
def smp : PV → Bool
  | .non => true
  | .bl _ => true
  | .int i => decide (i.natAbs < 10 ^ 18)
  | .str x => x.cps.all (· < 0x110000)
  | .lst xs => smps xs
  | .tup xs => smps xs
  | _ => false
def smps : List PV → Bool
  | [] => true
  | x :: xs => smp x && smps xs
def wgt : PV → Nat
  | .str x => x.cps.size
  | .lst xs => wgts xs
  | .tup xs => wgts xs
  | _ => 0
def wgts : List PV → Nat
  | [] => 0
  | x :: xs => wgt x + 61 + wgts xs
end
theorem int_shown {i : Int} (h : i.natAbs < 10 ^ 18) : (PyData.shown (.int i)).length ≤ 19 := by
  have e := int_text_length_le10 (k := 18) (by decide) h
  show (Str.ofString (toString i)).length ≤ 19
  rw [ofString_length]; exact e
theorem log_lt {n k : Nat} (h : n < 2 ^ k) (hk : 0 < k) : n.log2 < k := by
  by_cases z : n = 0
  · subst z; simpa using hk
  · exact (Nat.log2_lt z).mpr h
mutual
theorem smp_short : ∀ x : PV, smp x = true → PyData.leavesShort 19 (toD x) = true ∧ PyData.showable (toD x) = true ∧ PyData.weight (toD x) ≤ wgt x + 60 ∧ PyData.hasDict (toD x) = false
  | .non, _ => by simp [toD, PyData.leavesShort, PyData.showable, PyData.weight, PyData.hasDict]
  | .bl b, _ => by simp [toD, PyData.leavesShort, PyData.showable, PyData.weight, PyData.hasDict]
  | .int i, h => by
    have h : i.natAbs < 10 ^ 18 := by simpa [smp] using h
    have h2 : i.natAbs.log2 < 60 := log_lt (Nat.lt_of_lt_of_le h (by decide)) (by decide)
    refine ⟨by simp only [toD, PyData.leavesShort, decide_eq_true_eq]; exact int_shown h, by simp only [toD, PyData.showable, decide_eq_true_eq]; omega, ?_, by simp [toD, PyData.hasDict]⟩
    simp only [toD, PyData.weight]
    split <;> omega
  | .str x, h => by
    have h : x.cps.all (· < 0x110000) = true := by simpa only [smp] using h
    refine ⟨?_, by simp [toD, PyData.showable], by simp [toD, PyData.weight, wgt], by simp [toD, PyData.hasDict]⟩
    simp only [toD, PyData.leavesShort, List.all_eq_true, decide_eq_true_eq]
    intro c hc
    have h0 : x.cps.toList.all (· < 0x110000) = true := by rw [Array.all_toList]; exact h
    have := List.all_eq_true.mp h0 c hc
    simp at this
    omega
  | .lst xs, h => by
    have := smps_short xs (by simpa only [smp] using h)
    simp only [toD, PyData.leavesShort, PyData.showable, PyData.weight, PyData.hasDict, wgt]
    exact ⟨this.1, this.2.1, by omega, this.2.2.2⟩
  | .tup xs, h => by
    have := smps_short xs (by simpa only [smp] using h)
    simp only [toD, PyData.leavesShort, PyData.showable, PyData.weight, PyData.hasDict, wgt]
    exact ⟨this.1, this.2.1, by omega, this.2.2.2⟩
  | .ty _, h => by simp [smp] at h
  | .dK _, h => by simp [smp] at h
  | .dT _, h => by simp [smp] at h
  | .ins _ _, h => by simp [smp] at h
  | .cls _, h => by simp [smp] at h
  | .bag, h => by simp [smp] at h
theorem smps_short : ∀ xs : List PV, smps xs = true → PyData.leavesShortAll 19 (toDs xs) = true ∧ PyData.showableAll (toDs xs) = true ∧ PyData.weightAll (toDs xs) ≤ wgts xs ∧ PyData.hasDictAll (toDs xs) = false
  | [], _ => by simp [toDs, PyData.leavesShortAll, PyData.showableAll, PyData.weightAll, PyData.hasDictAll]
  | x :: xs, h => by
    rw [smps, Bool.and_eq_true] at h
    have h1 := smp_short x h.1
    have h2 := smps_short xs h.2
    simp only [toDs, PyData.leavesShortAll, PyData.showableAll, PyData.weightAll, PyData.hasDictAll, wgts, h1.1, h2.1, h1.2.1, h2.2.1, h1.2.2.2, h2.2.2.2, Bool.and_self, Bool.or_self]
    exact ⟨trivial, trivial, by omega, trivial⟩
end
end Vl
namespace Vl
open PySem PySem.Spec L2 Lb
end Vl
namespace Vl
open PySem PySem.Spec L2 Lb PyProof.Rows
end Vl
namespace Vl
open PySem PySem.Spec L2 Lb
section
variable {X : Cx} {ks : List Kd} {a s a1 s1 : Bool} {e : Expr} {es : List Expr} {pa : GA} {w : Vl.PW} {k n : Nat} {x : Str} {ps' : List Str} {dvs : List V} {ds : List PV} {p : GE} {p0 pos : Pos}
theorem Ob.rpA {B : Bg} {A A' : Addr → Prop} {H : Hp} {b : Addr} {x : PV} (h : Ob B A H b x) (n : ¬ A' b) (g : ∀ c, A' c → A c) : Rp B A' H x (.ref b) := by
  cases x with
  | lst xs => obtain ⟨vs, h1, h2⟩ := h; exact .lst n h1 (h2.anti g)
  | dT kvs => obtain ⟨ws, h1, h2, h3⟩ := h; exact .dT n h1 h2 rfl rfl rfl (h3.anti g)
  | dK kvs => obtain ⟨ws, h1, h2, h3⟩ := h; exact .dK n h1 h2 rfl rfl rfl (h3.anti g)
  | ins c fs => obtain ⟨dx, ws, h1, h2, h3⟩ := h; exact .ins n h1 h2 rfl (h3.anti g)
  | _ => exact h.elim
theorem qe_new (h : QN X ks e p) : QE X ks true true e p :=
  PEi h fun σ H Q ⟨E, L, γ, Qp, hK, R, hp, k⟩ => ⟨E, L, γ, Qp, hK, R, hp, fun x b H' qx x1 nb ob => k x (.ref b) H' qx x1 (ob.rpA (fun z => av_nn R z nb) fun c z => .inl z)⟩
end
end Vl
namespace Vl
open PySem PySem.Spec L2 Lb
theorem Obs.atI {B : Bg} {A : Addr → Prop} {H : Hp} {xs : List PV} {as : List Addr} {n : Int} {x : PV} (o : Obs B A H xs as) (h : L2.atI xs n = some x) : ∃ c, L2.atI (as.map V.ref) n = some (.ref c) ∧ Ob B A H c x := by
  unfold L2.atI at h ⊢
  rw [List.length_map, ← o.len]
  cases e : ixN xs.length n with
  | none => rw [e] at h; cases h
  | some j =>
    rw [e] at h
    obtain ⟨c, h1, h2⟩ := o.get h
    refine ⟨c, ?_, h2⟩
    show (as.map V.ref)[j]? = some (.ref c)
    rw [List.getElem?_map, h1]; rfl
end Vl
namespace Vl
open PySem PySem.Spec L2
@[irreducible] def yForP (g : GG) (b : GS) (D : GD) (xs : List PV) (γ : G) : Prop := forP g b D xs γ
theorem yForP_eq (g : GG) (b : GS) (D : GD) (xs : List PV) (γ : G) : yForP g b D xs γ = forP g b D xs γ := by unfold yForP; rfl
def yFor (it : GA) (g : GG) (b : GS) : GS := fun D γ => it γ fun xs => yForP g b D xs γ
theorem yFor_eq (it : GA) (g : GG) (b : GS) : yFor it g b = pFor it g b := by
  funext D γ
  show (it γ fun xs => yForP g b D xs γ) = it γ fun xs => forP g b D xs γ
  congr 1
  funext xs
  exact yForP_eq g b D xs γ
@[irreducible] def yLcP (g : GG) (t : GT) (e : GE) (γ : G) (xs : List PV) (Q : List PV → Prop) : Prop := lcP g t e γ xs Q
theorem yLcP_eq (g : GG) (t : GT) (e : GE) (γ : G) (xs : List PV) (Q : List PV → Prop) : yLcP g t e γ xs Q = lcP g t e γ xs Q := by unfold yLcP; rfl
def yLc (vs : List Nat) (it : GA) (g : GG) (t : GT) (e : GE) : GE := fun γ Q => it γ fun xs => xs.length ≤ sizeLine ∧ wipeS γ vs fun γw => yLcP g t e γw xs fun ys => Q (.lst ys)
theorem yLc_eq (vs : List Nat) (it : GA) (g : GG) (t : GT) (e : GE) : yLc vs it g t e = xLc vs it g t e := by
  funext γ Q
  show (it γ fun xs => xs.length ≤ sizeLine ∧ wipeS γ vs fun γw => yLcP g t e γw xs fun ys => Q (.lst ys)) = it γ fun xs => xs.length ≤ sizeLine ∧ wipeS γ vs fun γw => lcP g t e γw xs fun ys => Q (.lst ys)
  congr 1
  funext xs
  congr 2
  funext γw
  exact yLcP_eq g t e γw xs _
theorem yq_for {X : Cx} {ks kl : List Kd} {st : Stmt} {it : GA} {g : GG} {b : GS} (h : QS X ks ks kl st (pFor it g b)) : QS X ks ks kl st (yFor it g b) := by rw [yFor_eq]; exact h
theorem yq_lc {X : Cx} {ks : List Kd} {a s : Bool} {e : Expr} {vs : List Nat} {it : GA} {g : GG} {t : GT} {p : GE} (h : QE X ks a s e (xLc vs it g t p)) : QE X ks a s e (yLc vs it g t p) := by rw [yLc_eq]; exact h
theorem yfor_nil {g : GG} {b : GS} {D : GD} {γ : G} (k : D.nx γ) : yForP g b D [] γ := by rw [yForP_eq]; exact k
theorem yfor_cons {g : GG} {b : GS} {D : GD} {x : PV} {xs : List PV} {γ : G} (k : g x γ fun γ1 => b { D with nx := yForP g b D xs, ct := yForP g b D xs, bk := D.nx } γ1) : yForP g b D (x :: xs) γ := by
  rw [yForP_eq]
  have e : yForP g b D xs = forP g b D xs := funext fun γ => yForP_eq g b D xs γ
  rw [e] at k
  exact k
theorem ylc_nil {g : GG} {t : GT} {e : GE} {γ : G} {Q : List PV → Prop} (k : Q []) : yLcP g t e γ [] Q := by rw [yLcP_eq]; exact k
theorem ylc_cons {g : GG} {t : GT} {e : GE} {γ : G} {x : PV} {xs : List PV} {Q : List PV → Prop} (k : g x γ fun γ2 => t γ2 fun b => bfi b (e γ2 fun y => yLcP g t e γ xs fun ys => Q (y :: ys)) (yLcP g t e γ xs Q)) : yLcP g t e γ (x :: xs) Q := by
  rw [yLcP_eq]
  have h : yLcP g t e γ xs = lcP g t e γ xs := funext fun Q => yLcP_eq g t e γ xs Q
  rw [h] at k
  exact k
/-- range(n), the turn's number in the invariant -/
theorem yforR {g : GG} {b : GS} {D : GD} (I : Nat → G → Prop) {n : Nat} {γ : G} (i : I 0 γ) (hs : ∀ (m : Nat) γ, m < n → I m γ → ∀ K : G → Prop, (∀ γ', I (m + 1) γ' → K γ') → g (.int m) γ fun γ1 => b { D with nx := K, ct := K, bk := D.nx } γ1) (k : ∀ γ, I n γ → D.nx γ) : yForP g b D (Vl.upTo 0 n) γ := by
  unfold Vl.upTo
  rw [List.range_eq_range']
  suffices ∀ (c s : Nat) γ, s + c = n → I s γ → yForP g b D ((List.range' s c).map fun k : Nat => PV.int (0 + (k : Nat))) γ from this n 0 γ (by omega) i
  intro c
  induction c with
  | zero => intro s γ h i; exact yfor_nil (k _ (by rwa [show s = n by omega] at i))
  | succ c ih =>
    intro s γ h i
    rw [List.range'_succ, List.map_cons]
    refine yfor_cons ?_
    rw [Int.zero_add]
    exact hs s γ (by omega) i _ fun γ' i' => ih (s + 1) γ' (by omega) i'
/-- .. with a test -/
theorem ylcF {α : Type} {g : GG} {t : GT} {e : GE} {γ : G} {h f : α → PV} {c : α → Bool} : ∀ {l : List α} {Q : List PV → Prop}, (∀ a ∈ l, ∀ Q : Prop, ∀ Q' : PV → Prop, (c a = true → Q' (f a)) → (c a = false → Q) → g (h a) γ fun γ2 => t γ2 fun b => bfi b (e γ2 Q') Q) → Q ((l.filter c).map f) → yLcP g t e γ (l.map h) Q
  | [], _, _, k => ylc_nil k
  | a :: l, Q, hf, k => by
    refine ylc_cons (hf a (by simp) _ _ (fun h1 => ?_) (fun h1 => ?_))
    · exact ylcF (fun b m => hf b (by simp [m])) (by rw [List.filter_cons_of_pos h1] at k; exact k)
    · exact ylcF (fun b m => hf b (by simp [m])) (by rw [List.filter_cons_of_neg (by simp [h1])] at k; exact k)
/-- .. any value with a property -/
theorem ylcD {α : Type} {g : GG} {e : GE} {γ : G} {h : α → PV} {P : PV → Prop} : ∀ {l : List α} {Q : List PV → Prop}, (∀ a ∈ l, ∀ Q : PV → Prop, (∀ y, P y → Q y) → g (h a) γ fun γ2 => e γ2 Q) → (∀ ys, ys.length = l.length → (∀ y ∈ ys, P y) → Q ys) → yLcP g pYes e γ (l.map h) Q
  | [], _, _, k => ylc_nil (k [] rfl (by simp))
  | a :: l, Q, hf, k => ylc_cons (hf a (by simp) _ fun y hy => ylcD (fun b m => hf b (by simp [m])) fun ys hl hp => k (y :: ys) (by simp [hl]) fun z m => (List.mem_cons.mp m).elim (fun e => e ▸ hy) (hp z))
theorem bif2 {c : Prop} [Decidable c] {A B : Prop} (h1 : c → A) (h2 : ¬ c → B) : bfi (decide c) A B := by
  by_cases h : c
  · rw [decide_eq_true h]; exact h1 h
  · rw [decide_eq_false h]; exact h2 h
theorem bift {c : Prop} [Decidable c] {A B : Prop} (h : c) (k : A) : bfi (decide c) A B := by rw [decide_eq_true h]; exact k
theorem biff {c : Prop} [Decidable c] {A B : Prop} (h : ¬ c) (k : B) : bfi (decide c) A B := by rw [decide_eq_false h]; exact k
theorem nbift {c : Prop} [Decidable c] {A B : Prop} (h : c) (k : B) : bfi (!decide c) A B := by rw [decide_eq_true h]; exact k
theorem nbiff {c : Prop} [Decidable c] {A B : Prop} (h : ¬ c) (k : A) : bfi (!decide c) A B := by rw [decide_eq_false h]; exact k
@[irreducible] def jSeq (p q : GS) : GS := pSeq p q
theorem jSeq_eq (p q : GS) : jSeq p q = pSeq p q := by unfold jSeq; rfl
theorem jq {X : Cx} {ks ks' kl : List Kd} {sts : List Stmt} {p q : GS} (h : QB X ks ks' kl sts (pSeq p q)) : QB X ks ks' kl sts (jSeq p q) := by rw [jSeq_eq]; exact h
theorem j_by {p q : GS} {D : GD} {γ : G} (I : G → Prop) (h1 : ∀ K : G → Prop, (∀ γ', I γ' → K γ') → p { D with nx := K } γ) (h2 : ∀ γ', I γ' → q D γ') : jSeq p q D γ := by rw [jSeq_eq]; exact h1 (q D) h2
end Vl
namespace Vl
open PySem PySem.Spec L2 Lb PyProof.Rows
section
variable {X : Cx} {ks : List Kd} {a s : Bool} {e : Expr} {p : GE} {pos : Pos}
/-- a dict written with texts for keys -/
def pDisp : List (Str × GE) → G → (List (Key × PV) → Prop) → Prop
  | [], _, Q => Q []
  | (x, p) :: t, γ, Q => p γ fun y => pDisp t γ fun r => Q ((.inr x, y) :: r)
def pDict (l : List (Str × GE)) : GE := fun γ Q => pDisp l γ fun kvs => Q (.dK kvs)
inductive QPs (X : Cx) (ks : List Kd) (a s : Bool) : List (Option Expr) → List Expr → List (Str × GE) → List (TE × TE) → Prop
  | nil : QPs X ks a s [] [] [] []
  | cons {n : Nat} {q : Pos} {x : Str} {v : Expr} {p : GE} {ks' : List (Option Expr)} {vs : List Expr} {l : List (Str × GE)} {t : List (TE × TE)} : QE X ks a s v p → QPs X ks a s ks' vs l t → QPs X ks a s (some (.Constant (.str x) n q) :: ks') (v :: vs) ((x, p) :: l) ((tC (.str x), tE X.K ks a s p) :: t)
theorem QPs.pps {ks' : List (Option Expr)} {vs : List Expr} {l : List (Str × GE)} {t : List (TE × TE)} (h : QPs X ks a s ks' vs l t) : PPs X pos ks' vs t := by
  induction h with
  | nil => exact pps_nil
  | cons hv _ ih => exact pps_cons pe_str hv ih
theorem QPs.len {ks' : List (Option Expr)} {vs : List Expr} {l : List (Str × GE)} {t : List (TE × TE)} (h : QPs X ks a s ks' vs l t) : ks'.length = vs.length ∧ ks'.all (·.isSome) = true ∧ l.length = vs.length := by
  induction h with
  | nil => exact ⟨rfl, rfl, rfl⟩
  | cons _ _ ih => exact ⟨by simp [ih.1], by simpa using ih.2.1, by simp [ih.2.2]⟩
theorem QPs.run {E : Ac} {L : List Addr} {γ : G} {σ : L2.St} {ks' : List (Option Expr)} {vs : List Expr} {l : List (Str × GE)} {t : List (TE × TE)} (h : QPs X ks a s ks' vs l t) (hK : E.B.K = X.K) : ∀ {H : Hp} {Q : List (V × V) → Hp → Prop} {Qp : List (Key × PV) → Prop}, Rel E L ks γ σ H → pDisp l γ Qp →
    (∀ (kvs : List (Key × PV)) (ws : List (Key × V)) H', Qp kvs → Ex E.B H H' → kvs.map (·.1) = ws.map (·.1) → kvs.map (·.1) = l.map (fun y => Sum.inr y.1) → RpL E.B (av E L a s) H' (kvs.map (·.2)) (ws.map (·.2)) → Q (ws.map fun kv => (kV kv.1, kv.2)) H') → tPairs t σ H Q := by
  induction h with
  | nil => intro H Q Qp R hp k; exact k [] [] H hp (.refl _ _) rfl rfl .nil
  | @cons n q x v p ks' vs l t hv ht ih =>
    intro H Q Qp R hp k
    show tPairs ((tC (.str x), tE X.K ks a s p) :: t) σ H Q
    show tE X.K ks a s p σ H fun y H2 => tPairs t σ H2 fun ps H3 => Q ((.str x, y) :: ps) H3
    refine ⟨E, L, γ, _, hK, R, hp, fun y u H1 q1 x1 r1 => ih (R.ex x1) q1 fun kvs ws H2 q2 x2 e1 e2 r2 => ?_⟩
    exact k ((.inr x, y) :: kvs) ((.inr x, u) :: ws) H2 q2 (x1.trans x2) (by simp [e1]) (by simp [e2]) (.cons (r1.ex x2 av_q) r2)
theorem put_new {kvs : List (Key × V)} {k : Key} {v : V} (h : ¬ k ∈ kvs.map (·.1)) : putK kvs k v = kvs ++ [(k, v)] := by
  unfold putK
  rw [if_neg]
  intro z
  simp only [List.any_eq_true, decide_eq_true_eq] at z
  obtain ⟨y, m, e⟩ := z
  exact h (List.mem_map.mpr ⟨y, m, e⟩)
theorem merge_new : ∀ {more kvs : List (Key × V)}, ((kvs ++ more).map (·.1)).Nodup → mergeK kvs more = kvs ++ more
  | [], kvs, _ => by simp [mergeK]
  | (k, v) :: more, kvs, h => by
    have e : mergeK kvs ((k, v) :: more) = mergeK (putK kvs k v) more := rfl
    have hn : ¬ k ∈ kvs.map (·.1) := by
      intro m
      rw [List.map_append, List.nodup_append] at h
      exact h.2.2 k m k (by simp) rfl
    rw [e, put_new hn, merge_new (by simpa using h), List.append_assoc]
    rfl
theorem qe_dict {keys : List (Option Expr)} {values : List Expr} {l : List (Str × GE)} {t : List (TE × TE)} (h : QPs X ks a true keys values l t) (h0 : keys ≠ [] := by exact nofun) (h15 : keys.length ≤ 15 := by decide) (hd : (l.map (·.1)).Nodup := by decide +kernel) : QE X ks a true (.Dict keys values pos) (pDict l) :=
  PEi (pe_disp h.pps h.len.2.1 h.len.1 h0 h15) fun σ H Q ⟨E, L, γ, Qp, hK, R, hp, k⟩ => by
    intro p np
    have R1 := R.more (D := p) (Ex.new (B := E.B) (o := .dK []) np) np (by rw [upd_same]; exact nofun)
    refine h.run hK R1 hp fun kvs ws H2 q x2 e1 e2 r2 => ?_
    have hp2 : H2 p = some (.dK []) := x2.st p _ upd_same fun z => by
      have := R.bag.q; rw [← z] at this; exact this np
    have hl : ws.length = l.length := by
      have := congrArg List.length (e1.symm.trans e2); simpa using this
    refine ⟨hp2, ws, rfl, by rw [hl, h.len.2.2, ← h.len.1]; exact h15, ?_⟩
    have nd : (ws.map (·.1)).Nodup := by
      rw [← e1, e2]
      have : (l.map fun y => (Sum.inr y.1 : Key)) = (l.map (·.1)).map Sum.inr := by rw [List.map_map]; rfl
      rw [this]
      exact List.Pairwise.map _ (fun _ _ h e => h (Sum.inr.inj e)) hd
    rw [merge_new (kvs := []) (by simpa using nd), List.nil_append]
    have na : ¬ av E L a true p := fun z => av_nn R z np
    have xx : Ex E.B H (upd H2 p (.dK ws)) := by
      refine ⟨fun b o hb nb => ?_, fun b vs hb => ?_, fun b hb => ?_, fun hbg => ?_⟩
      · have hne : b ≠ p := fun z => by rw [z] at hb; rw [np] at hb; cases hb
        rw [upd_ne hne]
        exact x2.st b o (by rw [upd_ne hne]; exact hb) nb
      · have hne : b ≠ p := fun z => by rw [z] at hb; rw [np] at hb; cases hb
        rw [upd_ne hne]
        exact x2.tp b vs (by rw [upd_ne hne]; exact hb)
      · have hne : b ≠ p := fun z => hb (by rw [z]; exact np)
        rw [upd_ne hne]
        exact x2.nn b (by rw [upd_ne hne]; exact hb)
      · have b1 : BagOk E.B H2 := x2.bg (hbg.stay (fun o e => by rw [upd_ne (fun z => by rw [z] at e; rw [np] at e; cases e)]; exact e) fun o e => by rw [upd_ne (fun z => by rw [z] at e; rw [np] at e; cases e)]; exact e)
        refine b1.stay (fun o e => ?_) fun o e => ?_
        · rw [upd_ne (fun z => by rw [z] at e; have := hbg.q; rw [z] at this; exact this np)]; exact e
        · rw [upd_ne (fun z => by
            obtain ⟨_, _, _, _, _, hr, _⟩ := hbg
            rw [z] at hr; rw [np] at hr; cases hr)]; exact e
    refine k _ _ _ q xx ?_
    refine .dK na upd_same rfl e1.symm rfl rfl ?_
    exact r2.mv (fun b o hb nb => by
      have hbp : b ≠ p := fun z => nb (.inr (.inr ⟨rfl, by rw [z]; exact List.mem_cons_self ..⟩))
      rw [upd_ne hbp]; exact hb) (fun b vs hb => by
      have hne : b ≠ p := fun z => by rw [z] at hb; rw [hp2] at hb; cases hb
      rw [upd_ne hne]; exact hb) fun b z _ => by
        rcases z with z | z | ⟨z1, z⟩
        · exact .inl z
        · exact .inr (.inl z)
        · exact .inr (.inr ⟨z1, List.mem_cons_of_mem _ z⟩)
end
end Vl
namespace Vl
open PySem PySem.Spec L2 Lb
section
variable {X : Cx} {ks kl : List Kd} {a s a1 s1 a2 s2 : Bool} {e e1 e2 o : Expr} {es : List Expr} {p p1 p2 : GE} {pa : GA} {pos tpos : Pos} {st : Stmt} {x1 : Nat}
theorem qn_dK : QN X ks (.Dict [] [] pos) (pC (.dK [])) :=
  PEi pe_dnewK fun σ H Q ⟨E, L, γ, Qp, hK, R, hp, k⟩ => fun b nb => k _ b _ hp (.new nb) nb ⟨[], upd_same, rfl, .nil⟩
end
end Vl
namespace Vl
open PySem PySem.Spec L2 Lb
end Vl
namespace Vl
open PySem PySem.Spec L2 Lb
section
variable {X : Cx} {ks ks' kl : List Kd} {a s a1 s1 a2 s2 : Bool} {e e1 e2 : Expr} {es : List Expr} {p p1 p2 : GE} {pt pt1 pt2 : GT} {pa : GA} {pos : Pos} {st : Stmt}
def oAddL : PO2
  | .lst xs, .lst ys, Q => xs.length + ys.length ≤ sizeLine ∧ Q (.lst (xs ++ ys))
  | _, _, _ => False
theorem qn_add (h1 : QE X ks true true e1 p1) (h2 : QE X ks true true e2 p2) : QN X ks (.BinOp e1 .Add e2 pos) (pOp oAddL p1 p2) :=
  PEi (pe_op op_addA h1 h2) fun σ H Q ⟨E, L, γ, Qp, hK, R, hp, k⟩ => by
    refine ⟨E, L, γ, _, hK, R, hp, fun x v H1 q1 x1 r1 => ⟨E, L, γ, _, hK, R.ex x1, q1, fun y u H2 q2 x2 r2 => ?_⟩⟩
    have r3 := r1.ex x2 av_q
    clear r1
    cases r3 <;> cases r2 <;> first | exact (q2 : False).elim | skip
    rename_i b vs xs n1 h1 ra c ws ys n2 h2 rb
    exact .inr (.inr ⟨_, _, _, _, rfl, rfl, h1, h2, by rw [← ra.length, ← rb.length]; exact q2.1, fun d nd => k _ d _ q2.2 (x1.trans (x2.trans (.new nd))) ((x1.trans x2).free nd) ⟨_, upd_same, ((ra.append rb).more nd).ex (.new nd) (.inl av_q)⟩⟩)
end
end Vl
namespace Vl
open PySem PySem.Spec L2 Lb
end Vl
namespace Vl
open PySem PySem.Spec L2 Lb
end Vl
namespace Vl
open PySem PySem.Spec L2 Lb
end Vl
namespace Vl
open PySem PySem.Spec L2 Lb
end Vl
namespace Vl
open PySem PySem.Spec L2 Lb
end Vl
namespace Vl
open PySem PySem.Spec L2 Lb
end Vl
namespace Vl
open PySem PySem.Spec L2 Lb
end Vl
namespace Vl
open PySem PySem.Spec L2 Lb PySem.Builtin PySem.Builtin.Str
end Vl
namespace Vl
open PySem PySem.Spec L2 Lb
end Vl
namespace Vl
open PySem PySem.Spec L2 Lb
theorem Rel.newOwn {ks : List Kd} {E : Ac} {L : List Addr} {γ : G} {σ : St} {H H1 : Hp} {i : Nat} {x : PV} {b : Addr} (R : Rel E L ks γ σ H) (x1 : Ex E.B H H1) (nb : H b = none) (ob : Ob E.B (fun c => av E L true true c ∨ c = b) H1 b x) (hi : i < ks.length) :
    Fw E.B L H (b :: L) H1 ∧ Rel E (b :: L) (ks.set i .own) (γ.set i (some x)) (σ.set i (some (.ref b))) H1 := by
  have hb : H1 b ≠ none := by cases x <;> first | exact (ob : False).elim | (obtain ⟨_, h, _⟩ := ob; rw [h]; exact nofun) | (obtain ⟨_, _, h, _⟩ := ob; rw [h]; exact nofun)
  have R1 := R.more x1 nb hb
  have nL : b ∉ L := fun z => (R.lf b z).2 nb
  refine ⟨.more x1 nb, R.put (i := i) (k := .own) (x := x) (v := .ref b) (O' := [b]) (.more x1 nb) (fun c m _ o e => x1.st c o e (R.lq m)) R1.old R1.bag (fun c h => (List.mem_cons.mp h).elim (fun z => .inr (by rw [z]; exact (R1.lf b (by simp)).1)) .inl) (fun a h => (R1.lf a h).2) (fun _ h => List.mem_cons_of_mem _ h) ⟨b, rfl, rfl, ?_⟩ (fun c m => by simp at m; simp [m]) (by simp) ?_ hi⟩
  · exact ob.mv (fun _ _ h _ => h) (fun _ _ h => h) (fun c z _ => by
      rcases z with z | z | ⟨_, z⟩
      · exact .inl (.inl z)
      · exact .inl (.inr (.inl z))
      · exact (List.mem_cons.mp z).elim .inr fun z => .inl (.inr (.inr ⟨rfl, z⟩))) fun _ h => h
  · intro O h2 h3 h1 j c hj hc m
    simp at hc; subst hc
    exact nL (h2 j c m)
theorem yq_setLcN {X : Cx} {ks kl : List Kd} {st : Stmt} {i : Nat} {tg elt iter : Expr} {ifs : List Expr} {scope : Scope} {own : List (Str × Nat)} {pa : GA} {g : GG} {pt : GT} {p : GE} {a1 : Bool} (pe : ∀ {wi : TI} {g : TG} {tt : TT} {te : TE}, PI X tg iter wi → (∀ (s : Shared) (H : Hp) (C : Addr) (cl : List (Str × Addr)) (fp : List Addr), PG (X.blk s H scope (compEnvC scope cl C X.env) fp) tg g) →
      (∀ (s : Shared) (H : Hp) (C : Addr) (cl : List (Str × Addr)) (fp : List Addr), PTs (X.blk s H scope (compEnvC scope cl C X.env) fp) ifs tt) → (∀ (s : Shared) (H : Hp) (C : Addr) (cl : List (Str × Addr)) (fp : List Addr), PE (X.blk s H scope (compEnvC scope cl C X.env) fp) elt te) → PS X st (tAsg (tLc wi g tt te (own.map (·.2))) (gName i)))
    (hi : QI X ks a1 tg iter pa) (hg : ∀ (s : Shared) (H : Hp) (C : Addr) (cl : List (Str × Addr)) (fp : List Addr), QG (X.blk s H scope (compEnvC scope cl C X.env) fp) ks a1 true (own.map (·.2)) tg g)
    (ht : ∀ (s : Shared) (H : Hp) (C : Addr) (cl : List (Str × Addr)) (fp : List Addr), QTs (X.blk s H scope (compEnvC scope cl C X.env) fp) ks ifs pt) (he : ∀ (s : Shared) (H : Hp) (C : Addr) (cl : List (Str × Addr)) (fp : List Addr), QE (X.blk s H scope (compEnvC scope cl C X.env) fp) ks true true elt p)
    (hik : i < ks.length := by decide) : QS X ks (ks.set i .own) kl st (xSet i (yLc (own.map (·.2)) pa g pt p)) := by
  rw [yLc_eq, xSet_eq, xLc_eq]
  refine PSi (pe hi hg ht he) fun D σ H ⟨E, L, γ, Dp, hK, R, hp, nx, rt, bk, ct⟩ => lc_ok hK R hp (fun _ h => h) fun ys acc D H1 q1 x1 n h r => ?_
  have := R.newOwn (i := i) (x := .lst ys) (b := D) x1 n ⟨acc, h, r.mv (fun _ _ h _ => h) (fun _ _ h => h) fun c z _ => ?_⟩ hik
  · exact nx (D :: L) _ _ H1 this.1 this.2 q1
  · rcases z with z | z
    · exact av_cons z
    · exact .inr (.inr ⟨rfl, by rw [z]; simp⟩)
end Vl
namespace Vl
open PySem PySem.Spec L2 Lb
end Vl
namespace Vl
open PySem PySem.Spec L2 Lb
end Vl
namespace Vl
open PySem PySem.Spec PyProof.Rows L2 Lb
end Vl
namespace Vl
open PySem PySem.Spec L2 Lb
abbrev KVs := List (List Key × PV)
/-- the new dict at D as it goes -/
def DsT (E : Ac) (L : List Addr) (D : Addr) (H1 : Hp) (d : KVs) (H : Hp) : Prop := Ex E.B H1 H ∧ ∃ ws, H D = some (.dT ws) ∧ d.map (·.1) = ws.map (·.1) ∧ RpL E.B (av E (D :: L) true true) H (d.map (·.2)) (ws.map (·.2))
theorem DsT.ex {E : Ac} {L : List Addr} {D : Addr} {H1 H H' : Hp} {d : KVs} (h : DsT E L D H1 d H) (x : Ex E.B H H') (nq : D ≠ E.B.q) : DsT E L D H1 d H' := by
  obtain ⟨x1, ws, h1, h2, h3⟩ := h
  exact ⟨x1.trans x, ws, x.st _ _ h1 nq, h2, h3.ex x av_q⟩
end Vl
namespace Vl
open PySem PySem.Spec L2 Lb
section
variable {X : Cx} {ks : List Kd} {a s a1 : Bool} {e o kx vx tg : Expr} {ifs : List Expr} {p : GE} {g : GG} {pt : GT} {pos apos cpos : Pos} {js vs : List Nat}
/-- at work with nothing but the bag -/
def Ac.bare (E : Ac) (H : Hp) : Ac := ⟨E.B, fun b => b = E.B.q, fun b => if b = E.B.q then H b else if b = E.B.r then H b else none, E.me⟩
theorem Rel.bare {E : Ac} {L : List Addr} {γ γ' : G} {σ : St} {H H' : Hp} (R : Rel E L ks γ σ H) (hq : H' E.B.q = H E.B.q) (hr : H' E.B.r = H E.B.r) (hl : γ'.length = γ.length) (hn : ∀ (i : Nat) (x : PV), γ'[i]? ≠ some (some x)) : Rel (E.bare H') [] ks γ' σ H' := by
  obtain ⟨x, y, z, cs, h1, h2, h3, h4⟩ := R.bag
  have bag' : BagOk E.B H' := ⟨x, y, z, cs, hq.trans h1, hr.trans h2, h3, h4⟩
  refine ⟨fun a o h n => ?_, fun a h => ?_, bag', fun a h => ?_, rfl, ?_, (fun _ z => nomatch z), hl.trans R.len, ⟨fun _ => [], (fun i x h => absurd h (hn i x)), (fun _ _ z => nomatch z), (fun _ _ _ z => nomatch z), fun _ => List.nodup_nil⟩⟩
  · have h : (if a = E.B.q then H' a else if a = E.B.r then H' a else none) = some o := h
    have n : a ≠ E.B.q := n
    rw [if_neg n] at h
    by_cases e : a = E.B.r
    · rw [if_pos e] at h; exact h
    · rw [if_neg e] at h; cases h
  · have h : (if a = E.B.q then H' a else if a = E.B.r then H' a else none) ≠ none := h
    by_cases e : a = E.B.q
    · rw [if_pos e] at h; exact h
    · rw [if_neg e] at h
      by_cases e : a = E.B.r
      · rw [if_pos e] at h; exact h
      · rw [if_neg e] at h; exact absurd rfl h
  · have h : a = E.B.q := h
    show (if a = E.B.q then H' a else if a = E.B.r then H' a else none) ≠ none
    rw [if_pos h, h, hq, h1]; exact nofun
  · show (if E.B.r = E.B.q then H' E.B.r else if E.B.r = E.B.r then H' E.B.r else none) ≠ none
    rw [if_neg h3, if_pos rfl, hr, h2]; exact nofun
end
end Vl
namespace Vl
end Vl
namespace Vl
open PySem PySem.Spec L2 Lb
end Vl
namespace Vl
open PySem PySem.Spec L2 Lb PyProof.Rows
end Vl
namespace Vl
open PySem PySem.Spec L2 Lb
end Vl
namespace Vl
open PySem PySem.Spec L2 Lb PyProof.Rows
end Vl
namespace Vl
open PySem PySem.Spec PyProof.Rows L2 Lb
end Vl
namespace Vl
open PySem PySem.Spec PyProof.Rows L2 Lb
end Vl
namespace Vl
open PySem PySem.Spec L2 Lb
end Vl
namespace Vl
open PySem PySem.Spec L2 Lb
end Vl
namespace Vl
open PySem PySem.Spec L2 Lb
mutual
theorem RpO.any {B : Bg} {A A' : Addr → Prop} {H : Hp} : ∀ {x : PV} {v : V} {O : List Addr}, RpO B A H x v O → RpO B A' H x v O
  | _, _, _, .imm e r => .imm e (r.im e)
  | _, _, _, .lst h r => .lst h (RpOL.any r)
  | _, _, _, .tup h r => .tup h (RpOL.any r)
theorem RpOL.any {B : Bg} {A A' : Addr → Prop} {H : Hp} : ∀ {x : List PV} {v : List V} {O : List Addr}, RpOL B A H x v O → RpOL B A' H x v O
  | _, _, _, .nil => .nil
  | _, _, _, .cons h r => .cons (RpO.any h) (RpOL.any r)
end
section
variable {X : Cx} {ks ks' kl : List Kd} {a s : Bool} {e e1 tg : Expr} {p p1 p2 : GE} {st : Stmt} {pos : Pos} {i : Nat}
theorem vis_kd {ks : List Kd} (hs : ks.all Kd.vis = true) (i : Nat) : (kd ks i).vis = true := by
  unfold kd
  by_cases h : i < ks.length
  · simp only [List.getD, List.getElem?_eq_getElem h, Option.getD_some]
    exact List.all_eq_true.mp hs _ (List.getElem_mem h)
  · simp only [List.getD, List.getElem?_eq_none (Nat.not_lt.mp h), Option.getD_none]
    rfl
theorem Rel.bor {E : Ac} {L : List Addr} {γ : G} {σ : L2.St} {H : Hp} (R : Rel E L ks γ σ H) (hs : ks.all Kd.vis = true) {n : Nat} (hn : γ.length ≤ n) : Rel ⟨E.B, fun a => H a ≠ none, H, E.me⟩ [] (List.replicate n .bor) γ σ H := by
  refine ⟨fun _ _ h _ => h, fun _ h => h, R.bag, fun _ h => h, R.bag.q, R.onn _ R.ar, (fun _ m => nomatch m), R.len, fun _ => [], fun i x hx => ?_, (fun _ _ m => nomatch m), (fun _ _ _ m => nomatch m), fun _ => List.nodup_nil⟩
  obtain ⟨v, hv, r⟩ := R.read hx (vis_kd hs i)
  have hi : i < n := Nat.lt_of_lt_of_le (List.getElem?_eq_some_iff.mp hx).1 hn
  refine ⟨v, hv, ?_⟩
  have : kd (List.replicate n Kd.bor) i = .bor := by unfold kd; simp [List.getD, List.getElem?_replicate, hi]
  rw [this]
  refine ⟨rfl, r.anti fun c z => ?_⟩
  rcases z with z | ⟨z, _⟩ | ⟨_, z⟩
  · exact .inl z
  · cases z
  · cases z
theorem RpOL.len {B : Bg} {A : Addr → Prop} {H : Hp} : ∀ {xs : List PV} {vs : List V} {O : List Addr}, RpOL B A H xs vs O → xs.length = vs.length
  | _, _, _, .nil => rfl
  | _, _, _, .cons _ t => by simp [RpOL.len t]
end
end Vl
namespace Vl
open PySem PySem.Spec L2 Lb
end Vl
namespace Vl
open PySem PySem.Spec PyProof.Rows L2 Lb
end Vl
namespace Vl
open PySem PySem.Spec L2 Lb
structure XP where
  c : Str
  f : Option PV
/-- the field that a class's maker sets -/
def exF (c : Str) : Str :=
  ([("Wrong", "at"), ("NoLetter", "letter"), ("NoNumber", "number"), ("NoPlace", "at"), ("TooLong", "most"), ("TooMany", "most"), ("Bare", "at"), ("NoRow", "at"), ("NoName", "name"), ("There", "name"), ("NotOne", "name"), ("NoLog", "at")] : List (Str × Str)).lookup c |>.getD ""
/-- an exception of the class cls with the dict d is this one -/
def XpIs (B : Bg) (H : Hp) (cls : Value) (d : Option Addr) (xp : XP) : Prop :=
  cls = .ref (He.ga B.K xp.c) ∧ match xp.f with
  | none => d = none
  | some x => imm x = true ∧ ∃ b u, d = some b ∧ H b = some (.xd [(exF xp.c, u)]) ∧ Rp B (fun _ => False) H x u
def XcOk (W : WX) (kx : Option (List Kd)) (E : Ac) (L : List Addr) (H : Hp) (xc : XP → G → Prop) : Prop :=
  ∀ xp cls d L' k' γ' σ' H', (∀ k, kx = some k → k' = k) → Fw E.B L H L' H' → Rel E L' k' γ' σ' H' → XpIs E.B H' cls d xp → (∀ b, d = some b → b ∉ L' ∧ E.H0 b = none) → xc xp γ' → W cls d σ' H'
theorem XcOk.fw {W : WX} {kx : Option (List Kd)} {E : Ac} {L L' : List Addr} {H H' : Hp} {xc : XP → G → Prop} (h : XcOk W kx E L H xc) (f : Fw E.B L H L' H') : XcOk W kx E L' H' xc :=
  fun xp cls d L2 k' γ' σ' H2 hk f2 R x n q => h xp cls d L2 k' γ' σ' H2 hk (f.trans f2) R x n q
end Vl
namespace Vl
open PySem PySem.Spec L2 Lb
end Vl
namespace Vl
open PySem PySem.Spec L2 Lb PyProof.Rows
end Vl
namespace Vl
open PySem PySem.Spec L2 Lb PyProof.Rows
def hD (D : GD) : GD := { nx := fun _ => False, rt := D.rt, bk := fun _ => False, ct := fun _ => False }
section
variable {X : Cx} {ks : List Kd} {a : Addr} {oe : Obj} {d : Option Addr} {pn : List (Addr × Obj)} {c f : Str} {i : Nat} {e1 e2 : Expr} {pos p0 : Pos}
/-- the exception's slot read -/
theorem Rel.exc {E : Ac} {L : List Addr} {γ : G} {σ : L2.St} {H : Hp} {x : PV} (R : Rel E L ks γ σ H) (hk : ks[i]? = some (.exc a d f)) (hx : γ[i]? = some (some x)) : σ[i]? = some (some (.ref a)) ∧ (d = none → x = .bag) ∧ ∀ b, d = some b → ¬ av E L true true b ∧ ∃ u, H b = some (.xd [(f, u)]) ∧ Rp E.B (av E L true true) H x u := by
  obtain ⟨O, h1, _⟩ := R.sl
  obtain ⟨v, hv, k⟩ := h1 i x hx
  rw [getElem?_kd hk] at k
  obtain ⟨_, rfl, k1, k2⟩ := k
  exact ⟨hv, k1, k2⟩
end
end Vl
namespace Vl
open PySem PySem.Spec L2 Lb PyProof.Rows
end Vl
namespace Vl
open PySem PySem.Spec L2 Lb PyProof.Rows
end Vl
namespace Vl
open PySem PySem.Spec L2 Lb PyProof.Rows
end Vl
namespace Vl
open PySem PySem.Spec L2 Lb PyProof.Rows
end Vl
namespace Vl
open PySem PySem.Spec L2 Lb PyProof.Rows
end Vl
namespace Vl
open PySem PySem.Spec L2 Lb PyProof.Rows
end Vl
namespace Vl
open PySem PySem.Spec L2 Lb
end Vl
namespace Vl
open PySem PySem.Spec L2 Lb
end Vl
namespace Vl
open PySem PySem.Spec L2 Lb
end Vl
namespace Vl
open PySem PySem.Spec L2 Lb
end Vl
namespace Vl
open PySem PySem.Spec L2 Lb
mutual
def blk : PV → Nat
  | .str x => x.cps.size
  | .lst xs => blks xs
  | .tup xs => blks xs
  | _ => 0
def blks : List PV → Nat
  | [] => 0
  | x :: xs => blk x + 1 + blks xs
end
mutual
theorem bulk_le : ∀ x : PV, smp x = true → PyData.bulk (toD x) ≤ blk x
  | .non, _ => by simp [toD, PyData.bulk]
  | .bl b, _ => by simp [toD, PyData.bulk]
  | .int i, _ => by simp [toD, PyData.bulk]
  | .str x, _ => by simp [toD, PyData.bulk, blk]
  | .lst xs, h => by
    have := bulks_le xs (by simpa only [smp] using h)
    simpa only [toD, PyData.bulk, blk] using this
  | .tup xs, h => by
    have := bulks_le xs (by simpa only [smp] using h)
    simpa only [toD, PyData.bulk, blk] using this
  | .ty _, h => by simp [smp] at h
  | .dK _, h => by simp [smp] at h
  | .dT _, h => by simp [smp] at h
  | .ins _ _, h => by simp [smp] at h
  | .cls _, h => by simp [smp] at h
  | .bag, h => by simp [smp] at h
theorem bulks_le : ∀ xs : List PV, smps xs = true → PyData.bulkAll (toDs xs) ≤ blks xs
  | [], _ => by simp [toDs, PyData.bulkAll]
  | x :: xs, h => by
    rw [smps, Bool.and_eq_true] at h
    have h1 := bulk_le x h.1
    have h2 := bulks_le xs h.2
    simp only [toDs, PyData.bulkAll, blks]
    omega
end
theorem shw_bulk {x : PV} (hd : dat 8 x = true) (hs : smp x = true) (hw : blk x ≤ 700000) : shw x := by
  obtain ⟨h1, h2, h3, h4⟩ := smp_short x hs
  have h5 := (dat_lay 8 x hd).2
  have h6 := bulk_le x hs
  refine ⟨hd, h2, h4, by omega, ?_, fun i e => ?_⟩
  · have := PyData.shown_le_bulk 19 (by decide) _ h1
    rw [sizeLine_eq]; omega
  · rw [e] at h2
    simpa [PyData.showable] using h2
end Vl
namespace Vl
open PySem PySem.Spec L2 Lb PyProof.Rows
theorem qe_dK0 {X : Cx} {ks : List Kd} {pos : Pos} : QE X ks true true (.Dict [] [] pos) (pC (.dK [])) := qe_new qn_dK
def keyD : Key → PyData
  | .inl i => .int i
  | .inr x => .str x
def toDD : PV → PyData
  | .dK kvs => .dict (kvs.map fun kv => (keyD kv.1, toD kv.2))
  | x => toD x
/-- what is shown: plain data, or a dict of plain things that are no lists -/
def shwD (x : PV) : Prop := shw x ∨ ∃ kvs, x = .dK kvs ∧ kvs.all (fun kv => dat 0 kv.2) = true ∧ (toDD x).showable = true ∧ (toDD x).depth ≤ 30 ∧ (toDD x).shown.length ≤ sizeLine
theorem reads_key {h : Heap} {k : Key} {v : Value} (e : keyIs k v = true) : Reads h v (keyD k) [] := by
  rcases keyIs_shape e with ⟨i, t, rfl, rfl⟩ | ⟨x, t, rfl, rfl⟩
  · exact .int _ _
  · exact .str _ _
theorem reads_one {B : Bg} {A : Addr → Prop} {H : Hp} {h : Heap} {x : PV} {v : V} {u : Value} (r : Rp B A H x v) (d : dat 0 x = true) (ru : RelV v u) : Reads h u (toD x) [] := by
  cases r <;> first | (simp [dat] at d; done) | skip
  · cases ru; exact .none
  · cases ru; exact .bool _
  · obtain ⟨t, rfl⟩ := ru; exact .int _ _
  · obtain ⟨t, rfl⟩ := ru; exact .str _ _
theorem reads_kv {P : Program} {w : World} {B : Bg} {A : Addr → Prop} {H : Hp} {h : Heap} : ∀ {kvs : List (Key × PV)} {ws : List (Key × V)} {vs : List (Key × Value)} {es : List DictEntry},
    kvs.map (·.1) = ws.map (·.1) → RpL B A H (kvs.map (·.2)) (ws.map (·.2)) → KV ws vs → Pairs (mixKind P w) es vs → kvs.all (fun kv => dat 0 kv.2) = true →
    ReadsAll h (es.map (·.key)) (kvs.map fun kv => keyD kv.1) [] ∧ ReadsAll h (es.map (·.val)) (kvs.map fun kv => toD kv.2) [] := by
  intro kvs
  induction kvs with
  | nil =>
    intro ws vs es e r kv pr _
    cases ws with
    | nil => cases kv; cases pr; exact ⟨.nil, .nil⟩
    | cons _ _ => simp at e
  | cons a kvs ih =>
    intro ws vs es e r kv pr d
    cases ws with
    | nil => simp at e
    | cons b ws =>
      cases kv with
      | cons k1 k2 =>
        cases pr with
        | cons p1 p2 p3 =>
          rw [List.all_cons, Bool.and_eq_true] at d
          rw [List.map_cons, List.map_cons, List.cons.injEq] at e
          rw [List.map_cons, List.map_cons] at r
          cases r with
          | cons r1 r2 =>
            obtain ⟨g1, g2⟩ := ih e.2 r2 k2 p3 d.2
            have g3 := reads_one (h := h) r1 d.1 k1.2
            have g4 : Reads h _ (keyD a.1) [] := reads_key (h := h) (by rw [e.1, k1.1]; exact p1)
            refine ⟨by simpa using ReadsAll.cons g4 g1, ?_⟩
            rw [List.map_cons, List.map_cons, p2]
            simpa using ReadsAll.cons g3 g2
def rReprD (K : Fg) : List V → Hp → VK → Prop := fun xs H Q => ∃ (B : Bg) (A : Addr → Prop) (v : V) (x : PV), B.K = K ∧ xs = [v] ∧ Rp B A H x v ∧ shwD x ∧ Q (.str (toDD x).shown) H
theorem call_reprD {X : Cx} (hg : X.A.guards = some []) (hu : X.A.units + 64 < cLine) : CallR X (.builtin "repr") (rReprD X.K) := by
  intro pins s σ H xs us Q I r h
  obtain ⟨B, A, v, x, hB, rfl, rp, sh, q⟩ := h
  rcases sh with sh | ⟨kvs, rfl, dv, s1, s2, s3⟩
  · have e : toDD x = toD x := by
      cases x <;> first | rfl | (exact absurd sh.1 (by simp [dat]))
    rw [e] at q
    exact call_reprG hg hu pins s σ H [v] us Q I r ⟨v, _, rfl, hB ▸ dat_dp 8 rp sh.1, sh.2.1, sh.2.2.1, sh.2.2.2.1, sh.2.2.2.2.1, sh.2.2.2.2.2, q⟩
  · cases rp with
    | dK nA hd e1 e2 e3 e4 rl =>
      rename_i a ws ks xs vs
      subst e1; subst e3; subst e4
      obtain ⟨u, rfl, ru⟩ := vals1 r
      cases ru
      obtain ⟨_, low, vs', kv, o, es, ep, h1, h2, h3, _, pr, _⟩ := dk_of I.hok hd
      obtain ⟨g1, g2⟩ := reads_kv e2.symm rl kv pr dv
      have rd : Reads s.heap (.ref a) (toDD (.dK kvs)) (a :: [] ++ []) := by
        refine .dict h1 h2.1 h3 ?_ ?_
        · rw [List.map_map]; exact g1
        · rw [List.map_map]; exact g2
      refine repr_of_reads' rd s1 (fun _ => ?_) hg (by omega) (fun _ _ e => e) (fun h' u tk k => ⟨.str _, H, I.kept k, ⟨_, rfl⟩, q⟩) s3
      simp only [List.append_nil, List.mem_singleton]
      exact fun z => by rw [← z] at low; simp at low
def bReprD : PCl
  | [x], Q => shwD x ∧ Q (.str (toDD x).shown)
  | _, _ => False
theorem reprD_ok {K : Fg} : CallS K (rReprD K) bReprD := by
  intro B H xs vs Q Qp hK r h k
  match xs, r, h with
  | [x], .cons r .nil, h => exact ⟨B, _, _, x, hK, rfl, r, h.1, k _ _ H h.2 (.refl _ _) fun A _ _ => .str _⟩
  | [], _, h => exact (h : False).elim
  | _ :: _ :: _, _, h => exact (h : False).elim
theorem qe_reprD {X : Cx} {ks : List Kd} {a s : Bool} {e : Expr} {pa : GA} {p0 pos : Pos} (hm : X.mg "repr" = none) (hg : Gl X "repr") (g : X.A.guards = some []) (hu : X.A.units + 64 < cLine) (h : QA X ks a s [e] pa) (h1 : starEach [e] X.env = (false, eval e X.env) :: starEach [] X.env := by rfl) (h2 : (backTo pos (starEach [] X.env)).any (·.1) = false := by rfl) :
    QE X ks true true (.Call (.Name "repr" p0) [e] [] pos) (pCB bReprD pa) := qe_cbS reprD_ok (call_reprD g hu) hm hg (by rfl) h (he := h1) (hpl := h2)
end Vl
namespace Lw
open PySem PySem.Spec L2 Lb Vl
noncomputable def p_law_number : GS := (pSeq (xSet 1 (pOp oIx (pLst (pCons (pC (.int 0)) (pCons (pC (.int 1)) (pCons (pC (.int 40)) (pCons (pOp oPow (pC (.int 10)) (pC (.int 6))) (pCons (pOp oPow (pC (.int 10)) (pC (.int 12))) (pCons (pOp oPow (pC (.int 10)) (pC (.int 40))) (pCons (pOp oPow (pC (.int 10)) (pC (.int 6))) (pCons (pOp oPow (pC (.int 10)) (pC (.int 12))) pNil))))))))) (pCall w_law_take [] (pCons (pVar 0) (pCons (pC (.int 8)) pNil)))))
  (pSeq (xSet 2 (pOp oSub (pOp oAdd (pVar 1) (pCall w_law_take [] (pCons (pVar 0) (pCons (pC (.int 5)) pNil)))) (pC (.int 2))))
  (pRet (pOp oIx (pLst (pCons (pVar 2) (pCons (pUn oNeg (pVar 2)) pNil))) (pCall w_law_take [] (pCons (pVar 0) (pCons (pC (.int 2)) pNil)))))))
theorem x_law_number : ∃ v : Vl.PW, v = xF 3 p_law_number := ⟨_, rfl⟩
@[irreducible] noncomputable def w_law_number : Vl.PW := Classical.choose x_law_number
theorem e_law_number : w_law_number = xF 3 p_law_number := by unfold w_law_number; exact Classical.choose_spec x_law_number
noncomputable def p_law_words : GS := (pSeq (xSet 1 (pOp oIx (pLst (pCons (pC (.str "abcdefghijklmnopqrstuvwxyz")) (pCons (pC (.str "bou")) (pCons (pC (.str "abcdefghijklmnopqrstuvwxyz-")) (pCons (pC (.str "o")) (pCons (pC (.str "-")) pNil)))))) (pCall w_law_take [] (pCons (pVar 0) (pCons (pC (.int 5)) pNil)))))
  (pSeq (xSet 2 (pOp oIx (pLst (pCons (pC (.int 0)) (pCons (pC (.int 1)) (pCons (pC (.int 2)) (pCons (pC (.int 7)) (pCons (pC (.int 8)) (pCons (pC (.int 9)) (pCons (pC (.int 39)) (pCons (pC (.int 40)) (pCons (pC (.int 41)) (pCons (pC (.int 60)) (pCons (pC (.int 119)) (pCons (pC (.int 120)) (pCons (pC (.int 121)) (pCons (pC (.int 3)) pNil))))))))))))))) (pCall w_law_take [] (pCons (pVar 0) (pCons (pC (.int 14)) pNil)))))
  (pSeq (xSet 3 (pCall w_law_take [] (pCons (pVar 0) (pCons (pC (.int 26)) pNil))))
  (pSeq (xSet 4 (pJoin (pC (.str "")) (yLc [7] (pRng (pVar 2)) (xgName 7) pYes (pOp oIx (pVar 1) (pOp oMod (pOp oAdd (pOp oAdd (pVar 3) (pOp oMul (pC (.int 7)) (pVar 7))) (pOp oMul (pVar 7) (pVar 7))) (pCB bLen (pCons (pVar 1) pNil)))))))
  (jSeq (pIf (pTest (pOp oEq (pCall w_law_take [] (pCons (pVar 0) (pCons (pC (.int 3)) pNil))) (pC (.int 0)))) (pSeq (xSet 5 (pCall w_law_take [] (pCons (pVar 0) (pCons (pOp oAdd (pVar 2) (pC (.int 1))) pNil))))
  (pSeq (xSet 6 (pOp oIx (pLst (pCons (pC (.str "A")) (pCons (pC (.str "1")) (pCons (pC (.str " ")) (pCons (pC (.str "-")) (pCons (pC (.str "_")) (pCons (pC (.str "~")) (pCons (pC (.str "\n")) (pCons (pC (.str "B")) (pCons (pC (.str "0")) (pCons (pC (.str "{")) (pCons (pC (.str "`")) pNil)))))))))))) (pCall w_law_take [] (pCons (pVar 0) (pCons (pC (.int 11)) pNil)))))
  (xSet 4 (pOp oAdd (pOp oAdd (pSl (pVar 4) pNoPart (pPart (pVar 5))) (pVar 6)) (pSl (pVar 4) (pPart (pOp oAdd (pVar 5) (pCall w_law_take [] (pCons (pVar 0) (pCons (pC (.int 2)) pNil))))) pNoPart))))) pNext)
  (pRet (pVar 4)))))))
theorem x_law_words : ∃ v : Vl.PW, v = xF 8 p_law_words := ⟨_, rfl⟩
@[irreducible] noncomputable def w_law_words : Vl.PW := Classical.choose x_law_words
theorem e_law_words : w_law_words = xF 8 p_law_words := by unfold w_law_words; exact Classical.choose_spec x_law_words
noncomputable def p_law_truths : GS := (pSeq (xSet 1 (yLc [2] (pRng (pOp oAdd (pC (.int 3)) (pCall w_law_take [] (pCons (pVar 0) (pCons (pC (.int 3)) pNil))))) (xgName 2) pYes (pOp oEq (pCall w_law_take [] (pCons (pVar 0) (pCons (pC (.int 2)) pNil))) (pC (.int 1)))))
  (jSeq (pIf (pTest (pOp oEq (pCall w_law_take [] (pCons (pVar 0) (pCons (pC (.int 4)) pNil))) (pC (.int 0)))) (xSetIx 1 (pCall w_law_take [] (pCons (pVar 0) (pCons (pCB bLen (pCons (pVar 1) pNil)) pNil))) (pOp oIx (pLst (pCons (pC (.int 0)) (pCons (pC (.int 1)) (pCons (pC .non) (pCons (pC (.str "")) (pCons (pTup pNil) pNil)))))) (pCall w_law_take [] (pCons (pVar 0) (pCons (pC (.int 5)) pNil))))) pNext)
  (pSeq (pIf (pTest (pOp oEq (pCall w_law_take [] (pCons (pVar 0) (pCons (pC (.int 5)) pNil))) (pC (.int 0)))) (pRet (pVar 1)) pNext)
  (pRet (pCB bTupOf (pCons (pVar 1) pNil))))))
theorem x_law_truths : ∃ v : Vl.PW, v = xF 3 p_law_truths := ⟨_, rfl⟩
@[irreducible] noncomputable def w_law_truths : Vl.PW := Classical.choose x_law_truths
theorem e_law_truths : w_law_truths = xF 3 p_law_truths := by unfold w_law_truths; exact Classical.choose_spec x_law_truths
noncomputable def p_law_thing : GS := (pSeq (xSet 1 (pCall w_law_take [] (pCons (pVar 0) (pCons (pC (.int 9)) pNil))))
  (pSeq (pIf (pTest (pOp oLt (pVar 1) (pC (.int 2)))) (pRet (pCall w_law_number [] (pCons (pVar 0) pNil))) pNext)
  (pSeq (pIf (pTest (pOp oLt (pVar 1) (pC (.int 5)))) (pRet (pCall w_law_words [] (pCons (pVar 0) pNil))) pNext)
  (pSeq (pIf (pTest (pOp oEq (pVar 1) (pC (.int 5)))) (pRet (pOp oIx (pLst (pCons (pC (.str "over")) (pCons (pC (.str "under")) (pCons (pC (.str "Over")) (pCons (pC (.str "under ")) (pCons (pC (.str "ove")) (pCons (pC (.str "")) (pCons (pC (.str "b")) (pCons (pC (.str "o")) (pCons (pC (.str "u")) (pCons (pC (.str "bo")) (pCons (pC (.str "overunder")) pNil)))))))))))) (pCall w_law_take [] (pCons (pVar 0) (pCons (pC (.int 11)) pNil))))) pNext)
  (pSeq (pIf (pTest (pOp oLt (pVar 1) (pC (.int 8)))) (pRet (pCall w_law_truths [] (pCons (pVar 0) pNil))) pNext)
  (pRet (pOp oIx (pLst (pCons (pC .non) (pCons (pC (.bl true)) (pCons (pC (.bl false)) (pCons (pLst pNil) (pCons (pC (.dK [])) (pCons (pTup pNil) (pCons (pLst (pCons (pC (.str "a")) pNil)) (pCons (pTup (pCons (pC (.str "a")) pNil)) (pCons (pDict [("a", (pC (.int 1)))]) (pCons (pLst (pCons (pC (.int 0)) pNil)) (pCons (pTup (pCons (pC (.str "over")) pNil)) (pCons (pLst (pCons (pLst pNil) pNil)) pNil))))))))))))) (pCall w_law_take [] (pCons (pVar 0) (pCons (pC (.int 12)) pNil))))))))))
theorem x_law_thing : ∃ v : Vl.PW, v = xF 2 p_law_thing := ⟨_, rfl⟩
@[irreducible] noncomputable def w_law_thing : Vl.PW := Classical.choose x_law_thing
theorem e_law_thing : w_law_thing = xF 2 p_law_thing := by unfold w_law_thing; exact Classical.choose_spec x_law_thing
noncomputable def p_law_is_number : GS := (pRet (pAndV (pCB bIs (pCons (pVar 0) (pCons (pC (.ty .int)) pNil))) (pAndV (pNotV (pCB bIs (pCons (pVar 0) (pCons (pC (.ty .bool)) pNil)))) (pChain oLe oLe (pVar 1) (pVar 0) (pVar 2)))))
theorem x_law_is_number : ∃ v : Vl.PW, v = xF 3 p_law_is_number := ⟨_, rfl⟩
@[irreducible] noncomputable def w_law_is_number : Vl.PW := Classical.choose x_law_is_number
theorem e_law_is_number : w_law_is_number = xF 3 p_law_is_number := by unfold w_law_is_number; exact Classical.choose_spec x_law_is_number
noncomputable def p_law_is_text : GS := (pSeq (pIf (pOr (pNot (pTru (pCB bIs (pCons (pVar 0) (pCons (pC (.ty .str)) pNil))))) (pOr (pTest (pOp oLt (pCB bLen (pCons (pVar 0) pNil)) (pVar 2))) (pTest (pOp oGt (pCB bLen (pCons (pVar 0) pNil)) (pVar 3))))) (pRet (pC (.bl false))) pNext)
  (pRet (pOp oEq (yLc [4] (pItS (pVar 0)) (xgName 4) (pTest (pOp (oIn true) (pVar 4) (pVar 1))) (pVar 4)) (pLst pNil))))
theorem x_law_is_text : ∃ v : Vl.PW, v = xF 5 p_law_is_text := ⟨_, rfl⟩
@[irreducible] noncomputable def w_law_is_text : Vl.PW := Classical.choose x_law_is_text
theorem e_law_is_text : w_law_is_text = xF 5 p_law_is_text := by unfold w_law_is_text; exact Classical.choose_spec x_law_is_text
noncomputable def p_law_dues : GS := (pSeq (xSet 1 (pC (.str "abcdefghijklmnopqrstuvwxyz")))
  (pSeq (xSet 2 (pAndV (pCB bIs (pCons (pVar 0) (pCons (pC (.ty .int)) pNil))) (pNotV (pCB bIs (pCons (pVar 0) (pCons (pC (.ty .bool)) pNil))))))
  (pSeq (xSet 3 (pLst (pCons (pVar 2) (pCons (pCall w_law_is_number [] (pCons (pVar 0) (pCons (pUn oNeg (pOp oPow (pC (.int 10)) (pC (.int 6)))) (pCons (pOp oPow (pC (.int 10)) (pC (.int 6))) pNil)))) (pCons (pCall w_law_is_number [] (pCons (pVar 0) (pCons (pC (.int 0)) (pCons (pOp oPow (pC (.int 10)) (pC (.int 6))) pNil)))) pNil)))))
  (pSeq (xSet 3 (pOp oAddL (pVar 3) (pLst (pCons (pCall w_law_is_number [] (pCons (pVar 0) (pCons (pUn oNeg (pOp oPow (pC (.int 10)) (pC (.int 12)))) (pCons (pOp oPow (pC (.int 10)) (pC (.int 12))) pNil)))) (pCons (pCall w_law_is_number [] (pCons (pVar 0) (pCons (pC (.int 0)) (pCons (pOp oPow (pC (.int 10)) (pC (.int 12))) pNil)))) pNil)))))
  (pSeq (xSet 3 (pOp oAddL (pVar 3) (pLst (pCons (pCall w_law_is_text [] (pCons (pVar 0) (pCons (pVar 1) (pCons (pC (.int 1)) (pCons (pC (.int 1)) pNil))))) (pCons (pCall w_law_is_text [] (pCons (pVar 0) (pCons (pVar 1) (pCons (pC (.int 0)) (pCons (pC (.int 40)) pNil))))) pNil)))))
  (pSeq (xSet 3 (pOp oAddL (pVar 3) (pLst (pCons (pCall w_law_is_text [] (pCons (pVar 0) (pCons (pVar 1) (pCons (pC (.int 1)) (pCons (pC (.int 8)) pNil))))) (pCons (pCall w_law_is_text [] (pCons (pVar 0) (pCons (pC (.str "bou")) (pCons (pC (.int 1)) (pCons (pC (.int 1)) pNil))))) pNil)))))
  (pSeq (xSet 3 (pOp oAddL (pVar 3) (pLst (pCons (pCall w_law_is_text [] (pCons (pVar 0) (pCons (pC (.str "bou")) (pCons (pC (.int 0)) (pCons (pC (.int 120)) pNil))))) (pCons (pCall w_law_is_text [] (pCons (pVar 0) (pCons (pOp oAdd (pVar 1) (pC (.str "-"))) (pCons (pC (.int 0)) (pCons (pC (.int 120)) pNil))))) pNil)))))
  (pSeq (xApp 3 (pAndV (pCB bIs (pCons (pVar 0) (pCons (pC (.ty .str)) pNil))) (pOrV (pOp oEq (pVar 0) (pC (.str "over"))) (pOp oEq (pVar 0) (pC (.str "under"))))))
  (pSeq (xSet 4 (pAndV (pCB bIs (pCons (pVar 0) (pCons (pC (.ty .tuple)) pNil))) (pOp oEq (pCB bLen (pCons (pVar 0) pNil)) (pC (.int 4)))))
  (pRet (pOp oAdd (pVar 3) (pLst (pCons (pAndV (pVar 4) (pOp oEq (yLc [5] (pItT (pVar 0)) (xgName 5) (pNot (pTru (pCB bIs (pCons (pVar 5) (pCons (pC (.ty .bool)) pNil))))) (pImm (pVar 5))) (pLst pNil))) pNil)))))))))))))
theorem x_law_dues : ∃ v : Vl.PW, v = xF 6 p_law_dues := ⟨_, rfl⟩
@[irreducible] noncomputable def w_law_dues : Vl.PW := Classical.choose x_law_dues
theorem e_law_dues : w_law_dues = xF 6 p_law_dues := by unfold w_law_dues; exact Classical.choose_spec x_law_dues
noncomputable def p_is_whole : GS := (pRet (pAndV (pCB bIs (pCons (pVar 0) (pCons (pC (.ty .int)) pNil))) (pNotV (pCB bIs (pCons (pVar 0) (pCons (pC (.ty .bool)) pNil))))))
theorem x_is_whole : ∃ v : Vl.PW, v = xF 1 p_is_whole := ⟨_, rfl⟩
@[irreducible] noncomputable def w_is_whole : Vl.PW := Classical.choose x_is_whole
theorem e_is_whole : w_is_whole = xF 1 p_is_whole := by unfold w_is_whole; exact Classical.choose_spec x_is_whole
noncomputable def p_is_between : GS := (pRet (pAndV (pCall w_is_whole [] (pCons (pVar 0) pNil)) (pChain oLe oLe (pVar 1) (pVar 0) (pVar 2))))
theorem x_is_between : ∃ v : Vl.PW, v = xF 3 p_is_between := ⟨_, rfl⟩
@[irreducible] noncomputable def w_is_between : Vl.PW := Classical.choose x_is_between
theorem e_is_between : w_is_between = xF 3 p_is_between := by unfold w_is_between; exact Classical.choose_spec x_is_between
noncomputable def p_is_great_price : GS := (pRet (pCall w_is_between [] (pCons (pVar 0) (pCons (pC (.int 0)) (pCons (pC (.int 1000000000000)) pNil)))))
theorem x_is_great_price : ∃ v : Vl.PW, v = xF 1 p_is_great_price := ⟨_, rfl⟩
@[irreducible] noncomputable def w_is_great_price : Vl.PW := Classical.choose x_is_great_price
theorem e_is_great_price : w_is_great_price = xF 1 p_is_great_price := by unfold w_is_great_price; exact Classical.choose_spec x_is_great_price
noncomputable def p_is_great_worth : GS := (pRet (pCall w_is_between [] (pCons (pVar 0) (pCons (pUn oNeg (pC (.int 1000000000000))) (pCons (pC (.int 1000000000000)) pNil)))))
theorem x_is_great_worth : ∃ v : Vl.PW, v = xF 1 p_is_great_worth := ⟨_, rfl⟩
@[irreducible] noncomputable def w_is_great_worth : Vl.PW := Classical.choose x_is_great_worth
theorem e_is_great_worth : w_is_great_worth = xF 1 p_is_great_worth := by unfold w_is_great_worth; exact Classical.choose_spec x_is_great_worth
noncomputable def p_is_price : GS := (pRet (pCall w_is_between [] (pCons (pVar 0) (pCons (pC (.int 0)) (pCons (pC (.int 1000000)) pNil)))))
theorem x_is_price : ∃ v : Vl.PW, v = xF 1 p_is_price := ⟨_, rfl⟩
@[irreducible] noncomputable def w_is_price : Vl.PW := Classical.choose x_is_price
theorem e_is_price : w_is_price = xF 1 p_is_price := by unfold w_is_price; exact Classical.choose_spec x_is_price
noncomputable def p_is_worth : GS := (pRet (pCall w_is_between [] (pCons (pVar 0) (pCons (pUn oNeg (pC (.int 1000000))) (pCons (pC (.int 1000000)) pNil)))))
theorem x_is_worth : ∃ v : Vl.PW, v = xF 1 p_is_worth := ⟨_, rfl⟩
@[irreducible] noncomputable def w_is_worth : Vl.PW := Classical.choose x_is_worth
theorem e_is_worth : w_is_worth = xF 1 p_is_worth := by unfold w_is_worth; exact Classical.choose_spec x_is_worth
noncomputable def p_is_text_of : GS := (pSeq (pIf (pOr (pNot (pTru (pCB bIs (pCons (pVar 0) (pCons (pC (.ty .str)) pNil))))) (pNot (pTest (pChain oLe oLe (pVar 2) (pCB bLen (pCons (pVar 0) pNil)) (pVar 3))))) (pRet (pC (.bl false))) pNext)
  (pRet (pCB (bBs allB) (pCons (xLc [4] (pItS (pVar 0)) (xgName 4) pYes (pOp (oIn false) (pVar 4) (pVar 1))) pNil))))
theorem x_is_text_of : ∃ v : Vl.PW, v = xF 5 p_is_text_of := ⟨_, rfl⟩
@[irreducible] noncomputable def w_is_text_of : Vl.PW := Classical.choose x_is_text_of
theorem e_is_text_of : w_is_text_of = xF 5 p_is_text_of := by unfold w_is_text_of; exact Classical.choose_spec x_is_text_of
noncomputable def p_is_path : GS := (pRet (pCall w_is_text_of [] (pCons (pVar 0) (pCons (pC (.str "bou")) (pCons (pC (.int 0)) (pCons (pC (.int 120)) pNil))))))
theorem x_is_path : ∃ v : Vl.PW, v = xF 1 p_is_path := ⟨_, rfl⟩
@[irreducible] noncomputable def w_is_path : Vl.PW := Classical.choose x_is_path
theorem e_is_path : w_is_path = xF 1 p_is_path := by unfold w_is_path; exact Classical.choose_spec x_is_path
noncomputable def p_is_step : GS := (pRet (pCall w_is_text_of [] (pCons (pVar 0) (pCons (pC (.str "bou")) (pCons (pC (.int 1)) (pCons (pC (.int 1)) pNil))))))
theorem x_is_step : ∃ v : Vl.PW, v = xF 1 p_is_step := ⟨_, rfl⟩
@[irreducible] noncomputable def w_is_step : Vl.PW := Classical.choose x_is_step
theorem e_is_step : w_is_step = xF 1 p_is_step := by unfold w_is_step; exact Classical.choose_spec x_is_step
noncomputable def p_is_name : GS := (pRet (pCall w_is_text_of [] (pCons (pVar 0) (pCons (pC (.str "abcdefghijklmnopqrstuvwxyz")) (pCons (pC (.int 1)) (pCons (pC (.int 8)) pNil))))))
theorem x_is_name : ∃ v : Vl.PW, v = xF 1 p_is_name := ⟨_, rfl⟩
@[irreducible] noncomputable def w_is_name : Vl.PW := Classical.choose x_is_name
theorem e_is_name : w_is_name = xF 1 p_is_name := by unfold w_is_name; exact Classical.choose_spec x_is_name
noncomputable def p_is_row : GS := (pRet (pCall w_is_text_of [] (pCons (pVar 0) (pCons (pC (.str "abcdefghijklmnopqrstuvwxyz")) (pCons (pC (.int 0)) (pCons (pC (.int 40)) pNil))))))
theorem x_is_row : ∃ v : Vl.PW, v = xF 1 p_is_row := ⟨_, rfl⟩
@[irreducible] noncomputable def w_is_row : Vl.PW := Classical.choose x_is_row
theorem e_is_row : w_is_row = xF 1 p_is_row := by unfold w_is_row; exact Classical.choose_spec x_is_row
noncomputable def p_is_letter : GS := (pRet (pCall w_is_text_of [] (pCons (pVar 0) (pCons (pC (.str "abcdefghijklmnopqrstuvwxyz")) (pCons (pC (.int 1)) (pCons (pC (.int 1)) pNil))))))
theorem x_is_letter : ∃ v : Vl.PW, v = xF 1 p_is_letter := ⟨_, rfl⟩
@[irreducible] noncomputable def w_is_letter : Vl.PW := Classical.choose x_is_letter
theorem e_is_letter : w_is_letter = xF 1 p_is_letter := by unfold w_is_letter; exact Classical.choose_spec x_is_letter
noncomputable def p_are_ends : GS := (pSeq (pIf (pOr (pNot (pTru (pCB bIs (pCons (pVar 0) (pCons (pC (.ty .tuple)) pNil))))) (pTest (pOp oNe (pCB bLen (pCons (pVar 0) pNil)) (pC (.int 4))))) (pRet (pC (.bl false))) pNext)
  (pRet (pCB (bBs allB) (pCons (xLc [1] (pItT (pVar 0)) (xgName 1) pYes (pCB bIs (pCons (pVar 1) (pCons (pC (.ty .bool)) pNil)))) pNil))))
theorem x_are_ends : ∃ v : Vl.PW, v = xF 2 p_are_ends := ⟨_, rfl⟩
@[irreducible] noncomputable def w_are_ends : Vl.PW := Classical.choose x_are_ends
theorem e_are_ends : w_are_ends = xF 2 p_are_ends := by unfold w_are_ends; exact Classical.choose_spec x_are_ends
noncomputable def p_is_side : GS := (pRet (pAndV (pCB bIs (pCons (pVar 0) (pCons (pC (.ty .str)) pNil))) (pOp (oIn false) (pVar 0) (pC (.tup [(.str "over"), (.str "under")])))))
theorem x_is_side : ∃ v : Vl.PW, v = xF 1 p_is_side := ⟨_, rfl⟩
@[irreducible] noncomputable def w_is_side : Vl.PW := Classical.choose x_is_side
theorem e_is_side : w_is_side = xF 1 p_is_side := by unfold w_is_side; exact Classical.choose_spec x_is_side
noncomputable def p_is_gapped : GS := (pRet (pCall w_is_text_of [] (pCons (pVar 0) (pCons (pOp oAdd (pC (.str "abcdefghijklmnopqrstuvwxyz")) (pC (.str "-"))) (pCons (pC (.int 0)) (pCons (pC (.int 120)) pNil))))))
theorem x_is_gapped : ∃ v : Vl.PW, v = xF 1 p_is_gapped := ⟨_, rfl⟩
@[irreducible] noncomputable def w_is_gapped : Vl.PW := Classical.choose x_is_gapped
theorem e_is_gapped : w_is_gapped = xF 1 p_is_gapped := by unfold w_is_gapped; exact Classical.choose_spec x_is_gapped
noncomputable def p_law_told : GS := (pSeq (xSet 1 (pLst (pCons (pCall w_is_whole [] (pCons (pVar 0) pNil)) (pCons (pCall w_is_worth [] (pCons (pVar 0) pNil)) (pCons (pCall w_is_price [] (pCons (pVar 0) pNil)) (pCons (pCall w_is_great_worth [] (pCons (pVar 0) pNil)) (pCons (pCall w_is_great_price [] (pCons (pVar 0) pNil)) pNil)))))))
  (pSeq (xSet 1 (pOp oAdd (pVar 1) (pLst (pCons (pCall w_is_letter [] (pCons (pVar 0) pNil)) (pCons (pCall w_is_row [] (pCons (pVar 0) pNil)) (pCons (pCall w_is_name [] (pCons (pVar 0) pNil)) (pCons (pCall w_is_step [] (pCons (pVar 0) pNil)) (pCons (pCall w_is_path [] (pCons (pVar 0) pNil)) pNil))))))))
  (pRet (pOp oAdd (pVar 1) (pLst (pCons (pCall w_is_gapped [] (pCons (pVar 0) pNil)) (pCons (pCall w_is_side [] (pCons (pVar 0) pNil)) (pCons (pCall w_are_ends [] (pCons (pVar 0) pNil)) pNil))))))))
theorem x_law_told : ∃ v : Vl.PW, v = xF 2 p_law_told := ⟨_, rfl⟩
@[irreducible] noncomputable def w_law_told : Vl.PW := Classical.choose x_law_told
theorem e_law_told : w_law_told = xF 2 p_law_told := by unfold w_law_told; exact Classical.choose_spec x_law_told
noncomputable def p_law : GS := (pSeq (yFor (pRng (pC (.int 24))) (xgName 2) (pSeq (xSet 3 (pCall w_law_thing [] (pCons (pVar 1) pNil)))
  (pSeq (xSet 4 (pCB bReprD (pCons (pVar 3) pNil)))
  (pSeq (xSet 5 (pCB bReprD (pCons (pCall w_law_dues [] (pCons (pVar 3) pNil)) pNil)))
  (yFor (pRng (pC (.int 2))) (xgName 6) (pIf (pOr (pTest (pOp oNeS (pCB bReprD (pCons (pCall w_law_told [] (pCons (pVar 3) pNil)) pNil)) (pVar 5))) (pTest (pOp oNeS (pCB bReprD (pCons (pVar 3) pNil)) (pVar 4)))) (pRet (pC (.bl false))) pNext))))))
  (pRet (pC (.bl true))))
def topS (i : Nat) : Stmt := PySem.Challenge.pw_laybeside_k11_kinds_known.main.body.getD i (.Pass ⟨0, 0, 0, 0⟩)
structure Tx (K : Vl.Fg) (mg : Str → Option Value) : Prop where
  f_abs : mg "abs" = none
  f_all : mg "all" = none
  f_bool : mg "bool" = none
  f_int : mg "int" = none
  f_isinstance : mg "isinstance" = none
  f_len : mg "len" = none
  f_range : mg "range" = none
  f_repr : mg "repr" = none
  f_str : mg "str" = none
  f_tuple : mg "tuple" = none
  g_GAP : GV K mg "GAP" (.str "-")
  g_LETTERS : GV K mg "LETTERS" (.str "abcdefghijklmnopqrstuvwxyz")
  g_LONGEST_NAME : GV K mg "LONGEST_NAME" (.int 8)
  g_LONGEST_PATH : GV K mg "LONGEST_PATH" (.int 120)
  g_LONGEST_ROW : GV K mg "LONGEST_ROW" (.int 40)
  g_MOST_GREAT : GV K mg "MOST_GREAT" (.int 1000000000000)
  g_MOST_WORTH : GV K mg "MOST_WORTH" (.int 1000000)
  g_SIDES : GV K mg "SIDES" (.tup [(.str "over"), (.str "under")])
  g_STEPS : GV K mg "STEPS" (.str "bou")
section
variable {P : Program} {w : World} {K : Vl.Fg} {mg : Str → Option Value} {base : Heap}
abbrev s_law_take : Stmt := topS 27
theorem sc_law_take : FnScope ["_law_bag_here", "_law_many", "_law_cell", "_law_value", "_law_first", "_law_second"] ["_law_bag_here", "_law_many"] (defScope s_law_take) := ⟨rfl, rfl, rfl, by decide +kernel, rfl, by decide +kernel, by decide +kernel⟩
abbrev s_law_number : Stmt := topS 28
theorem sc_law_number : FnScope ["_law_bag_here", "_law_base", "_law_found"] ["_law_bag_here"] (defScope s_law_number) := ⟨rfl, rfl, rfl, by decide +kernel, rfl, by decide +kernel, by decide +kernel⟩
theorem q_law_number (T : Tx K mg) (c_law_take : Cal P w K mg base "_law_take" 1 ["_law_bag_here", "_law_many"] (spF 2 w_law_take K) []) {f : Addr} {cdv : Value} {A : Around} {outer : List Env} {s : Shared} {H : Hp} {E : XK} (hr : Room 1 (A.deeper (PyProof.Rows.envOfC "_law_number" (defScope s_law_number) s.heap.objs.size f cdv))) : QB (cxOf CX0 P w K mg base ["_law_bag_here", "_law_base", "_law_found"] "_law_number" (defScope s_law_number) f cdv A outer s H E).nox [.bor, .sh, .sh] [.bor, .sh, .sh] [.bor, .sh, .sh] (defBody s_law_number) p_law_number := by
  exact (qb_cons (xs_setG (i := 1) (fun h => ps_set (i := 1) sc_law_number.nd rfl (by first | exact Or.inl rfl | exact Or.inr rfl) h) (qe_ix (qe_lst (qa_cons qe_int (qa_cons qe_int (qa_cons qe_int (qa_cons (qe_pow qe_int qe_int) (qa_cons (qe_pow qe_int qe_int) (qa_cons (qe_pow qe_int qe_int) (qa_cons (qe_pow qe_int qe_int) (qa_cons (qe_pow qe_int qe_int) qa_nil))))))))) (qe_calF c_law_take dfl_nil (hr.mono (j := 1) (by decide)) (by rfl) (qa_cons (qe_v 0 (pv 0)) (qa_cons qe_int qa_nil)))))
  (qb_cons (xs_setG (i := 2) (fun h => ps_set (i := 2) sc_law_number.nd rfl (by first | exact Or.inl rfl | exact Or.inr rfl) h) (qe_sub (qe_add (qe_v 1 (pv 1)) (qe_calF c_law_take dfl_nil (hr.mono (j := 1) (by decide)) (by rfl) (qa_cons (qe_v 0 (pv 0)) (qa_cons qe_int qa_nil)))) qe_int))
  (qb_one (qs_ret (qe_ix (qe_lst (qa_cons (qe_v 2 (pv 2)) (qa_cons (qe_neg (qe_v 2 (pv 2))) qa_nil))) (qe_calF c_law_take dfl_nil (hr.mono (j := 1) (by decide)) (by rfl) (qa_cons (qe_v 0 (pv 0)) (qa_cons qe_int qa_nil))))))))
theorem ok_law_number (T : Tx K mg) (c_law_take : Cal P w K mg base "_law_take" 1 ["_law_bag_here", "_law_many"] (spF 2 w_law_take K) []) {f : Addr} {fd : FuncData} (F : FunD K "_law_number" "_law_number" (defArgs s_law_number) (defBody s_law_number) (defScope s_law_number) [] [] f fd) : FnOk P w K mg base CX0 2 f fd ["_law_bag_here"] (spF 1 w_law_number K) := by
  refine F.ok sc_law_number (fun vs H Q E h => len_F h) (fun cdv A outer s H vs Q E hr h => ?_)
  have hq := q_law_number (P := P) (w := w) (base := base) (E := E) (H := H) (outer := outer) T c_law_take hr
  rw [e_law_number, xF_eq] at h
  obtain ⟨t, h1, h2⟩ := body_F (N := ["_law_bag_here", "_law_base", "_law_found"]) (n := 1) hq rfl (by decide) h
  exact ⟨t, PSs.nox h1, h2⟩
abbrev s_law_words : Stmt := topS 29
theorem sc_law_words : FnScope ["_law_bag_here", "_law_signs", "_law_long", "_law_by", "_law_found", "_law_at", "_law_odd", "_law_k"] ["_law_bag_here"] (defScope s_law_words) := ⟨rfl, rfl, rfl, by decide +kernel, rfl, by decide +kernel, by decide +kernel⟩
theorem q_law_words (T : Tx K mg) (c_law_take : Cal P w K mg base "_law_take" 1 ["_law_bag_here", "_law_many"] (spF 2 w_law_take K) []) {f : Addr} {cdv : Value} {A : Around} {outer : List Env} {s : Shared} {H : Hp} {E : XK} (hr : Room 1 (A.deeper (PyProof.Rows.envOfC "_law_words" (defScope s_law_words) s.heap.objs.size f cdv))) : QB (cxOf CX0 P w K mg base ["_law_bag_here", "_law_signs", "_law_long", "_law_by", "_law_found", "_law_at", "_law_odd", "_law_k"] "_law_words" (defScope s_law_words) f cdv A outer s H E).nox [.bor, .sh, .sh, .sh, .sh, .sh, .sh, .sh] [.bor, .sh, .sh, .sh, .sh, .sh, .sh, .sh] [.bor, .sh, .sh, .sh, .sh, .sh, .sh, .sh] (defBody s_law_words) p_law_words := by
  exact (qb_cons (xs_setG (i := 1) (fun h => ps_set (i := 1) sc_law_words.nd rfl (by first | exact Or.inl rfl | exact Or.inr rfl) h) (qe_ix (qe_lst (qa_cons qe_str (qa_cons qe_str (qa_cons qe_str (qa_cons qe_str (qa_cons qe_str qa_nil)))))) (qe_calF c_law_take dfl_nil (hr.mono (j := 1) (by decide)) (by rfl) (qa_cons (qe_v 0 (pv 0)) (qa_cons qe_int qa_nil)))))
  (qb_cons (xs_setG (i := 2) (fun h => ps_set (i := 2) sc_law_words.nd rfl (by first | exact Or.inl rfl | exact Or.inr rfl) h) (qe_ix (qe_lst (qa_cons qe_int (qa_cons qe_int (qa_cons qe_int (qa_cons qe_int (qa_cons qe_int (qa_cons qe_int (qa_cons qe_int (qa_cons qe_int (qa_cons qe_int (qa_cons qe_int (qa_cons qe_int (qa_cons qe_int (qa_cons qe_int (qa_cons qe_int qa_nil))))))))))))))) (qe_calF c_law_take dfl_nil (hr.mono (j := 1) (by decide)) (by rfl) (qa_cons (qe_v 0 (pv 0)) (qa_cons qe_int qa_nil)))))
  (qb_cons (xs_setG (i := 3) (fun h => ps_set (i := 3) sc_law_words.nd rfl (by first | exact Or.inl rfl | exact Or.inr rfl) h) (qe_calF c_law_take dfl_nil (hr.mono (j := 1) (by decide)) (by rfl) (qa_cons (qe_v 0 (pv 0)) (qa_cons qe_int qa_nil))))
  (qb_cons (xs_setG (i := 4) (fun h => ps_set (i := 4) sc_law_words.nd rfl (by first | exact Or.inl rfl | exact Or.inr rfl) h) (qe_join qe_str (yq_lc (xe_lc (own := [("_law_k", 7)]) (fun hi hg ht he => pe_lc (own := [("_law_k", 7)]) (by rfl) sc_law_words.nd hi (blkOk_by (own := [("_law_k", 7)]) (by kernel_rfl)) hg ht he) (qi_rng (by rfl) T.f_range (qe_v 2 (pv 2))) (fun _ _ _ _ _ => (xq_name (i := 7) (pg_name (i := 7) sc_law_words.nd rfl (by first | exact Or.inl rfl | exact Or.inr rfl)))) (fun _ _ _ _ _ => by exact qts_nil) (fun _ _ _ _ _ => by exact (qe_ix (qe_v 1 (pv 1)) (qe_mod (qe_add (qe_add (qe_v 3 (pv 3)) (qe_mul qe_int (qe_v 7 (pv 7)))) (qe_mul (qe_v 7 (pv 7)) (qe_v 7 (pv 7)))) (qe_cbS len_ok call_lenA T.f_len (by rfl) (by decide +kernel) (qa_cons (qe_v 1 (pv 1)) qa_nil)))))))))
  (jq (qb_cons (qs_if (qt_eq (hr.units) (qe_calF c_law_take dfl_nil (hr.mono (j := 1) (by decide)) (by rfl) (qa_cons (qe_v 0 (pv 0)) (qa_cons qe_int qa_nil))) qe_int) (qb_cons (xs_setG (i := 5) (fun h => ps_set (i := 5) sc_law_words.nd rfl (by first | exact Or.inl rfl | exact Or.inr rfl) h) (qe_calF c_law_take dfl_nil (hr.mono (j := 1) (by decide)) (by rfl) (qa_cons (qe_v 0 (pv 0)) (qa_cons (qe_add (qe_v 2 (pv 2)) qe_int) qa_nil))))
  (qb_cons (xs_setG (i := 6) (fun h => ps_set (i := 6) sc_law_words.nd rfl (by first | exact Or.inl rfl | exact Or.inr rfl) h) (qe_ix (qe_lst (qa_cons qe_str (qa_cons qe_str (qa_cons qe_str (qa_cons qe_str (qa_cons qe_str (qa_cons qe_str (qa_cons qe_str (qa_cons qe_str (qa_cons qe_str (qa_cons qe_str (qa_cons qe_str qa_nil)))))))))))) (qe_calF c_law_take dfl_nil (hr.mono (j := 1) (by decide)) (by rfl) (qa_cons (qe_v 0 (pv 0)) (qa_cons qe_int qa_nil)))))
  (qb_one (xs_setG (i := 4) (fun h => ps_set (i := 4) sc_law_words.nd rfl (by first | exact Or.inl rfl | exact Or.inr rfl) h) (qe_add (qe_add (qe_sl (qe_v 4 (pv 4)) qo_none (qo_some (qe_v 5 (pv 5)))) (qe_v 6 (pv 6))) (qe_sl (qe_v 4 (pv 4)) (qo_some (qe_add (qe_v 5 (pv 5)) (qe_calF c_law_take dfl_nil (hr.mono (j := 1) (by decide)) (by rfl) (qa_cons (qe_v 0 (pv 0)) (qa_cons qe_int qa_nil))))) qo_none)))))) qb_nil)
  (qb_one (qs_ret (qe_v 4 (pv 4))))))))))
theorem ok_law_words (T : Tx K mg) (c_law_take : Cal P w K mg base "_law_take" 1 ["_law_bag_here", "_law_many"] (spF 2 w_law_take K) []) {f : Addr} {fd : FuncData} (F : FunD K "_law_words" "_law_words" (defArgs s_law_words) (defBody s_law_words) (defScope s_law_words) [] [] f fd) : FnOk P w K mg base CX0 2 f fd ["_law_bag_here"] (spF 1 w_law_words K) := by
  refine F.ok sc_law_words (fun vs H Q E h => len_F h) (fun cdv A outer s H vs Q E hr h => ?_)
  have hq := q_law_words (P := P) (w := w) (base := base) (E := E) (H := H) (outer := outer) T c_law_take hr
  rw [e_law_words, xF_eq] at h
  obtain ⟨t, h1, h2⟩ := body_F (N := ["_law_bag_here", "_law_signs", "_law_long", "_law_by", "_law_found", "_law_at", "_law_odd", "_law_k"]) (n := 1) hq rfl (by decide) h
  exact ⟨t, PSs.nox h1, h2⟩
abbrev s_law_truths : Stmt := topS 30
theorem sc_law_truths : FnScope ["_law_bag_here", "_law_found", "_law_k"] ["_law_bag_here"] (defScope s_law_truths) := ⟨rfl, rfl, rfl, by decide +kernel, rfl, by decide +kernel, by decide +kernel⟩
theorem q_law_truths (T : Tx K mg) (c_law_take : Cal P w K mg base "_law_take" 1 ["_law_bag_here", "_law_many"] (spF 2 w_law_take K) []) {f : Addr} {cdv : Value} {A : Around} {outer : List Env} {s : Shared} {H : Hp} {E : XK} (hr : Room 1 (A.deeper (PyProof.Rows.envOfC "_law_truths" (defScope s_law_truths) s.heap.objs.size f cdv))) : QB (cxOf CX0 P w K mg base ["_law_bag_here", "_law_found", "_law_k"] "_law_truths" (defScope s_law_truths) f cdv A outer s H E).nox [.bor, .own, .sh] [.bor, .own, .sh] [.bor, .own, .sh] (defBody s_law_truths) p_law_truths := by
  exact (qb_cons (yq_setLcN (i := 1) (fun hi hg ht he => ps_setLc (i := 1) (own := [("_law_k", 2)]) (by rfl) sc_law_truths.nd rfl rfl (sw_true rfl rfl rfl (by kernel_rfl)) hi (blkOk_by (own := [("_law_k", 2)]) (by kernel_rfl)) hg ht he) (qi_rng (by rfl) T.f_range (qe_add qe_int (qe_calF c_law_take dfl_nil (hr.mono (j := 1) (by decide)) (by rfl) (qa_cons (qe_v 0 (pv 0)) (qa_cons qe_int qa_nil))))) (fun _ _ _ _ _ => (xq_name (i := 2) (pg_name (i := 2) sc_law_truths.nd rfl (by first | exact Or.inl rfl | exact Or.inr rfl)))) (fun _ _ _ _ _ => by exact qts_nil) (fun _ _ _ _ _ => by exact (qe_eq (hr.units) (qe_calF c_law_take dfl_nil (hr.mono (j := 1) (by decide)) (by rfl) (qa_cons (qe_v 0 (pv 0)) (qa_cons qe_int qa_nil))) qe_int)))
  (jq (qb_cons (qs_if (qt_eq (hr.units) (qe_calF c_law_take dfl_nil (hr.mono (j := 1) (by decide)) (by rfl) (qa_cons (qe_v 0 (pv 0)) (qa_cons qe_int qa_nil))) qe_int) (qb_one (xs_setIx (i := 1) (fun h1 h2 => ps_asg h1 (pg_sub (pv 1) h2 set_list)) (qe_ix (qe_lst (qa_cons qe_int (qa_cons qe_int (qa_cons qe_non (qa_cons qe_str (qa_cons (qe_tup qa_nil) qa_nil)))))) (qe_calF c_law_take dfl_nil (hr.mono (j := 1) (by decide)) (by rfl) (qa_cons (qe_v 0 (pv 0)) (qa_cons qe_int qa_nil)))) (qe_calF c_law_take dfl_nil (hr.mono (j := 1) (by decide)) (by rfl) (qa_cons (qe_v 0 (pv 0)) (qa_cons (qe_cbS len_ok call_lenA T.f_len (by rfl) (by decide +kernel) (qa_cons (qe_v 1 (pv 1)) qa_nil)) qa_nil))))) qb_nil)
  (qb_cons (qs_if (qt_eq (hr.units) (qe_calF c_law_take dfl_nil (hr.mono (j := 1) (by decide)) (by rfl) (qa_cons (qe_v 0 (pv 0)) (qa_cons qe_int qa_nil))) qe_int) (qb_one (qs_ret (qe_v 1 (pv 1)))) qb_nil)
  (qb_one (qs_ret (qe_ctP tupOf_ok call_tuple_ofA T.f_tuple (by rfl) (by decide +kernel) (qa_cons (qe_v 1 (pv 1)) qa_nil))))))))
theorem ok_law_truths (T : Tx K mg) (c_law_take : Cal P w K mg base "_law_take" 1 ["_law_bag_here", "_law_many"] (spF 2 w_law_take K) []) {f : Addr} {fd : FuncData} (F : FunD K "_law_truths" "_law_truths" (defArgs s_law_truths) (defBody s_law_truths) (defScope s_law_truths) [] [] f fd) : FnOk P w K mg base CX0 2 f fd ["_law_bag_here"] (spF 1 w_law_truths K) := by
  refine F.ok sc_law_truths (fun vs H Q E h => len_F h) (fun cdv A outer s H vs Q E hr h => ?_)
  have hq := q_law_truths (P := P) (w := w) (base := base) (E := E) (H := H) (outer := outer) T c_law_take hr
  rw [e_law_truths, xF_eq] at h
  obtain ⟨t, h1, h2⟩ := body_F (N := ["_law_bag_here", "_law_found", "_law_k"]) (n := 1) hq rfl (by decide) h
  exact ⟨t, PSs.nox h1, h2⟩
abbrev s_law_thing : Stmt := topS 31
theorem sc_law_thing : FnScope ["_law_bag_here", "_law_way"] ["_law_bag_here"] (defScope s_law_thing) := ⟨rfl, rfl, rfl, by decide +kernel, rfl, by decide +kernel, by decide +kernel⟩
theorem q_law_thing (T : Tx K mg) (c_law_take : Cal P w K mg base "_law_take" 1 ["_law_bag_here", "_law_many"] (spF 2 w_law_take K) []) (c_law_number : Cal P w K mg base "_law_number" 2 ["_law_bag_here"] (spF 1 w_law_number K) []) (c_law_words : Cal P w K mg base "_law_words" 2 ["_law_bag_here"] (spF 1 w_law_words K) []) (c_law_truths : Cal P w K mg base "_law_truths" 2 ["_law_bag_here"] (spF 1 w_law_truths K) []) {f : Addr} {cdv : Value} {A : Around} {outer : List Env} {s : Shared} {H : Hp} {E : XK} (hr : Room 2 (A.deeper (PyProof.Rows.envOfC "_law_thing" (defScope s_law_thing) s.heap.objs.size f cdv))) : QB (cxOf CX0 P w K mg base ["_law_bag_here", "_law_way"] "_law_thing" (defScope s_law_thing) f cdv A outer s H E).nox [.bor, .sh] [.bor, .sh] [.bor, .sh] (defBody s_law_thing) p_law_thing := by
  exact (qb_cons (xs_setG (i := 1) (fun h => ps_set (i := 1) sc_law_thing.nd rfl (by first | exact Or.inl rfl | exact Or.inr rfl) h) (qe_calF c_law_take dfl_nil (hr.mono (j := 1) (by decide)) (by rfl) (qa_cons (qe_v 0 (pv 0)) (qa_cons qe_int qa_nil))))
  (qb_cons (qs_if (qt_lt  (qe_v 1 (pv 1)) qe_int) (qb_one (qs_ret (qe_calF c_law_number dfl_nil (hr.mono (j := 2) (by decide)) (by rfl) (qa_cons (qe_v 0 (pv 0)) qa_nil)))) qb_nil)
  (qb_cons (qs_if (qt_lt  (qe_v 1 (pv 1)) qe_int) (qb_one (qs_ret (qe_calF c_law_words dfl_nil (hr.mono (j := 2) (by decide)) (by rfl) (qa_cons (qe_v 0 (pv 0)) qa_nil)))) qb_nil)
  (qb_cons (qs_if (qt_eq (hr.units) (qe_v 1 (pv 1)) qe_int) (qb_one (qs_ret (qe_ix (qe_lst (qa_cons qe_str (qa_cons qe_str (qa_cons qe_str (qa_cons qe_str (qa_cons qe_str (qa_cons qe_str (qa_cons qe_str (qa_cons qe_str (qa_cons qe_str (qa_cons qe_str (qa_cons qe_str qa_nil)))))))))))) (qe_calF c_law_take dfl_nil (hr.mono (j := 1) (by decide)) (by rfl) (qa_cons (qe_v 0 (pv 0)) (qa_cons qe_int qa_nil)))))) qb_nil)
  (qb_cons (qs_if (qt_lt  (qe_v 1 (pv 1)) qe_int) (qb_one (qs_ret (qe_calF c_law_truths dfl_nil (hr.mono (j := 2) (by decide)) (by rfl) (qa_cons (qe_v 0 (pv 0)) qa_nil)))) qb_nil)
  (qb_one (qs_ret (qe_ix (qe_lst (qa_cons qe_non (qa_cons qe_bl (qa_cons qe_bl (qa_cons (qe_lst qa_nil) (qa_cons qe_dK0 (qa_cons (qe_tup qa_nil) (qa_cons (qe_lst (qa_cons qe_str qa_nil)) (qa_cons (qe_tup (qa_cons qe_str qa_nil)) (qa_cons (qe_dict (.cons qe_int .nil)) (qa_cons (qe_lst (qa_cons qe_int qa_nil)) (qa_cons (qe_tup (qa_cons qe_str qa_nil)) (qa_cons (qe_lst (qa_cons (qe_lst qa_nil) qa_nil)) qa_nil))))))))))))) (qe_calF c_law_take dfl_nil (hr.mono (j := 1) (by decide)) (by rfl) (qa_cons (qe_v 0 (pv 0)) (qa_cons qe_int qa_nil)))))))))))
theorem ok_law_thing (T : Tx K mg) (c_law_take : Cal P w K mg base "_law_take" 1 ["_law_bag_here", "_law_many"] (spF 2 w_law_take K) []) (c_law_number : Cal P w K mg base "_law_number" 2 ["_law_bag_here"] (spF 1 w_law_number K) []) (c_law_words : Cal P w K mg base "_law_words" 2 ["_law_bag_here"] (spF 1 w_law_words K) []) (c_law_truths : Cal P w K mg base "_law_truths" 2 ["_law_bag_here"] (spF 1 w_law_truths K) []) {f : Addr} {fd : FuncData} (F : FunD K "_law_thing" "_law_thing" (defArgs s_law_thing) (defBody s_law_thing) (defScope s_law_thing) [] [] f fd) : FnOk P w K mg base CX0 3 f fd ["_law_bag_here"] (spF 1 w_law_thing K) := by
  refine F.ok sc_law_thing (fun vs H Q E h => len_F h) (fun cdv A outer s H vs Q E hr h => ?_)
  have hq := q_law_thing (P := P) (w := w) (base := base) (E := E) (H := H) (outer := outer) T c_law_take c_law_number c_law_words c_law_truths hr
  rw [e_law_thing, xF_eq] at h
  obtain ⟨t, h1, h2⟩ := body_F (N := ["_law_bag_here", "_law_way"]) (n := 1) hq rfl (by decide) h
  exact ⟨t, PSs.nox h1, h2⟩
abbrev s_law_is_number : Stmt := topS 32
theorem sc_law_is_number : FnScope ["_law_thing_here", "_law_low", "_law_high"] ["_law_thing_here", "_law_low", "_law_high"] (defScope s_law_is_number) := ⟨rfl, rfl, rfl, by decide +kernel, rfl, by decide +kernel, by decide +kernel⟩
theorem q_law_is_number (T : Tx K mg)  {f : Addr} {cdv : Value} {A : Around} {outer : List Env} {s : Shared} {H : Hp} {E : XK} (hr : Room 0 (A.deeper (PyProof.Rows.envOfC "_law_is_number" (defScope s_law_is_number) s.heap.objs.size f cdv))) : QB (cxOf CX0 P w K mg base ["_law_thing_here", "_law_low", "_law_high"] "_law_is_number" (defScope s_law_is_number) f cdv A outer s H E).nox [.bor, .bor, .bor] [.bor, .bor, .bor] [.bor, .bor, .bor] (defBody s_law_is_number) p_law_is_number := by
  exact (qb_one (qs_ret (qe_andV (qe_cbS isB_ok call_isB T.f_isinstance (by rfl) (by decide +kernel) (qa_cons (qe_v 0 (pv 0)) (qa_cons (qe_ty .int T.f_int (by rfl) (by decide +kernel)) qa_nil))) (qe_andV (qe_notV (qe_cbS isB_ok call_isB T.f_isinstance (by rfl) (by decide +kernel) (qa_cons (qe_v 0 (pv 0)) (qa_cons (qe_ty .bool T.f_bool (by rfl) (by decide +kernel)) qa_nil)))) (qe_one (qe_chain op_leA op_leA le_ok le_ok (qe_v 1 (pv 1)) (qe_v 0 (pv 0)) (qe_v 2 (pv 2))))))))
theorem ok_law_is_number (T : Tx K mg)  {f : Addr} {fd : FuncData} (F : FunD K "_law_is_number" "_law_is_number" (defArgs s_law_is_number) (defBody s_law_is_number) (defScope s_law_is_number) [] [] f fd) : FnOk P w K mg base CX0 1 f fd ["_law_thing_here", "_law_low", "_law_high"] (spF 3 w_law_is_number K) := by
  refine F.ok sc_law_is_number (fun vs H Q E h => len_F h) (fun cdv A outer s H vs Q E hr h => ?_)
  have hq := q_law_is_number (P := P) (w := w) (base := base) (E := E) (H := H) (outer := outer) T  hr
  rw [e_law_is_number, xF_eq] at h
  obtain ⟨t, h1, h2⟩ := body_F (N := ["_law_thing_here", "_law_low", "_law_high"]) (n := 3) hq rfl (by decide) h
  exact ⟨t, PSs.nox h1, h2⟩
abbrev s_law_is_text : Stmt := topS 33
theorem sc_law_is_text : FnScope ["_law_thing_here", "_law_signs", "_law_least", "_law_most", "_law_sign"] ["_law_thing_here", "_law_signs", "_law_least", "_law_most"] (defScope s_law_is_text) := ⟨rfl, rfl, rfl, by decide +kernel, rfl, by decide +kernel, by decide +kernel⟩
theorem q_law_is_text (T : Tx K mg)  {f : Addr} {cdv : Value} {A : Around} {outer : List Env} {s : Shared} {H : Hp} {E : XK} (hr : Room 0 (A.deeper (PyProof.Rows.envOfC "_law_is_text" (defScope s_law_is_text) s.heap.objs.size f cdv))) : QB (cxOf CX0 P w K mg base ["_law_thing_here", "_law_signs", "_law_least", "_law_most", "_law_sign"] "_law_is_text" (defScope s_law_is_text) f cdv A outer s H E).nox [.bor, .bor, .bor, .bor, .sh] [.bor, .bor, .bor, .bor, .sh] [.bor, .bor, .bor, .bor, .sh] (defBody s_law_is_text) p_law_is_text := by
  exact (qb_cons (qs_if (qt_w (qw_or (qt_not (qt_tru (qe_cbS isB_ok call_isB T.f_isinstance (by rfl) (by decide +kernel) (qa_cons (qe_v 0 (pv 0)) (qa_cons (qe_ty .str T.f_str (by rfl) (by decide +kernel)) qa_nil))))) (qw_or (qt_lt  (qe_cbS len_ok call_lenA T.f_len (by rfl) (by decide +kernel) (qa_cons (qe_v 0 (pv 0)) qa_nil)) (qe_v 2 (pv 2))) (qw_or1 (qt_gt  (qe_cbS len_ok call_lenA T.f_len (by rfl) (by decide +kernel) (qa_cons (qe_v 0 (pv 0)) qa_nil)) (qe_v 3 (pv 3))))))) (qb_one (qs_ret qe_bl)) qb_nil)
  (qb_one (qs_ret (qe_eq (hr.units) (yq_lc (xe_lc (own := [("_law_sign", 4)]) (fun hi hg ht he => pe_lc (own := [("_law_sign", 4)]) (by rfl) sc_law_is_text.nd hi (blkOk_by (own := [("_law_sign", 4)]) (by kernel_rfl)) hg ht he) (qi_str (qe_v 0 (pv 0))) (fun _ _ _ _ _ => (xq_name (i := 4) (pg_name (i := 4) sc_law_is_text.nd rfl (by first | exact Or.inl rfl | exact Or.inr rfl)))) (fun _ _ _ _ _ => by exact (qts_one (qt_notIn  (qe_v 4 (pv 4)) (qe_v 1 (pv 1))))) (fun _ _ _ _ _ => by exact (qe_v 4 (pv 4))))) (qe_lst qa_nil)))))
theorem ok_law_is_text (T : Tx K mg)  {f : Addr} {fd : FuncData} (F : FunD K "_law_is_text" "_law_is_text" (defArgs s_law_is_text) (defBody s_law_is_text) (defScope s_law_is_text) [] [] f fd) : FnOk P w K mg base CX0 1 f fd ["_law_thing_here", "_law_signs", "_law_least", "_law_most"] (spF 4 w_law_is_text K) := by
  refine F.ok sc_law_is_text (fun vs H Q E h => len_F h) (fun cdv A outer s H vs Q E hr h => ?_)
  have hq := q_law_is_text (P := P) (w := w) (base := base) (E := E) (H := H) (outer := outer) T  hr
  rw [e_law_is_text, xF_eq] at h
  obtain ⟨t, h1, h2⟩ := body_F (N := ["_law_thing_here", "_law_signs", "_law_least", "_law_most", "_law_sign"]) (n := 4) hq rfl (by decide) h
  exact ⟨t, PSs.nox h1, h2⟩
abbrev s_law_dues : Stmt := topS 34
theorem sc_law_dues : FnScope ["_law_thing_here", "_law_letters", "_law_whole", "_law_dues_here", "_law_four", "_law_one"] ["_law_thing_here"] (defScope s_law_dues) := ⟨rfl, rfl, rfl, by decide +kernel, rfl, by decide +kernel, by decide +kernel⟩
theorem q_law_dues (T : Tx K mg) (c_law_is_number : Cal P w K mg base "_law_is_number" 1 ["_law_thing_here", "_law_low", "_law_high"] (spF 3 w_law_is_number K) []) (c_law_is_text : Cal P w K mg base "_law_is_text" 1 ["_law_thing_here", "_law_signs", "_law_least", "_law_most"] (spF 4 w_law_is_text K) []) {f : Addr} {cdv : Value} {A : Around} {outer : List Env} {s : Shared} {H : Hp} {E : XK} (hr : Room 1 (A.deeper (PyProof.Rows.envOfC "_law_dues" (defScope s_law_dues) s.heap.objs.size f cdv))) : QB (cxOf CX0 P w K mg base ["_law_thing_here", "_law_letters", "_law_whole", "_law_dues_here", "_law_four", "_law_one"] "_law_dues" (defScope s_law_dues) f cdv A outer s H E).nox [.bor, .sh, .sh, .own, .sh, .bor] [.bor, .sh, .sh, .own, .sh, .bor] [.bor, .sh, .sh, .own, .sh, .bor] (defBody s_law_dues) p_law_dues := by
  exact (qb_cons (xs_setG (i := 1) (fun h => ps_set (i := 1) sc_law_dues.nd rfl (by first | exact Or.inl rfl | exact Or.inr rfl) h) qe_str)
  (qb_cons (xs_setG (i := 2) (fun h => ps_set (i := 2) sc_law_dues.nd rfl (by first | exact Or.inl rfl | exact Or.inr rfl) h) (qe_andV (qe_cbS isB_ok call_isB T.f_isinstance (by rfl) (by decide +kernel) (qa_cons (qe_v 0 (pv 0)) (qa_cons (qe_ty .int T.f_int (by rfl) (by decide +kernel)) qa_nil))) (qe_one (qe_notV (qe_cbS isB_ok call_isB T.f_isinstance (by rfl) (by decide +kernel) (qa_cons (qe_v 0 (pv 0)) (qa_cons (qe_ty .bool T.f_bool (by rfl) (by decide +kernel)) qa_nil)))))))
  (qb_cons (xs_setN (i := 3) (fun h => ps_set (i := 3) sc_law_dues.nd rfl (by first | exact Or.inl rfl | exact Or.inr rfl) h) (qn_lst (qa_cons (qe_v 2 (pv 2)) (qa_cons (qe_calF c_law_is_number dfl_nil (hr.mono (j := 1) (by decide)) (by rfl) (qa_cons (qe_v 0 (pv 0)) (qa_cons (qe_neg (qe_pow qe_int qe_int)) (qa_cons (qe_pow qe_int qe_int) qa_nil)))) (qa_cons (qe_calF c_law_is_number dfl_nil (hr.mono (j := 1) (by decide)) (by rfl) (qa_cons (qe_v 0 (pv 0)) (qa_cons qe_int (qa_cons (qe_pow qe_int qe_int) qa_nil)))) qa_nil)))))
  (qb_frz 3 (qb_cons (xs_setN (i := 3) (fun h => ps_set (i := 3) sc_law_dues.nd rfl (by first | exact Or.inl rfl | exact Or.inr rfl) h) (qn_add (qe_v 3 (pv 3)) (qe_lst (qa_cons (qe_calF c_law_is_number dfl_nil (hr.mono (j := 1) (by decide)) (by rfl) (qa_cons (qe_v 0 (pv 0)) (qa_cons (qe_neg (qe_pow qe_int qe_int)) (qa_cons (qe_pow qe_int qe_int) qa_nil)))) (qa_cons (qe_calF c_law_is_number dfl_nil (hr.mono (j := 1) (by decide)) (by rfl) (qa_cons (qe_v 0 (pv 0)) (qa_cons qe_int (qa_cons (qe_pow qe_int qe_int) qa_nil)))) qa_nil)))))
  (qb_frz 3 (qb_cons (xs_setN (i := 3) (fun h => ps_set (i := 3) sc_law_dues.nd rfl (by first | exact Or.inl rfl | exact Or.inr rfl) h) (qn_add (qe_v 3 (pv 3)) (qe_lst (qa_cons (qe_calF c_law_is_text dfl_nil (hr.mono (j := 1) (by decide)) (by rfl) (qa_cons (qe_v 0 (pv 0)) (qa_cons (qe_v 1 (pv 1)) (qa_cons qe_int (qa_cons qe_int qa_nil))))) (qa_cons (qe_calF c_law_is_text dfl_nil (hr.mono (j := 1) (by decide)) (by rfl) (qa_cons (qe_v 0 (pv 0)) (qa_cons (qe_v 1 (pv 1)) (qa_cons qe_int (qa_cons qe_int qa_nil))))) qa_nil)))))
  (qb_frz 3 (qb_cons (xs_setN (i := 3) (fun h => ps_set (i := 3) sc_law_dues.nd rfl (by first | exact Or.inl rfl | exact Or.inr rfl) h) (qn_add (qe_v 3 (pv 3)) (qe_lst (qa_cons (qe_calF c_law_is_text dfl_nil (hr.mono (j := 1) (by decide)) (by rfl) (qa_cons (qe_v 0 (pv 0)) (qa_cons (qe_v 1 (pv 1)) (qa_cons qe_int (qa_cons qe_int qa_nil))))) (qa_cons (qe_calF c_law_is_text dfl_nil (hr.mono (j := 1) (by decide)) (by rfl) (qa_cons (qe_v 0 (pv 0)) (qa_cons qe_str (qa_cons qe_int (qa_cons qe_int qa_nil))))) qa_nil)))))
  (qb_frz 3 (qb_cons (xs_setN (i := 3) (fun h => ps_set (i := 3) sc_law_dues.nd rfl (by first | exact Or.inl rfl | exact Or.inr rfl) h) (qn_add (qe_v 3 (pv 3)) (qe_lst (qa_cons (qe_calF c_law_is_text dfl_nil (hr.mono (j := 1) (by decide)) (by rfl) (qa_cons (qe_v 0 (pv 0)) (qa_cons qe_str (qa_cons qe_int (qa_cons qe_int qa_nil))))) (qa_cons (qe_calF c_law_is_text dfl_nil (hr.mono (j := 1) (by decide)) (by rfl) (qa_cons (qe_v 0 (pv 0)) (qa_cons (qe_add (qe_v 1 (pv 1)) qe_str) (qa_cons qe_int (qa_cons qe_int qa_nil))))) qa_nil)))))
  (qb_cons (xs_app (i := 3) (fun h => ps_expr (pe_bm PySem.F.plainAttrs_list PySem.F.slot_list_append PySem.F.type_list_append mt_append (pv 3) (pa_cons h pa_nil))) (qe_andV (qe_cbS isB_ok call_isB T.f_isinstance (by rfl) (by decide +kernel) (qa_cons (qe_v 0 (pv 0)) (qa_cons (qe_ty .str T.f_str (by rfl) (by decide +kernel)) qa_nil))) (qe_one (qe_orV (qe_eq (hr.units) (qe_v 0 (pv 0)) qe_str) (qe_one (qe_eq (hr.units) (qe_v 0 (pv 0)) qe_str))))))
  (qb_cons (xs_setG (i := 4) (fun h => ps_set (i := 4) sc_law_dues.nd rfl (by first | exact Or.inl rfl | exact Or.inr rfl) h) (qe_andV (qe_cbS isB_ok call_isB T.f_isinstance (by rfl) (by decide +kernel) (qa_cons (qe_v 0 (pv 0)) (qa_cons (qe_ty .tuple T.f_tuple (by rfl) (by decide +kernel)) qa_nil))) (qe_one (qe_eq (hr.units) (qe_cbS len_ok call_lenA T.f_len (by rfl) (by decide +kernel) (qa_cons (qe_v 0 (pv 0)) qa_nil)) qe_int))))
  (qb_one (qs_ret (qe_add (qe_v 3 (pv 3)) (qe_lst (qa_cons (qe_andV (qe_v 4 (pv 4)) (qe_one (qe_eq (hr.units) (yq_lc (xe_lc (own := [("_law_one", 5)]) (fun hi hg ht he => pe_lc (own := [("_law_one", 5)]) (by rfl) sc_law_dues.nd hi (blkOk_by (own := [("_law_one", 5)]) (by kernel_rfl)) hg ht he) (qi_tup (qe_v 0 (pv 0))) (fun _ _ _ _ _ => (xq_name (i := 5) (pg_name (i := 5) sc_law_dues.nd rfl (by first | exact Or.inl rfl | exact Or.inr rfl)))) (fun _ _ _ _ _ => by exact (qts_one (qt_not (qt_tru (qe_cbS isB_ok call_isB T.f_isinstance (by rfl) (by decide +kernel) (qa_cons (qe_v 5 (pv 5)) (qa_cons (qe_ty .bool T.f_bool (by rfl) (by decide +kernel)) qa_nil))))))) (fun _ _ _ _ _ => by exact (qe_imm (qe_v 5 (pv 5)))))) (qe_lst qa_nil)))) qa_nil))))))))))))))))))
theorem ok_law_dues (T : Tx K mg) (c_law_is_number : Cal P w K mg base "_law_is_number" 1 ["_law_thing_here", "_law_low", "_law_high"] (spF 3 w_law_is_number K) []) (c_law_is_text : Cal P w K mg base "_law_is_text" 1 ["_law_thing_here", "_law_signs", "_law_least", "_law_most"] (spF 4 w_law_is_text K) []) {f : Addr} {fd : FuncData} (F : FunD K "_law_dues" "_law_dues" (defArgs s_law_dues) (defBody s_law_dues) (defScope s_law_dues) [] [] f fd) : FnOk P w K mg base CX0 2 f fd ["_law_thing_here"] (spF 1 w_law_dues K) := by
  refine F.ok sc_law_dues (fun vs H Q E h => len_F h) (fun cdv A outer s H vs Q E hr h => ?_)
  have hq := q_law_dues (P := P) (w := w) (base := base) (E := E) (H := H) (outer := outer) T c_law_is_number c_law_is_text hr
  rw [e_law_dues, xF_eq] at h
  obtain ⟨t, h1, h2⟩ := body_F (N := ["_law_thing_here", "_law_letters", "_law_whole", "_law_dues_here", "_law_four", "_law_one"]) (n := 1) hq rfl (by decide) h
  exact ⟨t, PSs.nox h1, h2⟩
abbrev s_is_whole : Stmt := topS 10
theorem sc_is_whole : FnScope ["thing"] ["thing"] (defScope s_is_whole) := ⟨rfl, rfl, rfl, by decide +kernel, rfl, by decide +kernel, by decide +kernel⟩
theorem q_is_whole (T : Tx K mg)  {f : Addr} {cdv : Value} {A : Around} {outer : List Env} {s : Shared} {H : Hp} {E : XK} (hr : Room 0 (A.deeper (PyProof.Rows.envOfC "is_whole" (defScope s_is_whole) s.heap.objs.size f cdv))) : QB (cxOf CX0 P w K mg base ["thing"] "is_whole" (defScope s_is_whole) f cdv A outer s H E).nox [.bor] [.bor] [.bor] (defBody s_is_whole) p_is_whole := by
  exact (qb_one (qs_ret (qe_andV (qe_cbS isB_ok call_isB T.f_isinstance (by rfl) (by decide +kernel) (qa_cons (qe_v 0 (pv 0)) (qa_cons (qe_ty .int T.f_int (by rfl) (by decide +kernel)) qa_nil))) (qe_one (qe_notV (qe_cbS isB_ok call_isB T.f_isinstance (by rfl) (by decide +kernel) (qa_cons (qe_v 0 (pv 0)) (qa_cons (qe_ty .bool T.f_bool (by rfl) (by decide +kernel)) qa_nil))))))))
theorem ok_is_whole (T : Tx K mg)  {f : Addr} {fd : FuncData} (F : FunD K "is_whole" "is_whole" (defArgs s_is_whole) (defBody s_is_whole) (defScope s_is_whole) [] [] f fd) : FnOk P w K mg base CX0 1 f fd ["thing"] (spF 1 w_is_whole K) := by
  refine F.ok sc_is_whole (fun vs H Q E h => len_F h) (fun cdv A outer s H vs Q E hr h => ?_)
  have hq := q_is_whole (P := P) (w := w) (base := base) (E := E) (H := H) (outer := outer) T  hr
  rw [e_is_whole, xF_eq] at h
  obtain ⟨t, h1, h2⟩ := body_F (N := ["thing"]) (n := 1) hq rfl (by decide) h
  exact ⟨t, PSs.nox h1, h2⟩
abbrev s_is_between : Stmt := topS 11
theorem sc_is_between : FnScope ["thing", "low", "high"] ["thing", "low", "high"] (defScope s_is_between) := ⟨rfl, rfl, rfl, by decide +kernel, rfl, by decide +kernel, by decide +kernel⟩
theorem q_is_between (T : Tx K mg) (c_is_whole : Cal P w K mg base "is_whole" 1 ["thing"] (spF 1 w_is_whole K) []) {f : Addr} {cdv : Value} {A : Around} {outer : List Env} {s : Shared} {H : Hp} {E : XK} (hr : Room 1 (A.deeper (PyProof.Rows.envOfC "is_between" (defScope s_is_between) s.heap.objs.size f cdv))) : QB (cxOf CX0 P w K mg base ["thing", "low", "high"] "is_between" (defScope s_is_between) f cdv A outer s H E).nox [.bor, .bor, .bor] [.bor, .bor, .bor] [.bor, .bor, .bor] (defBody s_is_between) p_is_between := by
  exact (qb_one (qs_ret (qe_andV (qe_calF c_is_whole dfl_nil (hr.mono (j := 1) (by decide)) (by rfl) (qa_cons (qe_v 0 (pv 0)) qa_nil)) (qe_one (qe_chain op_leA op_leA le_ok le_ok (qe_v 1 (pv 1)) (qe_v 0 (pv 0)) (qe_v 2 (pv 2)))))))
theorem ok_is_between (T : Tx K mg) (c_is_whole : Cal P w K mg base "is_whole" 1 ["thing"] (spF 1 w_is_whole K) []) {f : Addr} {fd : FuncData} (F : FunD K "is_between" "is_between" (defArgs s_is_between) (defBody s_is_between) (defScope s_is_between) [] [] f fd) : FnOk P w K mg base CX0 2 f fd ["thing", "low", "high"] (spF 3 w_is_between K) := by
  refine F.ok sc_is_between (fun vs H Q E h => len_F h) (fun cdv A outer s H vs Q E hr h => ?_)
  have hq := q_is_between (P := P) (w := w) (base := base) (E := E) (H := H) (outer := outer) T c_is_whole hr
  rw [e_is_between, xF_eq] at h
  obtain ⟨t, h1, h2⟩ := body_F (N := ["thing", "low", "high"]) (n := 3) hq rfl (by decide) h
  exact ⟨t, PSs.nox h1, h2⟩
abbrev s_is_great_price : Stmt := topS 16
theorem sc_is_great_price : FnScope ["thing"] ["thing"] (defScope s_is_great_price) := ⟨rfl, rfl, rfl, by decide +kernel, rfl, by decide +kernel, by decide +kernel⟩
theorem q_is_great_price (T : Tx K mg) (c_is_between : Cal P w K mg base "is_between" 2 ["thing", "low", "high"] (spF 3 w_is_between K) []) {f : Addr} {cdv : Value} {A : Around} {outer : List Env} {s : Shared} {H : Hp} {E : XK} (hr : Room 2 (A.deeper (PyProof.Rows.envOfC "is_great_price" (defScope s_is_great_price) s.heap.objs.size f cdv))) : QB (cxOf CX0 P w K mg base ["thing"] "is_great_price" (defScope s_is_great_price) f cdv A outer s H E).nox [.bor] [.bor] [.bor] (defBody s_is_great_price) p_is_great_price := by
  exact (qb_one (qs_ret (qe_calF c_is_between dfl_nil (hr.mono (j := 2) (by decide)) (by rfl) (qa_cons (qe_v 0 (pv 0)) (qa_cons qe_int (qa_cons (qe_g T.g_MOST_GREAT (by rfl)) qa_nil))))))
theorem ok_is_great_price (T : Tx K mg) (c_is_between : Cal P w K mg base "is_between" 2 ["thing", "low", "high"] (spF 3 w_is_between K) []) {f : Addr} {fd : FuncData} (F : FunD K "is_great_price" "is_great_price" (defArgs s_is_great_price) (defBody s_is_great_price) (defScope s_is_great_price) [] [] f fd) : FnOk P w K mg base CX0 3 f fd ["thing"] (spF 1 w_is_great_price K) := by
  refine F.ok sc_is_great_price (fun vs H Q E h => len_F h) (fun cdv A outer s H vs Q E hr h => ?_)
  have hq := q_is_great_price (P := P) (w := w) (base := base) (E := E) (H := H) (outer := outer) T c_is_between hr
  rw [e_is_great_price, xF_eq] at h
  obtain ⟨t, h1, h2⟩ := body_F (N := ["thing"]) (n := 1) hq rfl (by decide) h
  exact ⟨t, PSs.nox h1, h2⟩
abbrev s_is_great_worth : Stmt := topS 15
theorem sc_is_great_worth : FnScope ["thing"] ["thing"] (defScope s_is_great_worth) := ⟨rfl, rfl, rfl, by decide +kernel, rfl, by decide +kernel, by decide +kernel⟩
theorem q_is_great_worth (T : Tx K mg) (c_is_between : Cal P w K mg base "is_between" 2 ["thing", "low", "high"] (spF 3 w_is_between K) []) {f : Addr} {cdv : Value} {A : Around} {outer : List Env} {s : Shared} {H : Hp} {E : XK} (hr : Room 2 (A.deeper (PyProof.Rows.envOfC "is_great_worth" (defScope s_is_great_worth) s.heap.objs.size f cdv))) : QB (cxOf CX0 P w K mg base ["thing"] "is_great_worth" (defScope s_is_great_worth) f cdv A outer s H E).nox [.bor] [.bor] [.bor] (defBody s_is_great_worth) p_is_great_worth := by
  exact (qb_one (qs_ret (qe_calF c_is_between dfl_nil (hr.mono (j := 2) (by decide)) (by rfl) (qa_cons (qe_v 0 (pv 0)) (qa_cons (qe_neg (qe_g T.g_MOST_GREAT (by rfl))) (qa_cons (qe_g T.g_MOST_GREAT (by rfl)) qa_nil))))))
theorem ok_is_great_worth (T : Tx K mg) (c_is_between : Cal P w K mg base "is_between" 2 ["thing", "low", "high"] (spF 3 w_is_between K) []) {f : Addr} {fd : FuncData} (F : FunD K "is_great_worth" "is_great_worth" (defArgs s_is_great_worth) (defBody s_is_great_worth) (defScope s_is_great_worth) [] [] f fd) : FnOk P w K mg base CX0 3 f fd ["thing"] (spF 1 w_is_great_worth K) := by
  refine F.ok sc_is_great_worth (fun vs H Q E h => len_F h) (fun cdv A outer s H vs Q E hr h => ?_)
  have hq := q_is_great_worth (P := P) (w := w) (base := base) (E := E) (H := H) (outer := outer) T c_is_between hr
  rw [e_is_great_worth, xF_eq] at h
  obtain ⟨t, h1, h2⟩ := body_F (N := ["thing"]) (n := 1) hq rfl (by decide) h
  exact ⟨t, PSs.nox h1, h2⟩
abbrev s_is_price : Stmt := topS 14
theorem sc_is_price : FnScope ["thing"] ["thing"] (defScope s_is_price) := ⟨rfl, rfl, rfl, by decide +kernel, rfl, by decide +kernel, by decide +kernel⟩
theorem q_is_price (T : Tx K mg) (c_is_between : Cal P w K mg base "is_between" 2 ["thing", "low", "high"] (spF 3 w_is_between K) []) {f : Addr} {cdv : Value} {A : Around} {outer : List Env} {s : Shared} {H : Hp} {E : XK} (hr : Room 2 (A.deeper (PyProof.Rows.envOfC "is_price" (defScope s_is_price) s.heap.objs.size f cdv))) : QB (cxOf CX0 P w K mg base ["thing"] "is_price" (defScope s_is_price) f cdv A outer s H E).nox [.bor] [.bor] [.bor] (defBody s_is_price) p_is_price := by
  exact (qb_one (qs_ret (qe_calF c_is_between dfl_nil (hr.mono (j := 2) (by decide)) (by rfl) (qa_cons (qe_v 0 (pv 0)) (qa_cons qe_int (qa_cons (qe_g T.g_MOST_WORTH (by rfl)) qa_nil))))))
theorem ok_is_price (T : Tx K mg) (c_is_between : Cal P w K mg base "is_between" 2 ["thing", "low", "high"] (spF 3 w_is_between K) []) {f : Addr} {fd : FuncData} (F : FunD K "is_price" "is_price" (defArgs s_is_price) (defBody s_is_price) (defScope s_is_price) [] [] f fd) : FnOk P w K mg base CX0 3 f fd ["thing"] (spF 1 w_is_price K) := by
  refine F.ok sc_is_price (fun vs H Q E h => len_F h) (fun cdv A outer s H vs Q E hr h => ?_)
  have hq := q_is_price (P := P) (w := w) (base := base) (E := E) (H := H) (outer := outer) T c_is_between hr
  rw [e_is_price, xF_eq] at h
  obtain ⟨t, h1, h2⟩ := body_F (N := ["thing"]) (n := 1) hq rfl (by decide) h
  exact ⟨t, PSs.nox h1, h2⟩
abbrev s_is_worth : Stmt := topS 13
theorem sc_is_worth : FnScope ["thing"] ["thing"] (defScope s_is_worth) := ⟨rfl, rfl, rfl, by decide +kernel, rfl, by decide +kernel, by decide +kernel⟩
theorem q_is_worth (T : Tx K mg) (c_is_between : Cal P w K mg base "is_between" 2 ["thing", "low", "high"] (spF 3 w_is_between K) []) {f : Addr} {cdv : Value} {A : Around} {outer : List Env} {s : Shared} {H : Hp} {E : XK} (hr : Room 2 (A.deeper (PyProof.Rows.envOfC "is_worth" (defScope s_is_worth) s.heap.objs.size f cdv))) : QB (cxOf CX0 P w K mg base ["thing"] "is_worth" (defScope s_is_worth) f cdv A outer s H E).nox [.bor] [.bor] [.bor] (defBody s_is_worth) p_is_worth := by
  exact (qb_one (qs_ret (qe_calF c_is_between dfl_nil (hr.mono (j := 2) (by decide)) (by rfl) (qa_cons (qe_v 0 (pv 0)) (qa_cons (qe_neg (qe_g T.g_MOST_WORTH (by rfl))) (qa_cons (qe_g T.g_MOST_WORTH (by rfl)) qa_nil))))))
theorem ok_is_worth (T : Tx K mg) (c_is_between : Cal P w K mg base "is_between" 2 ["thing", "low", "high"] (spF 3 w_is_between K) []) {f : Addr} {fd : FuncData} (F : FunD K "is_worth" "is_worth" (defArgs s_is_worth) (defBody s_is_worth) (defScope s_is_worth) [] [] f fd) : FnOk P w K mg base CX0 3 f fd ["thing"] (spF 1 w_is_worth K) := by
  refine F.ok sc_is_worth (fun vs H Q E h => len_F h) (fun cdv A outer s H vs Q E hr h => ?_)
  have hq := q_is_worth (P := P) (w := w) (base := base) (E := E) (H := H) (outer := outer) T c_is_between hr
  rw [e_is_worth, xF_eq] at h
  obtain ⟨t, h1, h2⟩ := body_F (N := ["thing"]) (n := 1) hq rfl (by decide) h
  exact ⟨t, PSs.nox h1, h2⟩
abbrev s_is_text_of : Stmt := topS 12
theorem sc_is_text_of : FnScope ["thing", "signs", "least", "most", "sign"] ["thing", "signs", "least", "most"] (defScope s_is_text_of) := ⟨rfl, rfl, rfl, by decide +kernel, rfl, by decide +kernel, by decide +kernel⟩
theorem q_is_text_of (T : Tx K mg)  {f : Addr} {cdv : Value} {A : Around} {outer : List Env} {s : Shared} {H : Hp} {E : XK} (hr : Room 0 (A.deeper (PyProof.Rows.envOfC "is_text_of" (defScope s_is_text_of) s.heap.objs.size f cdv))) : QB (cxOf CX0 P w K mg base ["thing", "signs", "least", "most", "sign"] "is_text_of" (defScope s_is_text_of) f cdv A outer s H E).nox [.bor, .bor, .bor, .bor, .sh] [.bor, .bor, .bor, .bor, .sh] [.bor, .bor, .bor, .bor, .sh] (defBody s_is_text_of) p_is_text_of := by
  exact (qb_cons (qs_if (qt_w (qw_or (qt_not (qt_tru (qe_cbS isB_ok call_isB T.f_isinstance (by rfl) (by decide +kernel) (qa_cons (qe_v 0 (pv 0)) (qa_cons (qe_ty .str T.f_str (by rfl) (by decide +kernel)) qa_nil))))) (qw_or1 (qt_not (qt_chain op_leA op_leA le_ok le_ok (qe_v 2 (pv 2)) (qe_cbS len_ok call_lenA T.f_len (by rfl) (by decide +kernel) (qa_cons (qe_v 0 (pv 0)) qa_nil)) (qe_v 3 (pv 3))))))) (qb_one (qs_ret qe_bl)) qb_nil)
  (qb_one (qs_ret (qe_cbS all_ok (cr_all (by rfl)) T.f_all (by rfl) (by decide +kernel) (qa_cons (xe_lc (own := [("sign", 4)]) (fun hi hg ht he => pe_lc (own := [("sign", 4)]) (by rfl) sc_is_text_of.nd hi (blkOk_by (own := [("sign", 4)]) (by kernel_rfl)) hg ht he) (qi_str (qe_v 0 (pv 0))) (fun _ _ _ _ _ => (xq_name (i := 4) (pg_name (i := 4) sc_is_text_of.nd rfl (by first | exact Or.inl rfl | exact Or.inr rfl)))) (fun _ _ _ _ _ => by exact qts_nil) (fun _ _ _ _ _ => by exact (qe_in  (qe_v 4 (pv 4)) (qe_v 1 (pv 1))))) qa_nil)))))
theorem ok_is_text_of (T : Tx K mg)  {f : Addr} {fd : FuncData} (F : FunD K "is_text_of" "is_text_of" (defArgs s_is_text_of) (defBody s_is_text_of) (defScope s_is_text_of) [] [] f fd) : FnOk P w K mg base CX0 1 f fd ["thing", "signs", "least", "most"] (spF 4 w_is_text_of K) := by
  refine F.ok sc_is_text_of (fun vs H Q E h => len_F h) (fun cdv A outer s H vs Q E hr h => ?_)
  have hq := q_is_text_of (P := P) (w := w) (base := base) (E := E) (H := H) (outer := outer) T  hr
  rw [e_is_text_of, xF_eq] at h
  obtain ⟨t, h1, h2⟩ := body_F (N := ["thing", "signs", "least", "most", "sign"]) (n := 4) hq rfl (by decide) h
  exact ⟨t, PSs.nox h1, h2⟩
abbrev s_is_path : Stmt := topS 21
theorem sc_is_path : FnScope ["thing"] ["thing"] (defScope s_is_path) := ⟨rfl, rfl, rfl, by decide +kernel, rfl, by decide +kernel, by decide +kernel⟩
theorem q_is_path (T : Tx K mg) (c_is_text_of : Cal P w K mg base "is_text_of" 1 ["thing", "signs", "least", "most"] (spF 4 w_is_text_of K) []) {f : Addr} {cdv : Value} {A : Around} {outer : List Env} {s : Shared} {H : Hp} {E : XK} (hr : Room 1 (A.deeper (PyProof.Rows.envOfC "is_path" (defScope s_is_path) s.heap.objs.size f cdv))) : QB (cxOf CX0 P w K mg base ["thing"] "is_path" (defScope s_is_path) f cdv A outer s H E).nox [.bor] [.bor] [.bor] (defBody s_is_path) p_is_path := by
  exact (qb_one (qs_ret (qe_calF c_is_text_of dfl_nil (hr.mono (j := 1) (by decide)) (by rfl) (qa_cons (qe_v 0 (pv 0)) (qa_cons (qe_g T.g_STEPS (by rfl)) (qa_cons qe_int (qa_cons (qe_g T.g_LONGEST_PATH (by rfl)) qa_nil)))))))
theorem ok_is_path (T : Tx K mg) (c_is_text_of : Cal P w K mg base "is_text_of" 1 ["thing", "signs", "least", "most"] (spF 4 w_is_text_of K) []) {f : Addr} {fd : FuncData} (F : FunD K "is_path" "is_path" (defArgs s_is_path) (defBody s_is_path) (defScope s_is_path) [] [] f fd) : FnOk P w K mg base CX0 2 f fd ["thing"] (spF 1 w_is_path K) := by
  refine F.ok sc_is_path (fun vs H Q E h => len_F h) (fun cdv A outer s H vs Q E hr h => ?_)
  have hq := q_is_path (P := P) (w := w) (base := base) (E := E) (H := H) (outer := outer) T c_is_text_of hr
  rw [e_is_path, xF_eq] at h
  obtain ⟨t, h1, h2⟩ := body_F (N := ["thing"]) (n := 1) hq rfl (by decide) h
  exact ⟨t, PSs.nox h1, h2⟩
abbrev s_is_step : Stmt := topS 20
theorem sc_is_step : FnScope ["thing"] ["thing"] (defScope s_is_step) := ⟨rfl, rfl, rfl, by decide +kernel, rfl, by decide +kernel, by decide +kernel⟩
theorem q_is_step (T : Tx K mg) (c_is_text_of : Cal P w K mg base "is_text_of" 1 ["thing", "signs", "least", "most"] (spF 4 w_is_text_of K) []) {f : Addr} {cdv : Value} {A : Around} {outer : List Env} {s : Shared} {H : Hp} {E : XK} (hr : Room 1 (A.deeper (PyProof.Rows.envOfC "is_step" (defScope s_is_step) s.heap.objs.size f cdv))) : QB (cxOf CX0 P w K mg base ["thing"] "is_step" (defScope s_is_step) f cdv A outer s H E).nox [.bor] [.bor] [.bor] (defBody s_is_step) p_is_step := by
  exact (qb_one (qs_ret (qe_calF c_is_text_of dfl_nil (hr.mono (j := 1) (by decide)) (by rfl) (qa_cons (qe_v 0 (pv 0)) (qa_cons (qe_g T.g_STEPS (by rfl)) (qa_cons qe_int (qa_cons qe_int qa_nil)))))))
theorem ok_is_step (T : Tx K mg) (c_is_text_of : Cal P w K mg base "is_text_of" 1 ["thing", "signs", "least", "most"] (spF 4 w_is_text_of K) []) {f : Addr} {fd : FuncData} (F : FunD K "is_step" "is_step" (defArgs s_is_step) (defBody s_is_step) (defScope s_is_step) [] [] f fd) : FnOk P w K mg base CX0 2 f fd ["thing"] (spF 1 w_is_step K) := by
  refine F.ok sc_is_step (fun vs H Q E h => len_F h) (fun cdv A outer s H vs Q E hr h => ?_)
  have hq := q_is_step (P := P) (w := w) (base := base) (E := E) (H := H) (outer := outer) T c_is_text_of hr
  rw [e_is_step, xF_eq] at h
  obtain ⟨t, h1, h2⟩ := body_F (N := ["thing"]) (n := 1) hq rfl (by decide) h
  exact ⟨t, PSs.nox h1, h2⟩
abbrev s_is_name : Stmt := topS 19
theorem sc_is_name : FnScope ["thing"] ["thing"] (defScope s_is_name) := ⟨rfl, rfl, rfl, by decide +kernel, rfl, by decide +kernel, by decide +kernel⟩
theorem q_is_name (T : Tx K mg) (c_is_text_of : Cal P w K mg base "is_text_of" 1 ["thing", "signs", "least", "most"] (spF 4 w_is_text_of K) []) {f : Addr} {cdv : Value} {A : Around} {outer : List Env} {s : Shared} {H : Hp} {E : XK} (hr : Room 1 (A.deeper (PyProof.Rows.envOfC "is_name" (defScope s_is_name) s.heap.objs.size f cdv))) : QB (cxOf CX0 P w K mg base ["thing"] "is_name" (defScope s_is_name) f cdv A outer s H E).nox [.bor] [.bor] [.bor] (defBody s_is_name) p_is_name := by
  exact (qb_one (qs_ret (qe_calF c_is_text_of dfl_nil (hr.mono (j := 1) (by decide)) (by rfl) (qa_cons (qe_v 0 (pv 0)) (qa_cons (qe_g T.g_LETTERS (by rfl)) (qa_cons qe_int (qa_cons (qe_g T.g_LONGEST_NAME (by rfl)) qa_nil)))))))
theorem ok_is_name (T : Tx K mg) (c_is_text_of : Cal P w K mg base "is_text_of" 1 ["thing", "signs", "least", "most"] (spF 4 w_is_text_of K) []) {f : Addr} {fd : FuncData} (F : FunD K "is_name" "is_name" (defArgs s_is_name) (defBody s_is_name) (defScope s_is_name) [] [] f fd) : FnOk P w K mg base CX0 2 f fd ["thing"] (spF 1 w_is_name K) := by
  refine F.ok sc_is_name (fun vs H Q E h => len_F h) (fun cdv A outer s H vs Q E hr h => ?_)
  have hq := q_is_name (P := P) (w := w) (base := base) (E := E) (H := H) (outer := outer) T c_is_text_of hr
  rw [e_is_name, xF_eq] at h
  obtain ⟨t, h1, h2⟩ := body_F (N := ["thing"]) (n := 1) hq rfl (by decide) h
  exact ⟨t, PSs.nox h1, h2⟩
abbrev s_is_row : Stmt := topS 18
theorem sc_is_row : FnScope ["thing"] ["thing"] (defScope s_is_row) := ⟨rfl, rfl, rfl, by decide +kernel, rfl, by decide +kernel, by decide +kernel⟩
theorem q_is_row (T : Tx K mg) (c_is_text_of : Cal P w K mg base "is_text_of" 1 ["thing", "signs", "least", "most"] (spF 4 w_is_text_of K) []) {f : Addr} {cdv : Value} {A : Around} {outer : List Env} {s : Shared} {H : Hp} {E : XK} (hr : Room 1 (A.deeper (PyProof.Rows.envOfC "is_row" (defScope s_is_row) s.heap.objs.size f cdv))) : QB (cxOf CX0 P w K mg base ["thing"] "is_row" (defScope s_is_row) f cdv A outer s H E).nox [.bor] [.bor] [.bor] (defBody s_is_row) p_is_row := by
  exact (qb_one (qs_ret (qe_calF c_is_text_of dfl_nil (hr.mono (j := 1) (by decide)) (by rfl) (qa_cons (qe_v 0 (pv 0)) (qa_cons (qe_g T.g_LETTERS (by rfl)) (qa_cons qe_int (qa_cons (qe_g T.g_LONGEST_ROW (by rfl)) qa_nil)))))))
theorem ok_is_row (T : Tx K mg) (c_is_text_of : Cal P w K mg base "is_text_of" 1 ["thing", "signs", "least", "most"] (spF 4 w_is_text_of K) []) {f : Addr} {fd : FuncData} (F : FunD K "is_row" "is_row" (defArgs s_is_row) (defBody s_is_row) (defScope s_is_row) [] [] f fd) : FnOk P w K mg base CX0 2 f fd ["thing"] (spF 1 w_is_row K) := by
  refine F.ok sc_is_row (fun vs H Q E h => len_F h) (fun cdv A outer s H vs Q E hr h => ?_)
  have hq := q_is_row (P := P) (w := w) (base := base) (E := E) (H := H) (outer := outer) T c_is_text_of hr
  rw [e_is_row, xF_eq] at h
  obtain ⟨t, h1, h2⟩ := body_F (N := ["thing"]) (n := 1) hq rfl (by decide) h
  exact ⟨t, PSs.nox h1, h2⟩
abbrev s_is_letter : Stmt := topS 17
theorem sc_is_letter : FnScope ["thing"] ["thing"] (defScope s_is_letter) := ⟨rfl, rfl, rfl, by decide +kernel, rfl, by decide +kernel, by decide +kernel⟩
theorem q_is_letter (T : Tx K mg) (c_is_text_of : Cal P w K mg base "is_text_of" 1 ["thing", "signs", "least", "most"] (spF 4 w_is_text_of K) []) {f : Addr} {cdv : Value} {A : Around} {outer : List Env} {s : Shared} {H : Hp} {E : XK} (hr : Room 1 (A.deeper (PyProof.Rows.envOfC "is_letter" (defScope s_is_letter) s.heap.objs.size f cdv))) : QB (cxOf CX0 P w K mg base ["thing"] "is_letter" (defScope s_is_letter) f cdv A outer s H E).nox [.bor] [.bor] [.bor] (defBody s_is_letter) p_is_letter := by
  exact (qb_one (qs_ret (qe_calF c_is_text_of dfl_nil (hr.mono (j := 1) (by decide)) (by rfl) (qa_cons (qe_v 0 (pv 0)) (qa_cons (qe_g T.g_LETTERS (by rfl)) (qa_cons qe_int (qa_cons qe_int qa_nil)))))))
theorem ok_is_letter (T : Tx K mg) (c_is_text_of : Cal P w K mg base "is_text_of" 1 ["thing", "signs", "least", "most"] (spF 4 w_is_text_of K) []) {f : Addr} {fd : FuncData} (F : FunD K "is_letter" "is_letter" (defArgs s_is_letter) (defBody s_is_letter) (defScope s_is_letter) [] [] f fd) : FnOk P w K mg base CX0 2 f fd ["thing"] (spF 1 w_is_letter K) := by
  refine F.ok sc_is_letter (fun vs H Q E h => len_F h) (fun cdv A outer s H vs Q E hr h => ?_)
  have hq := q_is_letter (P := P) (w := w) (base := base) (E := E) (H := H) (outer := outer) T c_is_text_of hr
  rw [e_is_letter, xF_eq] at h
  obtain ⟨t, h1, h2⟩ := body_F (N := ["thing"]) (n := 1) hq rfl (by decide) h
  exact ⟨t, PSs.nox h1, h2⟩
abbrev s_are_ends : Stmt := topS 24
theorem sc_are_ends : FnScope ["thing", "one"] ["thing"] (defScope s_are_ends) := ⟨rfl, rfl, rfl, by decide +kernel, rfl, by decide +kernel, by decide +kernel⟩
theorem q_are_ends (T : Tx K mg)  {f : Addr} {cdv : Value} {A : Around} {outer : List Env} {s : Shared} {H : Hp} {E : XK} (hr : Room 0 (A.deeper (PyProof.Rows.envOfC "are_ends" (defScope s_are_ends) s.heap.objs.size f cdv))) : QB (cxOf CX0 P w K mg base ["thing", "one"] "are_ends" (defScope s_are_ends) f cdv A outer s H E).nox [.bor, .bor] [.bor, .bor] [.bor, .bor] (defBody s_are_ends) p_are_ends := by
  exact (qb_cons (qs_if (qt_w (qw_or (qt_not (qt_tru (qe_cbS isB_ok call_isB T.f_isinstance (by rfl) (by decide +kernel) (qa_cons (qe_v 0 (pv 0)) (qa_cons (qe_ty .tuple T.f_tuple (by rfl) (by decide +kernel)) qa_nil))))) (qw_or1 (qt_ne (hr.units) (qe_cbS len_ok call_lenA T.f_len (by rfl) (by decide +kernel) (qa_cons (qe_v 0 (pv 0)) qa_nil)) qe_int)))) (qb_one (qs_ret qe_bl)) qb_nil)
  (qb_one (qs_ret (qe_cbS all_ok (cr_all (by rfl)) T.f_all (by rfl) (by decide +kernel) (qa_cons (xe_lc (own := [("one", 1)]) (fun hi hg ht he => pe_lc (own := [("one", 1)]) (by rfl) sc_are_ends.nd hi (blkOk_by (own := [("one", 1)]) (by kernel_rfl)) hg ht he) (qi_tup (qe_v 0 (pv 0))) (fun _ _ _ _ _ => (xq_name (i := 1) (pg_name (i := 1) sc_are_ends.nd rfl (by first | exact Or.inl rfl | exact Or.inr rfl)))) (fun _ _ _ _ _ => by exact qts_nil) (fun _ _ _ _ _ => by exact (qe_cbS isB_ok call_isB T.f_isinstance (by rfl) (by decide +kernel) (qa_cons (qe_v 1 (pv 1)) (qa_cons (qe_ty .bool T.f_bool (by rfl) (by decide +kernel)) qa_nil))))) qa_nil)))))
theorem ok_are_ends (T : Tx K mg)  {f : Addr} {fd : FuncData} (F : FunD K "are_ends" "are_ends" (defArgs s_are_ends) (defBody s_are_ends) (defScope s_are_ends) [] [] f fd) : FnOk P w K mg base CX0 1 f fd ["thing"] (spF 1 w_are_ends K) := by
  refine F.ok sc_are_ends (fun vs H Q E h => len_F h) (fun cdv A outer s H vs Q E hr h => ?_)
  have hq := q_are_ends (P := P) (w := w) (base := base) (E := E) (H := H) (outer := outer) T  hr
  rw [e_are_ends, xF_eq] at h
  obtain ⟨t, h1, h2⟩ := body_F (N := ["thing", "one"]) (n := 1) hq rfl (by decide) h
  exact ⟨t, PSs.nox h1, h2⟩
abbrev s_is_side : Stmt := topS 23
theorem sc_is_side : FnScope ["thing"] ["thing"] (defScope s_is_side) := ⟨rfl, rfl, rfl, by decide +kernel, rfl, by decide +kernel, by decide +kernel⟩
theorem q_is_side (T : Tx K mg)  {f : Addr} {cdv : Value} {A : Around} {outer : List Env} {s : Shared} {H : Hp} {E : XK} (hr : Room 0 (A.deeper (PyProof.Rows.envOfC "is_side" (defScope s_is_side) s.heap.objs.size f cdv))) : QB (cxOf CX0 P w K mg base ["thing"] "is_side" (defScope s_is_side) f cdv A outer s H E).nox [.bor] [.bor] [.bor] (defBody s_is_side) p_is_side := by
  exact (qb_one (qs_ret (qe_andV (qe_cbS isB_ok call_isB T.f_isinstance (by rfl) (by decide +kernel) (qa_cons (qe_v 0 (pv 0)) (qa_cons (qe_ty .str T.f_str (by rfl) (by decide +kernel)) qa_nil))) (qe_one (qe_in  (qe_v 0 (pv 0)) (qe_g T.g_SIDES (by rfl)))))))
theorem ok_is_side (T : Tx K mg)  {f : Addr} {fd : FuncData} (F : FunD K "is_side" "is_side" (defArgs s_is_side) (defBody s_is_side) (defScope s_is_side) [] [] f fd) : FnOk P w K mg base CX0 1 f fd ["thing"] (spF 1 w_is_side K) := by
  refine F.ok sc_is_side (fun vs H Q E h => len_F h) (fun cdv A outer s H vs Q E hr h => ?_)
  have hq := q_is_side (P := P) (w := w) (base := base) (E := E) (H := H) (outer := outer) T  hr
  rw [e_is_side, xF_eq] at h
  obtain ⟨t, h1, h2⟩ := body_F (N := ["thing"]) (n := 1) hq rfl (by decide) h
  exact ⟨t, PSs.nox h1, h2⟩
abbrev s_is_gapped : Stmt := topS 22
theorem sc_is_gapped : FnScope ["thing"] ["thing"] (defScope s_is_gapped) := ⟨rfl, rfl, rfl, by decide +kernel, rfl, by decide +kernel, by decide +kernel⟩
theorem q_is_gapped (T : Tx K mg) (c_is_text_of : Cal P w K mg base "is_text_of" 1 ["thing", "signs", "least", "most"] (spF 4 w_is_text_of K) []) {f : Addr} {cdv : Value} {A : Around} {outer : List Env} {s : Shared} {H : Hp} {E : XK} (hr : Room 1 (A.deeper (PyProof.Rows.envOfC "is_gapped" (defScope s_is_gapped) s.heap.objs.size f cdv))) : QB (cxOf CX0 P w K mg base ["thing"] "is_gapped" (defScope s_is_gapped) f cdv A outer s H E).nox [.bor] [.bor] [.bor] (defBody s_is_gapped) p_is_gapped := by
  exact (qb_one (qs_ret (qe_calF c_is_text_of dfl_nil (hr.mono (j := 1) (by decide)) (by rfl) (qa_cons (qe_v 0 (pv 0)) (qa_cons (qe_add (qe_g T.g_LETTERS (by rfl)) (qe_g T.g_GAP (by rfl))) (qa_cons qe_int (qa_cons (qe_g T.g_LONGEST_PATH (by rfl)) qa_nil)))))))
theorem ok_is_gapped (T : Tx K mg) (c_is_text_of : Cal P w K mg base "is_text_of" 1 ["thing", "signs", "least", "most"] (spF 4 w_is_text_of K) []) {f : Addr} {fd : FuncData} (F : FunD K "is_gapped" "is_gapped" (defArgs s_is_gapped) (defBody s_is_gapped) (defScope s_is_gapped) [] [] f fd) : FnOk P w K mg base CX0 2 f fd ["thing"] (spF 1 w_is_gapped K) := by
  refine F.ok sc_is_gapped (fun vs H Q E h => len_F h) (fun cdv A outer s H vs Q E hr h => ?_)
  have hq := q_is_gapped (P := P) (w := w) (base := base) (E := E) (H := H) (outer := outer) T c_is_text_of hr
  rw [e_is_gapped, xF_eq] at h
  obtain ⟨t, h1, h2⟩ := body_F (N := ["thing"]) (n := 1) hq rfl (by decide) h
  exact ⟨t, PSs.nox h1, h2⟩
abbrev s_law_told : Stmt := topS 35
theorem sc_law_told : FnScope ["_law_thing_here", "_law_told_here"] ["_law_thing_here"] (defScope s_law_told) := ⟨rfl, rfl, rfl, by decide +kernel, rfl, by decide +kernel, by decide +kernel⟩
theorem q_law_told (T : Tx K mg) (c_is_great_price : Cal P w K mg base "is_great_price" 3 ["thing"] (spF 1 w_is_great_price K) []) (c_is_great_worth : Cal P w K mg base "is_great_worth" 3 ["thing"] (spF 1 w_is_great_worth K) []) (c_is_price : Cal P w K mg base "is_price" 3 ["thing"] (spF 1 w_is_price K) []) (c_is_worth : Cal P w K mg base "is_worth" 3 ["thing"] (spF 1 w_is_worth K) []) (c_is_whole : Cal P w K mg base "is_whole" 1 ["thing"] (spF 1 w_is_whole K) []) (c_is_path : Cal P w K mg base "is_path" 2 ["thing"] (spF 1 w_is_path K) []) (c_is_step : Cal P w K mg base "is_step" 2 ["thing"] (spF 1 w_is_step K) []) (c_is_name : Cal P w K mg base "is_name" 2 ["thing"] (spF 1 w_is_name K) []) (c_is_row : Cal P w K mg base "is_row" 2 ["thing"] (spF 1 w_is_row K) []) (c_is_letter : Cal P w K mg base "is_letter" 2 ["thing"] (spF 1 w_is_letter K) []) (c_are_ends : Cal P w K mg base "are_ends" 1 ["thing"] (spF 1 w_are_ends K) []) (c_is_side : Cal P w K mg base "is_side" 1 ["thing"] (spF 1 w_is_side K) []) (c_is_gapped : Cal P w K mg base "is_gapped" 2 ["thing"] (spF 1 w_is_gapped K) []) {f : Addr} {cdv : Value} {A : Around} {outer : List Env} {s : Shared} {H : Hp} {E : XK} (hr : Room 3 (A.deeper (PyProof.Rows.envOfC "_law_told" (defScope s_law_told) s.heap.objs.size f cdv))) : QB (cxOf CX0 P w K mg base ["_law_thing_here", "_law_told_here"] "_law_told" (defScope s_law_told) f cdv A outer s H E).nox [.bor, .sh] [.bor, .sh] [.bor, .sh] (defBody s_law_told) p_law_told := by
  exact (qb_cons (xs_setG (i := 1) (fun h => ps_set (i := 1) sc_law_told.nd rfl (by first | exact Or.inl rfl | exact Or.inr rfl) h) (qe_lst (qa_cons (qe_calF c_is_whole dfl_nil (hr.mono (j := 1) (by decide)) (by rfl) (qa_cons (qe_v 0 (pv 0)) qa_nil)) (qa_cons (qe_calF c_is_worth dfl_nil (hr.mono (j := 3) (by decide)) (by rfl) (qa_cons (qe_v 0 (pv 0)) qa_nil)) (qa_cons (qe_calF c_is_price dfl_nil (hr.mono (j := 3) (by decide)) (by rfl) (qa_cons (qe_v 0 (pv 0)) qa_nil)) (qa_cons (qe_calF c_is_great_worth dfl_nil (hr.mono (j := 3) (by decide)) (by rfl) (qa_cons (qe_v 0 (pv 0)) qa_nil)) (qa_cons (qe_calF c_is_great_price dfl_nil (hr.mono (j := 3) (by decide)) (by rfl) (qa_cons (qe_v 0 (pv 0)) qa_nil)) qa_nil)))))))
  (qb_cons (xs_setG (i := 1) (fun h => ps_set (i := 1) sc_law_told.nd rfl (by first | exact Or.inl rfl | exact Or.inr rfl) h) (qe_add (qe_v 1 (pv 1)) (qe_lst (qa_cons (qe_calF c_is_letter dfl_nil (hr.mono (j := 2) (by decide)) (by rfl) (qa_cons (qe_v 0 (pv 0)) qa_nil)) (qa_cons (qe_calF c_is_row dfl_nil (hr.mono (j := 2) (by decide)) (by rfl) (qa_cons (qe_v 0 (pv 0)) qa_nil)) (qa_cons (qe_calF c_is_name dfl_nil (hr.mono (j := 2) (by decide)) (by rfl) (qa_cons (qe_v 0 (pv 0)) qa_nil)) (qa_cons (qe_calF c_is_step dfl_nil (hr.mono (j := 2) (by decide)) (by rfl) (qa_cons (qe_v 0 (pv 0)) qa_nil)) (qa_cons (qe_calF c_is_path dfl_nil (hr.mono (j := 2) (by decide)) (by rfl) (qa_cons (qe_v 0 (pv 0)) qa_nil)) qa_nil))))))))
  (qb_one (qs_ret (qe_add (qe_v 1 (pv 1)) (qe_lst (qa_cons (qe_calF c_is_gapped dfl_nil (hr.mono (j := 2) (by decide)) (by rfl) (qa_cons (qe_v 0 (pv 0)) qa_nil)) (qa_cons (qe_calF c_is_side dfl_nil (hr.mono (j := 1) (by decide)) (by rfl) (qa_cons (qe_v 0 (pv 0)) qa_nil)) (qa_cons (qe_calF c_are_ends dfl_nil (hr.mono (j := 1) (by decide)) (by rfl) (qa_cons (qe_v 0 (pv 0)) qa_nil)) qa_nil)))))))))
theorem ok_law_told (T : Tx K mg) (c_is_great_price : Cal P w K mg base "is_great_price" 3 ["thing"] (spF 1 w_is_great_price K) []) (c_is_great_worth : Cal P w K mg base "is_great_worth" 3 ["thing"] (spF 1 w_is_great_worth K) []) (c_is_price : Cal P w K mg base "is_price" 3 ["thing"] (spF 1 w_is_price K) []) (c_is_worth : Cal P w K mg base "is_worth" 3 ["thing"] (spF 1 w_is_worth K) []) (c_is_whole : Cal P w K mg base "is_whole" 1 ["thing"] (spF 1 w_is_whole K) []) (c_is_path : Cal P w K mg base "is_path" 2 ["thing"] (spF 1 w_is_path K) []) (c_is_step : Cal P w K mg base "is_step" 2 ["thing"] (spF 1 w_is_step K) []) (c_is_name : Cal P w K mg base "is_name" 2 ["thing"] (spF 1 w_is_name K) []) (c_is_row : Cal P w K mg base "is_row" 2 ["thing"] (spF 1 w_is_row K) []) (c_is_letter : Cal P w K mg base "is_letter" 2 ["thing"] (spF 1 w_is_letter K) []) (c_are_ends : Cal P w K mg base "are_ends" 1 ["thing"] (spF 1 w_are_ends K) []) (c_is_side : Cal P w K mg base "is_side" 1 ["thing"] (spF 1 w_is_side K) []) (c_is_gapped : Cal P w K mg base "is_gapped" 2 ["thing"] (spF 1 w_is_gapped K) []) {f : Addr} {fd : FuncData} (F : FunD K "_law_told" "_law_told" (defArgs s_law_told) (defBody s_law_told) (defScope s_law_told) [] [] f fd) : FnOk P w K mg base CX0 4 f fd ["_law_thing_here"] (spF 1 w_law_told K) := by
  refine F.ok sc_law_told (fun vs H Q E h => len_F h) (fun cdv A outer s H vs Q E hr h => ?_)
  have hq := q_law_told (P := P) (w := w) (base := base) (E := E) (H := H) (outer := outer) T c_is_great_price c_is_great_worth c_is_price c_is_worth c_is_whole c_is_path c_is_step c_is_name c_is_row c_is_letter c_are_ends c_is_side c_is_gapped hr
  rw [e_law_told, xF_eq] at h
  obtain ⟨t, h1, h2⟩ := body_F (N := ["_law_thing_here", "_law_told_here"]) (n := 1) hq rfl (by decide) h
  exact ⟨t, PSs.nox h1, h2⟩
abbrev s_law_bag : Stmt := topS 26
theorem sc_law_bag : FnScope ["_law_script", "_law_cell"] ["_law_script"] (defScope s_law_bag) := ⟨rfl, rfl, rfl, by decide +kernel, rfl, by decide +kernel, by decide +kernel⟩
abbrev s_law : Stmt := topS 36
theorem sc_law : FnScope ["_law_script", "_law_bag_here", "_law_k", "_law_thing_here", "_law_kept", "_law_dues_here", "_law_turn"] ["_law_script"] (defScope s_law) := ⟨rfl, rfl, rfl, by decide +kernel, rfl, by decide +kernel, by decide +kernel⟩
end
section
variable {P : Program} {w : World} {K : Vl.Fg} {mg : Str → Option Value} {base : Heap}
theorem td_law_take (T : Tx K mg) {f : Addr} {cdv : Value} {A : Around} {outer : List Env} {s : Shared} {H : Hp} {E : XK} (hr : Room 0 (A.deeper (PyProof.Rows.envOfC "_law_take" (defScope s_law_take) s.heap.objs.size f cdv))) : PSs (cxOf CX0 P w K mg base ["_law_bag_here", "_law_many", "_law_cell", "_law_value", "_law_first", "_law_second"] "_law_take" (defScope s_law_take) f cdv A outer s H E).nox (defBody s_law_take) (t_take K) := by
  exact (pss_cons (ps_if (pt_cmpR (op_eqA hr.units) (pe_ix ix_seq (pv 0) pe_int (fun _ _ => rfl)) pe_int (nomark _)) (pss_cons (ps_set (i := 2) sc_law_take.nd rfl (by first | exact Or.inl rfl | exact Or.inr rfl) pe_int)
  (pss_cons (ps_if (pt_cmpR op_ltA (pe_ix ix_seq (pv 0) pe_int (fun _ _ => rfl)) (pe_callB call_lenA (by rfl) T.f_len (by decide +kernel) (pa_cons (pe_ix ix_seq (pv 0) pe_int (fun _ _ => rfl)) pa_nil)) (nomark _)) (pss_one (ps_set (i := 2) sc_law_take.nd rfl (by first | exact Or.inl rfl | exact Or.inr rfl) (pe_ix ix_seq (pe_ix ix_seq (pv 0) pe_int (fun _ _ => rfl)) (pe_ix ix_seq (pv 0) pe_int (fun _ _ => rfl)) (fun _ _ => rfl)))) pss_nil)
  (pss_cons (ps_augS (pv 0) pe_int get_list pe_int ip_addA set_list)
  (pss_cons (ps_if (pt_cmpR op_geA (pv 2) pe_int (nomark _)) (pss_one (ps_asg (pv 2) (pg_sub (pv 0) pe_int set_list))) pss_nil)
  (pss_one (ps_asg (pe_op op_modA (pe_op op_addA (pe_op op_addA (pe_op op_mulA (pe_ix ix_seq (pv 0) pe_int (fun _ _ => rfl)) pe_int) (pe_op op_modA (pv 2) pe_int)) (pe_op op_mulA pe_int (pe_ix ix_seq (pv 0) pe_int (fun _ _ => rfl)))) pe_int) (pg_sub (pv 0) pe_int set_list))))))) pss_nil)
  (pss_cons (ps_if (pt_cmpR op_gtA (pe_ix ix_seq (pv 0) pe_int (fun _ _ => rfl)) pe_int (nomark _)) (pss_cons (ps_set (i := 3) sc_law_take.nd rfl (by first | exact Or.inl rfl | exact Or.inr rfl) (pe_op op_modA (pe_ix ix_seq (pv 0) pe_int (fun _ _ => rfl)) (pv 1)))
  (pss_cons (ps_asg (pe_op op_divA (pe_ix ix_seq (pv 0) pe_int (fun _ _ => rfl)) (pv 1)) (pg_sub (pv 0) pe_int set_list)) (pss_one (ps_ret (pv 3))))) pss_nil)
  (pss_cons (ps_set (i := 4) sc_law_take.nd rfl (by first | exact Or.inl rfl | exact Or.inr rfl) (pe_op op_modA (pe_op op_mulA (pe_op op_addA (pe_ix ix_seq (pv 0) pe_int (fun _ _ => rfl)) pe_int) pe_int) pe_int))
  (pss_cons (ps_set (i := 5) sc_law_take.nd rfl (by first | exact Or.inl rfl | exact Or.inr rfl) (pe_op op_modA (pe_op op_mulA (pe_op op_modA (pe_op op_mulA (pv 4) (pv 4)) pe_int) pe_int) pe_int))
  (pss_cons (ps_if (pt_cmpR op_gtA (pv 1) pe_int (nomark _)) (pss_one (ps_ret (pe_op op_modA (pe_op op_addA (pe_op op_mulA (pv 5) pe_int) (pv 4)) (pv 1)))) pss_nil)
  (pss_one (ps_ret (pe_op op_modA (pe_op op_divA (pv 5) pe_int) (pv 1)))))))))
theorem ok_law_take (T : Tx K mg) {f : Addr} {fd : FuncData} (F : FunD K "_law_take" "_law_take" (defArgs s_law_take) (defBody s_law_take) (defScope s_law_take) [] [] f fd) : FnOk P w K mg base CX0 1 f fd ["_law_bag_here", "_law_many"] (spF 2 w_law_take K) := by
  refine F.ok sc_law_take (fun vs H Q E h => len_F h) (fun cdv A outer s H vs Q E hr h => ?_)
  exact ⟨_, PSs.nox (td_law_take T hr), pure_take h⟩
theorem td_law_bag (T : Tx K mg) {f : Addr} {cdv : Value} {A : Around} {outer : List Env} {s : Shared} {H : Hp} {E : XK} (hr : Room 0 (A.deeper (PyProof.Rows.envOfC "_law_bag" (defScope s_law_bag) s.heap.objs.size f cdv))) : PSs (cxOf CX0 P w K mg base ["_law_script", "_law_cell"] "_law_bag" (defScope s_law_bag) f cdv A outer s H E).nox (defBody s_law_bag) (t_bag K) := by
  exact (pss_one (ps_ret (pe_lst (pa_cons pe_int (pa_cons pe_int (pa_cons pe_int (pa_cons (pe_lc (own := [("_law_cell", 1)]) (by rfl) sc_law_bag.nd (pi_list (pe_slice sl_list (pv 0) po_none (po_some pe_int))) (blkOk_by (own := [("_law_cell", 1)]) (by kernel_rfl)) (fun _ _ _ _ _ => pg_name (i := 1) sc_law_bag.nd rfl (by first | exact Or.inl rfl | exact Or.inr rfl)) (fun _ _ _ _ _ => by exact pts_nil) (fun _ _ _ _ _ => by exact pe_callB call_absA (by rfl) T.f_abs (by decide +kernel) (pa_cons (pv 1) pa_nil))) pa_nil)))))))
theorem ok_law_bag (T : Tx K mg) {f : Addr} {fd : FuncData} (F : FunD K "_law_bag" "_law_bag" (defArgs s_law_bag) (defBody s_law_bag) (defScope s_law_bag) [] [] f fd) : FnOk P w K mg base CX0 1 f fd ["_law_script"] (spBag K) := by
  refine F.ok sc_law_bag (fun vs H Q E h => by obtain ⟨_, _, rfl, _⟩ := h; rfl) (fun cdv A outer s H vs Q E hr h => ?_)
  exact ⟨_, PSs.nox (td_law_bag T hr), pure_bag h⟩
theorem q_law (T : Tx K mg) (c_law_thing : Cal P w K mg base "_law_thing" 3 ["_law_bag_here"] (spF 1 w_law_thing K) []) (c_law_dues : Cal P w K mg base "_law_dues" 2 ["_law_thing_here"] (spF 1 w_law_dues K) []) (c_law_told : Cal P w K mg base "_law_told" 4 ["_law_thing_here"] (spF 1 w_law_told K) []) (c_law_bag : Cal P w K mg base "_law_bag" 1 ["_law_script"] (spBag K) []) {f : Addr} {cdv : Value} {A : Around} {outer : List Env} {s : Shared} {H : Hp} {E : XK} (hgu : A.guards = some []) (hr : Room 4 (A.deeper (PyProof.Rows.envOfC "law" (defScope s_law) s.heap.objs.size f cdv))) : QB (cxOf CX0 P w K mg base ["_law_script", "_law_bag_here", "_law_k", "_law_thing_here", "_law_kept", "_law_dues_here", "_law_turn"] "law" (defScope s_law) f cdv A outer s H E).nox [.bor, .sh, .sh, .sh, .sh, .sh, .sh] [.bor, .sh, .sh, .sh, .sh, .sh, .sh] [.bor, .sh, .sh, .sh, .sh, .sh, .sh] (defBody s_law).tail p_law := by
  exact (qb_cons (yq_for (qs_for (js := [2]) (fun h1 h2 h3 => ps_for PassesOwn.never rfl h1 h2 h3) (qi_rng (by rfl) T.f_range qe_int) (xq_name (i := 2) (pg_name (i := 2) sc_law.nd rfl (by first | exact Or.inl rfl | exact Or.inr rfl))) (qb_cons (xs_setG (i := 3) (fun h => ps_set (i := 3) sc_law.nd rfl (by first | exact Or.inl rfl | exact Or.inr rfl) h) (qe_calF c_law_thing dfl_nil (hr.mono (j := 3) (by decide)) (by rfl) (qa_cons (qe_v 1 (pv 1)) qa_nil)))
  (qb_cons (xs_setG (i := 4) (fun h => ps_set (i := 4) sc_law.nd rfl (by first | exact Or.inl rfl | exact Or.inr rfl) h) (qe_reprD T.f_repr (by rfl) (by exact hgu) hr.units (qa_cons (qe_v 3 (pv 3)) qa_nil)))
  (qb_cons (xs_setG (i := 5) (fun h => ps_set (i := 5) sc_law.nd rfl (by first | exact Or.inl rfl | exact Or.inr rfl) h) (qe_reprD T.f_repr (by rfl) (by exact hgu) hr.units (qa_cons (qe_calF c_law_dues dfl_nil (hr.mono (j := 2) (by decide)) (by rfl) (qa_cons (qe_v 3 (pv 3)) qa_nil)) qa_nil)))
  (qb_one (yq_for (qs_for (js := [6]) (fun h1 h2 h3 => ps_for PassesOwn.never rfl h1 h2 h3) (qi_rng (by rfl) T.f_range qe_int) (xq_name (i := 6) (pg_name (i := 6) sc_law.nd rfl (by first | exact Or.inl rfl | exact Or.inr rfl))) (qb_one (qs_if (qt_w (qw_or (qt_neS (hr.units) (qe_reprD T.f_repr (by rfl) (by exact hgu) hr.units (qa_cons (qe_calF c_law_told dfl_nil (hr.mono (j := 4) (by decide)) (by rfl) (qa_cons (qe_v 3 (pv 3)) qa_nil)) qa_nil)) (qe_v 5 (pv 5))) (qw_or1 (qt_neS (hr.units) (qe_reprD T.f_repr (by rfl) (by exact hgu) hr.units (qa_cons (qe_v 3 (pv 3)) qa_nil)) (qe_v 4 (pv 4)))))) (qb_one (qs_ret qe_bl)) qb_nil))))))))))
  (qb_one (qs_ret qe_bl)))
theorem ok_law (hp : p_law lawD (lawG 7)) (T : Tx K mg) (c_law_thing : Cal P w K mg base "_law_thing" 3 ["_law_bag_here"] (spF 1 w_law_thing K) []) (c_law_dues : Cal P w K mg base "_law_dues" 2 ["_law_thing_here"] (spF 1 w_law_dues K) []) (c_law_told : Cal P w K mg base "_law_told" 4 ["_law_thing_here"] (spF 1 w_law_told K) []) (c_law_bag : Cal P w K mg base "_law_bag" 1 ["_law_script"] (spBag K) []) {f : Addr} {fd : FuncData} (F : FunD K "law" "law" (defArgs s_law) (defBody s_law) (defScope s_law) [] [] f fd) : FnG P w K mg base 5 f fd ["_law_script"] (spLaw K) := by
  refine okG F sc_law (fun vs H Q E h => by obtain ⟨_, _, rfl, _⟩ := h; rfl) (fun cdv A outer s H vs Q E hgu hr h => ?_)
  have hq := q_law (P := P) (w := w) (base := base) (E := E) (H := H) (outer := outer) T c_law_thing c_law_dues c_law_told c_law_bag hgu hr
  obtain ⟨t, h1, h2⟩ := body_law (N := ["_law_script", "_law_bag_here", "_law_k", "_law_thing_here", "_law_kept", "_law_dues_here", "_law_turn"]) (ps_set (i := 1) sc_law.nd rfl (by first | exact Or.inl rfl | exact Or.inr rfl) (pe_cal c_law_bag (hr.mono (j := 1) (by decide)) (by rfl) (pa_cons (pv 0) pa_nil))) hq rfl (by decide) hp h
  exact ⟨t, PSs.nox h1, h2⟩
end
def dd_law_take : He.DefD := ⟨("_law_take", none), "_law_take", "_law_take", defArgs s_law_take, defBody s_law_take, defScope s_law_take, [], []⟩
def dd_law_number : He.DefD := ⟨("_law_number", none), "_law_number", "_law_number", defArgs s_law_number, defBody s_law_number, defScope s_law_number, [], []⟩
def dd_law_words : He.DefD := ⟨("_law_words", none), "_law_words", "_law_words", defArgs s_law_words, defBody s_law_words, defScope s_law_words, [], []⟩
def dd_law_truths : He.DefD := ⟨("_law_truths", none), "_law_truths", "_law_truths", defArgs s_law_truths, defBody s_law_truths, defScope s_law_truths, [], []⟩
def dd_law_thing : He.DefD := ⟨("_law_thing", none), "_law_thing", "_law_thing", defArgs s_law_thing, defBody s_law_thing, defScope s_law_thing, [], []⟩
def dd_law_is_number : He.DefD := ⟨("_law_is_number", none), "_law_is_number", "_law_is_number", defArgs s_law_is_number, defBody s_law_is_number, defScope s_law_is_number, [], []⟩
def dd_law_is_text : He.DefD := ⟨("_law_is_text", none), "_law_is_text", "_law_is_text", defArgs s_law_is_text, defBody s_law_is_text, defScope s_law_is_text, [], []⟩
def dd_law_dues : He.DefD := ⟨("_law_dues", none), "_law_dues", "_law_dues", defArgs s_law_dues, defBody s_law_dues, defScope s_law_dues, [], []⟩
def dd_is_whole : He.DefD := ⟨("is_whole", none), "is_whole", "is_whole", defArgs s_is_whole, defBody s_is_whole, defScope s_is_whole, [], []⟩
def dd_is_between : He.DefD := ⟨("is_between", none), "is_between", "is_between", defArgs s_is_between, defBody s_is_between, defScope s_is_between, [], []⟩
def dd_is_great_price : He.DefD := ⟨("is_great_price", none), "is_great_price", "is_great_price", defArgs s_is_great_price, defBody s_is_great_price, defScope s_is_great_price, [], []⟩
def dd_is_great_worth : He.DefD := ⟨("is_great_worth", none), "is_great_worth", "is_great_worth", defArgs s_is_great_worth, defBody s_is_great_worth, defScope s_is_great_worth, [], []⟩
def dd_is_price : He.DefD := ⟨("is_price", none), "is_price", "is_price", defArgs s_is_price, defBody s_is_price, defScope s_is_price, [], []⟩
def dd_is_worth : He.DefD := ⟨("is_worth", none), "is_worth", "is_worth", defArgs s_is_worth, defBody s_is_worth, defScope s_is_worth, [], []⟩
def dd_is_text_of : He.DefD := ⟨("is_text_of", none), "is_text_of", "is_text_of", defArgs s_is_text_of, defBody s_is_text_of, defScope s_is_text_of, [], []⟩
def dd_is_path : He.DefD := ⟨("is_path", none), "is_path", "is_path", defArgs s_is_path, defBody s_is_path, defScope s_is_path, [], []⟩
def dd_is_step : He.DefD := ⟨("is_step", none), "is_step", "is_step", defArgs s_is_step, defBody s_is_step, defScope s_is_step, [], []⟩
def dd_is_name : He.DefD := ⟨("is_name", none), "is_name", "is_name", defArgs s_is_name, defBody s_is_name, defScope s_is_name, [], []⟩
def dd_is_row : He.DefD := ⟨("is_row", none), "is_row", "is_row", defArgs s_is_row, defBody s_is_row, defScope s_is_row, [], []⟩
def dd_is_letter : He.DefD := ⟨("is_letter", none), "is_letter", "is_letter", defArgs s_is_letter, defBody s_is_letter, defScope s_is_letter, [], []⟩
def dd_are_ends : He.DefD := ⟨("are_ends", none), "are_ends", "are_ends", defArgs s_are_ends, defBody s_are_ends, defScope s_are_ends, [], []⟩
def dd_is_side : He.DefD := ⟨("is_side", none), "is_side", "is_side", defArgs s_is_side, defBody s_is_side, defScope s_is_side, [], []⟩
def dd_is_gapped : He.DefD := ⟨("is_gapped", none), "is_gapped", "is_gapped", defArgs s_is_gapped, defBody s_is_gapped, defScope s_is_gapped, [], []⟩
def dd_law_told : He.DefD := ⟨("_law_told", none), "_law_told", "_law_told", defArgs s_law_told, defBody s_law_told, defScope s_law_told, [], []⟩
def dd_law_bag : He.DefD := ⟨("_law_bag", none), "_law_bag", "_law_bag", defArgs s_law_bag, defBody s_law_bag, defScope s_law_bag, [], []⟩
def dd_law : He.DefD := ⟨("law", none), "law", "law", defArgs s_law, defBody s_law, defScope s_law, [], []⟩
def fn : List He.DefD := [dd_law_take, dd_law_number, dd_law_words, dd_law_truths, dd_law_thing, dd_law_is_number, dd_law_is_text, dd_law_dues, dd_is_whole, dd_is_between, dd_is_great_price, dd_is_great_worth, dd_is_price, dd_is_worth, dd_is_text_of, dd_is_path, dd_is_step, dd_is_name, dd_is_row, dd_is_letter, dd_are_ends, dd_is_side, dd_is_gapped, dd_law_told, dd_law_bag, dd_law]
def fa : List He.Fa := [.free "abs", .free "all", .free "bool", .free "int", .free "isinstance", .free "len", .free "range", .free "repr", .free "str", .free "tuple", .glo "_law_take", .glo "_law_number", .glo "_law_words", .glo "_law_truths", .glo "_law_thing", .glo "_law_is_number", .glo "_law_is_text", .glo "_law_dues", .glo "is_whole", .glo "is_between", .glo "is_great_price", .glo "is_great_worth", .glo "is_price", .glo "is_worth", .glo "is_text_of", .glo "is_path", .glo "is_step", .glo "is_name", .glo "is_row", .glo "is_letter", .glo "are_ends", .glo "is_side", .glo "is_gapped", .glo "_law_told", .glo "_law_bag", .glo "law"]
def exl : List (Vl.Fg → Bool) := [fun K => gvB K "GAP" (.str "-"), fun K => gvB K "LETTERS" (.str "abcdefghijklmnopqrstuvwxyz"), fun K => gvB K "LONGEST_NAME" (.int 8), fun K => gvB K "LONGEST_PATH" (.int 120), fun K => gvB K "LONGEST_ROW" (.int 40), fun K => gvB K "MOST_GREAT" (.int 1000000000000), fun K => gvB K "MOST_WORTH" (.int 1000000), fun K => gvB K "SIDES" (.tup [(.str "over"), (.str "under")]), fun K => gvB K "STEPS" (.str "bou")]
abbrev R : PySem.W.OpenRow := PySem.W.OpenLaw.row PySem.Challenge.rw_laybeside_k11_kinds_known
abbrev hk : PySem.W.Hook := He.hookX 4 fa fn [] [] (fun K => exl.all fun f => f K)
def ob (s : PySem.W.SharedT) : He.AlX := He.obsX 4 fa fn [] [] (fun K => exl.all fun f => f K) (HandSHeadRun.getT s)
theorem ob_eq (s : PySem.W.SharedT) : ob s = hk.obs s.abs := He.obsX_eq (HandSHeadRun.getT_eq s)
def nm0 : List PySem.Str := ["MOST_WORTH", "MOST_GREAT", "LONGEST_ROW", "LONGEST_NAME", "LONGEST_PATH", "LETTERS", "STEPS", "GAP", "SIDES", "is_whole", "is_between", "is_text_of", "is_worth", "is_price", "is_great_worth", "is_great_price", "is_letter", "is_row", "is_name", "is_step", "is_path", "is_gapped", "is_side", "are_ends", "_law_bag", "_law_take", "_law_number", "_law_words", "_law_truths", "_law_thing"]
def nm1 : List PySem.Str := ["_law_is_number", "_law_is_text", "_law_dues", "_law_told"]
abbrev loose : List PySem.Str := nm0 ++ nm1
theorem run (w : World) : HandSHeadRun.RunEq R (PySem.W.view R.prog [36]) hk ob 200000 loose w := by
  intro os
  kernel_rfl
section
variable {P : Program} {w : World} {K : Vl.Fg} {h : Heap} {mg : Str → Option Value}
theorem tx (X : K.In h) (G : h.Ns mainGlobals mg) (c : He.SaysX fa fn [] [] (fun K => exl.all fun f => f K) w h K) : Tx K mg :=
  ⟨He.free_ok X G (c.t.d.fact 0 rfl),
   He.free_ok X G (c.t.d.fact 1 rfl),
   He.free_ok X G (c.t.d.fact 2 rfl),
   He.free_ok X G (c.t.d.fact 3 rfl),
   He.free_ok X G (c.t.d.fact 4 rfl),
   He.free_ok X G (c.t.d.fact 5 rfl),
   He.free_ok X G (c.t.d.fact 6 rfl),
   He.free_ok X G (c.t.d.fact 7 rfl),
   He.free_ok X G (c.t.d.fact 8 rfl),
   He.free_ok X G (c.t.d.fact 9 rfl),
   gvB_ok X G (all_at 0 c.more rfl),
   gvB_ok X G (all_at 1 c.more rfl),
   gvB_ok X G (all_at 2 c.more rfl),
   gvB_ok X G (all_at 3 c.more rfl),
   gvB_ok X G (all_at 4 c.more rfl),
   gvB_ok X G (all_at 5 c.more rfl),
   gvB_ok X G (all_at 6 c.more rfl),
   gvB_ok X G (all_at 7 c.more rfl),
   gvB_ok X G (all_at 8 c.more rfl)⟩
theorem facts {f : Addr} (X : K.In h) (G : h.Ns mainGlobals mg) (hp : p_law lawD (lawG 7)) (hfa : mg ("law" : Str) = some (.ref f)) (c : He.SaysX fa fn [] [] (fun K => exl.all fun f => f K) w h K) :
    ∃ fd : FuncData, (∀ (s : Shared) (v : Value), BindsTo s fd ⟨[v], []⟩ [("_law_script", v)]) ∧ ∀ base : Heap, K.In base → base.Ns mainGlobals mg → FnG P w K mg base 5 f fd ["_law_script"] (spLaw K) := by
  have T := tx X G c
  obtain ⟨fd_law, F_law⟩ := c.t.d.def_ 25 (d := dd_law) rfl
  have e := hfa.symm.trans (He.glo_ok X G (c.t.d.fact 35 rfl))
  cases e
  have b := FunD.bindsA (ps := ["_law_script"]) F_law fun _ _ _ _ _ _ us hl => match us, hl with | [_], _ => rfl
  refine ⟨fd_law, fun s v => b s [v] rfl, fun base _ _ => ?_⟩
  obtain ⟨fd_law_take, F_law_take⟩ := c.t.d.def_ 0 (d := dd_law_take) rfl
  have o_law_take := ok_law_take (P := P) (w := w) (base := base) T  F_law_take
  have c_law_take : Cal P w K mg base "_law_take" 1 ["_law_bag_here", "_law_many"] (spF 2 w_law_take K) [] := ⟨fd_law_take, [], o_law_take, (F_law_take.bindsN fun _ _ _ _ _ _ us hl => match us, hl with | [_, _], _ => rfl), .nil, He.glo_ok X G (c.t.d.fact 10 rfl), F_law_take.kp⟩
  obtain ⟨fd_law_number, F_law_number⟩ := c.t.d.def_ 1 (d := dd_law_number) rfl
  have o_law_number := ok_law_number (P := P) (w := w) (base := base) T c_law_take F_law_number
  have c_law_number : Cal P w K mg base "_law_number" 2 ["_law_bag_here"] (spF 1 w_law_number K) [] := ⟨fd_law_number, [], o_law_number, (F_law_number.bindsN fun _ _ _ _ _ _ us hl => match us, hl with | [_], _ => rfl), .nil, He.glo_ok X G (c.t.d.fact 11 rfl), F_law_number.kp⟩
  obtain ⟨fd_law_words, F_law_words⟩ := c.t.d.def_ 2 (d := dd_law_words) rfl
  have o_law_words := ok_law_words (P := P) (w := w) (base := base) T c_law_take F_law_words
  have c_law_words : Cal P w K mg base "_law_words" 2 ["_law_bag_here"] (spF 1 w_law_words K) [] := ⟨fd_law_words, [], o_law_words, (F_law_words.bindsN fun _ _ _ _ _ _ us hl => match us, hl with | [_], _ => rfl), .nil, He.glo_ok X G (c.t.d.fact 12 rfl), F_law_words.kp⟩
  obtain ⟨fd_law_truths, F_law_truths⟩ := c.t.d.def_ 3 (d := dd_law_truths) rfl
  have o_law_truths := ok_law_truths (P := P) (w := w) (base := base) T c_law_take F_law_truths
  have c_law_truths : Cal P w K mg base "_law_truths" 2 ["_law_bag_here"] (spF 1 w_law_truths K) [] := ⟨fd_law_truths, [], o_law_truths, (F_law_truths.bindsN fun _ _ _ _ _ _ us hl => match us, hl with | [_], _ => rfl), .nil, He.glo_ok X G (c.t.d.fact 13 rfl), F_law_truths.kp⟩
  obtain ⟨fd_law_thing, F_law_thing⟩ := c.t.d.def_ 4 (d := dd_law_thing) rfl
  have o_law_thing := ok_law_thing (P := P) (w := w) (base := base) T c_law_take c_law_number c_law_words c_law_truths F_law_thing
  have c_law_thing : Cal P w K mg base "_law_thing" 3 ["_law_bag_here"] (spF 1 w_law_thing K) [] := ⟨fd_law_thing, [], o_law_thing, (F_law_thing.bindsN fun _ _ _ _ _ _ us hl => match us, hl with | [_], _ => rfl), .nil, He.glo_ok X G (c.t.d.fact 14 rfl), F_law_thing.kp⟩
  obtain ⟨fd_law_is_number, F_law_is_number⟩ := c.t.d.def_ 5 (d := dd_law_is_number) rfl
  have o_law_is_number := ok_law_is_number (P := P) (w := w) (base := base) T  F_law_is_number
  have c_law_is_number : Cal P w K mg base "_law_is_number" 1 ["_law_thing_here", "_law_low", "_law_high"] (spF 3 w_law_is_number K) [] := ⟨fd_law_is_number, [], o_law_is_number, (F_law_is_number.bindsN fun _ _ _ _ _ _ us hl => match us, hl with | [_, _, _], _ => rfl), .nil, He.glo_ok X G (c.t.d.fact 15 rfl), F_law_is_number.kp⟩
  obtain ⟨fd_law_is_text, F_law_is_text⟩ := c.t.d.def_ 6 (d := dd_law_is_text) rfl
  have o_law_is_text := ok_law_is_text (P := P) (w := w) (base := base) T  F_law_is_text
  have c_law_is_text : Cal P w K mg base "_law_is_text" 1 ["_law_thing_here", "_law_signs", "_law_least", "_law_most"] (spF 4 w_law_is_text K) [] := ⟨fd_law_is_text, [], o_law_is_text, (F_law_is_text.bindsN fun _ _ _ _ _ _ us hl => match us, hl with | [_, _, _, _], _ => rfl), .nil, He.glo_ok X G (c.t.d.fact 16 rfl), F_law_is_text.kp⟩
  obtain ⟨fd_law_dues, F_law_dues⟩ := c.t.d.def_ 7 (d := dd_law_dues) rfl
  have o_law_dues := ok_law_dues (P := P) (w := w) (base := base) T c_law_is_number c_law_is_text F_law_dues
  have c_law_dues : Cal P w K mg base "_law_dues" 2 ["_law_thing_here"] (spF 1 w_law_dues K) [] := ⟨fd_law_dues, [], o_law_dues, (F_law_dues.bindsN fun _ _ _ _ _ _ us hl => match us, hl with | [_], _ => rfl), .nil, He.glo_ok X G (c.t.d.fact 17 rfl), F_law_dues.kp⟩
  obtain ⟨fd_is_whole, F_is_whole⟩ := c.t.d.def_ 8 (d := dd_is_whole) rfl
  have o_is_whole := ok_is_whole (P := P) (w := w) (base := base) T  F_is_whole
  have c_is_whole : Cal P w K mg base "is_whole" 1 ["thing"] (spF 1 w_is_whole K) [] := ⟨fd_is_whole, [], o_is_whole, (F_is_whole.bindsN fun _ _ _ _ _ _ us hl => match us, hl with | [_], _ => rfl), .nil, He.glo_ok X G (c.t.d.fact 18 rfl), F_is_whole.kp⟩
  obtain ⟨fd_is_between, F_is_between⟩ := c.t.d.def_ 9 (d := dd_is_between) rfl
  have o_is_between := ok_is_between (P := P) (w := w) (base := base) T c_is_whole F_is_between
  have c_is_between : Cal P w K mg base "is_between" 2 ["thing", "low", "high"] (spF 3 w_is_between K) [] := ⟨fd_is_between, [], o_is_between, (F_is_between.bindsN fun _ _ _ _ _ _ us hl => match us, hl with | [_, _, _], _ => rfl), .nil, He.glo_ok X G (c.t.d.fact 19 rfl), F_is_between.kp⟩
  obtain ⟨fd_is_great_price, F_is_great_price⟩ := c.t.d.def_ 10 (d := dd_is_great_price) rfl
  have o_is_great_price := ok_is_great_price (P := P) (w := w) (base := base) T c_is_between F_is_great_price
  have c_is_great_price : Cal P w K mg base "is_great_price" 3 ["thing"] (spF 1 w_is_great_price K) [] := ⟨fd_is_great_price, [], o_is_great_price, (F_is_great_price.bindsN fun _ _ _ _ _ _ us hl => match us, hl with | [_], _ => rfl), .nil, He.glo_ok X G (c.t.d.fact 20 rfl), F_is_great_price.kp⟩
  obtain ⟨fd_is_great_worth, F_is_great_worth⟩ := c.t.d.def_ 11 (d := dd_is_great_worth) rfl
  have o_is_great_worth := ok_is_great_worth (P := P) (w := w) (base := base) T c_is_between F_is_great_worth
  have c_is_great_worth : Cal P w K mg base "is_great_worth" 3 ["thing"] (spF 1 w_is_great_worth K) [] := ⟨fd_is_great_worth, [], o_is_great_worth, (F_is_great_worth.bindsN fun _ _ _ _ _ _ us hl => match us, hl with | [_], _ => rfl), .nil, He.glo_ok X G (c.t.d.fact 21 rfl), F_is_great_worth.kp⟩
  obtain ⟨fd_is_price, F_is_price⟩ := c.t.d.def_ 12 (d := dd_is_price) rfl
  have o_is_price := ok_is_price (P := P) (w := w) (base := base) T c_is_between F_is_price
  have c_is_price : Cal P w K mg base "is_price" 3 ["thing"] (spF 1 w_is_price K) [] := ⟨fd_is_price, [], o_is_price, (F_is_price.bindsN fun _ _ _ _ _ _ us hl => match us, hl with | [_], _ => rfl), .nil, He.glo_ok X G (c.t.d.fact 22 rfl), F_is_price.kp⟩
  obtain ⟨fd_is_worth, F_is_worth⟩ := c.t.d.def_ 13 (d := dd_is_worth) rfl
  have o_is_worth := ok_is_worth (P := P) (w := w) (base := base) T c_is_between F_is_worth
  have c_is_worth : Cal P w K mg base "is_worth" 3 ["thing"] (spF 1 w_is_worth K) [] := ⟨fd_is_worth, [], o_is_worth, (F_is_worth.bindsN fun _ _ _ _ _ _ us hl => match us, hl with | [_], _ => rfl), .nil, He.glo_ok X G (c.t.d.fact 23 rfl), F_is_worth.kp⟩
  obtain ⟨fd_is_text_of, F_is_text_of⟩ := c.t.d.def_ 14 (d := dd_is_text_of) rfl
  have o_is_text_of := ok_is_text_of (P := P) (w := w) (base := base) T  F_is_text_of
  have c_is_text_of : Cal P w K mg base "is_text_of" 1 ["thing", "signs", "least", "most"] (spF 4 w_is_text_of K) [] := ⟨fd_is_text_of, [], o_is_text_of, (F_is_text_of.bindsN fun _ _ _ _ _ _ us hl => match us, hl with | [_, _, _, _], _ => rfl), .nil, He.glo_ok X G (c.t.d.fact 24 rfl), F_is_text_of.kp⟩
  obtain ⟨fd_is_path, F_is_path⟩ := c.t.d.def_ 15 (d := dd_is_path) rfl
  have o_is_path := ok_is_path (P := P) (w := w) (base := base) T c_is_text_of F_is_path
  have c_is_path : Cal P w K mg base "is_path" 2 ["thing"] (spF 1 w_is_path K) [] := ⟨fd_is_path, [], o_is_path, (F_is_path.bindsN fun _ _ _ _ _ _ us hl => match us, hl with | [_], _ => rfl), .nil, He.glo_ok X G (c.t.d.fact 25 rfl), F_is_path.kp⟩
  obtain ⟨fd_is_step, F_is_step⟩ := c.t.d.def_ 16 (d := dd_is_step) rfl
  have o_is_step := ok_is_step (P := P) (w := w) (base := base) T c_is_text_of F_is_step
  have c_is_step : Cal P w K mg base "is_step" 2 ["thing"] (spF 1 w_is_step K) [] := ⟨fd_is_step, [], o_is_step, (F_is_step.bindsN fun _ _ _ _ _ _ us hl => match us, hl with | [_], _ => rfl), .nil, He.glo_ok X G (c.t.d.fact 26 rfl), F_is_step.kp⟩
  obtain ⟨fd_is_name, F_is_name⟩ := c.t.d.def_ 17 (d := dd_is_name) rfl
  have o_is_name := ok_is_name (P := P) (w := w) (base := base) T c_is_text_of F_is_name
  have c_is_name : Cal P w K mg base "is_name" 2 ["thing"] (spF 1 w_is_name K) [] := ⟨fd_is_name, [], o_is_name, (F_is_name.bindsN fun _ _ _ _ _ _ us hl => match us, hl with | [_], _ => rfl), .nil, He.glo_ok X G (c.t.d.fact 27 rfl), F_is_name.kp⟩
  obtain ⟨fd_is_row, F_is_row⟩ := c.t.d.def_ 18 (d := dd_is_row) rfl
  have o_is_row := ok_is_row (P := P) (w := w) (base := base) T c_is_text_of F_is_row
  have c_is_row : Cal P w K mg base "is_row" 2 ["thing"] (spF 1 w_is_row K) [] := ⟨fd_is_row, [], o_is_row, (F_is_row.bindsN fun _ _ _ _ _ _ us hl => match us, hl with | [_], _ => rfl), .nil, He.glo_ok X G (c.t.d.fact 28 rfl), F_is_row.kp⟩
  obtain ⟨fd_is_letter, F_is_letter⟩ := c.t.d.def_ 19 (d := dd_is_letter) rfl
  have o_is_letter := ok_is_letter (P := P) (w := w) (base := base) T c_is_text_of F_is_letter
  have c_is_letter : Cal P w K mg base "is_letter" 2 ["thing"] (spF 1 w_is_letter K) [] := ⟨fd_is_letter, [], o_is_letter, (F_is_letter.bindsN fun _ _ _ _ _ _ us hl => match us, hl with | [_], _ => rfl), .nil, He.glo_ok X G (c.t.d.fact 29 rfl), F_is_letter.kp⟩
  obtain ⟨fd_are_ends, F_are_ends⟩ := c.t.d.def_ 20 (d := dd_are_ends) rfl
  have o_are_ends := ok_are_ends (P := P) (w := w) (base := base) T  F_are_ends
  have c_are_ends : Cal P w K mg base "are_ends" 1 ["thing"] (spF 1 w_are_ends K) [] := ⟨fd_are_ends, [], o_are_ends, (F_are_ends.bindsN fun _ _ _ _ _ _ us hl => match us, hl with | [_], _ => rfl), .nil, He.glo_ok X G (c.t.d.fact 30 rfl), F_are_ends.kp⟩
  obtain ⟨fd_is_side, F_is_side⟩ := c.t.d.def_ 21 (d := dd_is_side) rfl
  have o_is_side := ok_is_side (P := P) (w := w) (base := base) T  F_is_side
  have c_is_side : Cal P w K mg base "is_side" 1 ["thing"] (spF 1 w_is_side K) [] := ⟨fd_is_side, [], o_is_side, (F_is_side.bindsN fun _ _ _ _ _ _ us hl => match us, hl with | [_], _ => rfl), .nil, He.glo_ok X G (c.t.d.fact 31 rfl), F_is_side.kp⟩
  obtain ⟨fd_is_gapped, F_is_gapped⟩ := c.t.d.def_ 22 (d := dd_is_gapped) rfl
  have o_is_gapped := ok_is_gapped (P := P) (w := w) (base := base) T c_is_text_of F_is_gapped
  have c_is_gapped : Cal P w K mg base "is_gapped" 2 ["thing"] (spF 1 w_is_gapped K) [] := ⟨fd_is_gapped, [], o_is_gapped, (F_is_gapped.bindsN fun _ _ _ _ _ _ us hl => match us, hl with | [_], _ => rfl), .nil, He.glo_ok X G (c.t.d.fact 32 rfl), F_is_gapped.kp⟩
  obtain ⟨fd_law_told, F_law_told⟩ := c.t.d.def_ 23 (d := dd_law_told) rfl
  have o_law_told := ok_law_told (P := P) (w := w) (base := base) T c_is_great_price c_is_great_worth c_is_price c_is_worth c_is_whole c_is_path c_is_step c_is_name c_is_row c_is_letter c_are_ends c_is_side c_is_gapped F_law_told
  have c_law_told : Cal P w K mg base "_law_told" 4 ["_law_thing_here"] (spF 1 w_law_told K) [] := ⟨fd_law_told, [], o_law_told, (F_law_told.bindsN fun _ _ _ _ _ _ us hl => match us, hl with | [_], _ => rfl), .nil, He.glo_ok X G (c.t.d.fact 33 rfl), F_law_told.kp⟩
  obtain ⟨fd_law_bag, F_law_bag⟩ := c.t.d.def_ 24 (d := dd_law_bag) rfl
  have o_law_bag := ok_law_bag (P := P) (w := w) (base := base) T  F_law_bag
  have c_law_bag : Cal P w K mg base "_law_bag" 1 ["_law_script"] (spBag K) [] := ⟨fd_law_bag, [], o_law_bag, (F_law_bag.bindsN fun _ _ _ _ _ _ us hl => match us, hl with | [_], _ => rfl), .nil, He.glo_ok X G (c.t.d.fact 34 rfl), F_law_bag.kp⟩
  exact ok_law hp T c_law_thing c_law_dues c_law_told c_law_bag F_law
end
end Lw
namespace Lw
open PySem PySem.Spec L2 Lb Vl
local macro_rules | `(tactic| walk_at "sd") => `(tactic| first | with_reducible rfl | assumption | omega | (simp only [List.length_map, List.length_range, List.length_append, List.length_cons, List.length_nil]; omega) | rfl | (constructor <;> omega) | (simp only [List.length_map, List.length_range]; constructor <;> omega) | (refine few ?_; simp; done) | (refine few ?_; simp; omega) | (refine few ?_; omega) | (refine few1 ?_; simp; done) | (refine few1 ?_; simp; omega) | walk_at "sdx" | (simp; done) | (simp; omega))
local macro_rules | `(tactic| walk_at "sdx") => `(tactic| fail)
local macro_rules | `(tactic| walk_at "call") => `(tactic| fail)
local macro_rules | `(tactic| walk_at "go1") => `(tactic| first | walk_at "call" | refine And.intro (by walk_at "sd") ?_ | refine bift (by walk_at "sd") ?_ | refine biff (by walk_at "sd") ?_ | refine nbift (by walk_at "sd") ?_ | refine nbiff (by walk_at "sd") ?_ | with_reducible refine yfor_cons ?_ | with_reducible refine yfor_nil ?_ | with_reducible refine ylc_cons ?_ | with_reducible refine ylc_nil ?_ | rw [peq_int])
local macro_rules | `(tactic| walk_at "go") => `(tactic| ((repeat ((conv => whnf); walk_at "go1")); try (conv => whnf)))
theorem if2 {c : Prop} [Decidable c] {A B : Prop} (h1 : c → A) (h2 : ¬ c → B) : bfi (decide c) A B := by
  by_cases h : c
  · rw [decide_eq_true h]; exact h1 h
  · rw [decide_eq_false h]; exact h2 h
theorem L_is_whole {i : Int} {Q : PV → Prop} (k : Q (.bl true)) : w_is_whole [.int i] Q := by rw [e_is_whole]; exact k
theorem L_is_between {i lo hi : Int} {Q : PV → Prop} (k : Q (.bl (decide (lo ≤ i ∧ i ≤ hi)))) : w_is_between [.int i, .int lo, .int hi] Q := by
  rw [e_is_between]
  conv => whnf
  refine L_is_whole ?_
  conv => whnf
  refine if2 (fun h => ?_) fun h => ?_
  · have : decide (lo ≤ i ∧ i ≤ hi) = decide (i ≤ hi) := by simp [h]
    rw [this] at k; exact k
  · have : decide (lo ≤ i ∧ i ≤ hi) = false := by simp [h]
    rw [this] at k; exact k
/-- a comprehension whose element is told for each item -/
theorem lcM {α : Type} {g : GG} {e : GE} {γ : G} {h f : α → PV} : ∀ {l : List α} {Q : List PV → Prop}, (∀ a ∈ l, ∀ Q, Q (f a) → g (h a) γ fun γ2 => e γ2 Q) → Q (l.map f) → lcP g pYes e γ (l.map h) Q
  | [], _, _, k => k
  | a :: l, Q, hf, k => by
    show g (h a) γ fun γ2 => pYes γ2 fun b => bfi b (e γ2 fun y => lcP g pYes e γ (l.map h) fun ys => Q (y :: ys)) (lcP g pYes e γ (l.map h) Q)
    exact hf a (by simp) _ (lcM (fun b m => hf b (by simp [m])) k)
theorem len_pv {α : Type} {f : α → PV} {l : List α} (h : l.length ≤ 1000) : (l.map f).length ≤ sizeLine := by rw [List.length_map]; exact few h
theorem peq_int (i j : Int) : peq (.int i) (.int j) = decide (i = j) := by
  simp only [peq, toD, PyData.eqv]
  by_cases h : i = j
  · simp [h]
  · simp [h]
theorem atI_at {α β : Type} {f : α → β} {l : List α} {n : Nat} {a : α} (h : l[n]? = some a) : atI (l.map f) (n : Int) = some (f a) := by
  have hn : n < l.length := (List.getElem?_eq_some_iff.mp h).1
  unfold atI ixN
  rw [List.length_map, if_pos (by omega), if_pos (by omega)]
  simp [h]
theorem peq_nil {α : Type} {f : α → PV} : ∀ l : List α, peq (.lst (l.map f)) (.lst []) = l.isEmpty
  | [] => rfl
  | a :: l => rfl
local macro_rules | `(tactic| walk_at "call") => `(tactic| refine L_is_whole ?_)
end Lw
namespace Lw
open PySem PySem.Spec L2 Lb Vl
local macro_rules | `(tactic| walk_at "sd") => `(tactic| first | with_reducible rfl | assumption | omega | (simp only [List.length_map, List.length_range, List.length_append, List.length_cons, List.length_nil]; omega) | rfl | (constructor <;> omega) | (simp only [List.length_map, List.length_range]; constructor <;> omega) | (refine few ?_; simp; done) | (refine few ?_; simp; omega) | (refine few ?_; omega) | (refine few1 ?_; simp; done) | (refine few1 ?_; simp; omega) | walk_at "sdx" | (simp; done) | (simp; omega))
local macro_rules | `(tactic| walk_at "sdx") => `(tactic| fail)
local macro_rules | `(tactic| walk_at "call") => `(tactic| fail)
local macro_rules | `(tactic| walk_at "go1") => `(tactic| first | walk_at "call" | refine And.intro (by walk_at "sd") ?_ | refine bift (by walk_at "sd") ?_ | refine biff (by walk_at "sd") ?_ | refine nbift (by walk_at "sd") ?_ | refine nbiff (by walk_at "sd") ?_ | with_reducible refine yfor_cons ?_ | with_reducible refine yfor_nil ?_ | with_reducible refine ylc_cons ?_ | with_reducible refine ylc_nil ?_ | rw [peq_int])
local macro_rules | `(tactic| walk_at "go") => `(tactic| ((repeat ((conv => whnf); walk_at "go1")); try (conv => whnf)))
local macro_rules | `(tactic| walk_at "call") => `(tactic| refine L_is_whole ?_)
inductive Stp where
  | b | o | u
  deriving DecidableEq
def Stp.s : Stp → Str
  | .b => "b"
  | .o => "o"
  | .u => "u"
structure Ens where
  oh : Bool
  ot : Bool
  uh : Bool
  ut : Bool
def pvE (e : Ens) : PV := .tup [.bl e.oh, .bl e.ot, .bl e.uh, .bl e.ut]
theorem bools_f {α : Type} {f : α → Bool} (l : List α) : pBools (l.map fun x => PV.bl (f x)) = some (l.map f) := bools_map l
theorem allB_f {α : Type} {f : α → Bool} (l : List α) : allB (l.map f) = l.all f := by simp [allB]
theorem L_is_text_of {z sg : Str} {lo hi : Int} {Q : PV → Prop} (hz : z.length ≤ 1000) (k : Q (.bl (decide (lo ≤ (z.length : Int) ∧ (z.length : Int) ≤ hi) && z.cps.toList.all fun c => decide (c ∈ sg.cps.toList)))) : w_is_text_of [.str z, .str sg, .int lo, .int hi] Q := by
  rw [e_is_text_of]
  (conv => whnf)
  refine ⟨few hz, ?_⟩
  (conv => whnf)
  by_cases h : lo ≤ (z.length : Int)
  · rw [decide_eq_true h]
    (conv => whnf)
    by_cases h' : (z.length : Int) ≤ hi
    · rw [decide_eq_true h']
      (conv => whnf)
      refine ⟨len_pv (by simpa [Str.length] using hz), lcM (f := fun c => .bl (decide (c ∈ sg.cps.toList))) (fun c m Q k => ⟨rfl, k⟩) ?_⟩
      (conv => whnf)
      rw [bools_f]
      show Q (.bl (allB _))
      rw [allB_f]
      have : decide (lo ≤ (z.length : Int) ∧ (z.length : Int) ≤ hi) = true := decide_eq_true ⟨h, h'⟩
      rw [this, Bool.true_and] at k; exact k
    · rw [decide_eq_false h']
      (conv => whnf)
      have : decide (lo ≤ (z.length : Int) ∧ (z.length : Int) ≤ hi) = false := decide_eq_false (fun z => h' z.2)
      rw [this, Bool.false_and] at k; exact k
  · rw [decide_eq_false h]
    (conv => whnf)
    have : decide (lo ≤ (z.length : Int) ∧ (z.length : Int) ≤ hi) = false := decide_eq_false (fun z => h z.1)
    rw [this, Bool.false_and] at k; exact k
theorem L_is_step {s : Stp} {Q : PV → Prop} (k : Q (.bl true)) : w_is_step [.str s.s] Q := by
  rw [e_is_step]
  refine L_is_text_of (by cases s <;> decide +kernel) ?_
  have : (decide ((1 : Int) ≤ (s.s.length : Int) ∧ (s.s.length : Int) ≤ 1) && s.s.cps.toList.all fun c => decide (c ∈ ("bou" : Str).cps.toList)) = true := by cases s <;> decide +kernel
  rw [this]; exact k
theorem L_are_ends {e : Ens} {Q : PV → Prop} (k : Q (.bl true)) : w_are_ends [pvE e] Q := by
  rw [e_are_ends]
  (conv => whnf)
  refine ⟨rfl, rfl, ?_⟩
  (conv => whnf)
  refine ⟨few (n := 4) (by decide), ?_⟩
  exact k
local macro_rules | `(tactic| walk_at "call") => `(tactic| refine L_is_step ?_)
local macro_rules | `(tactic| walk_at "call") => `(tactic| refine L_are_ends ?_)
end Lw
namespace Lw
open PySem PySem.Spec L2 Lb Vl
local macro_rules | `(tactic| walk_at "sd") => `(tactic| first | with_reducible rfl | assumption | omega | (simp only [List.length_map, List.length_range, List.length_append, List.length_cons, List.length_nil]; omega) | rfl | (constructor <;> omega) | (simp only [List.length_map, List.length_range]; constructor <;> omega) | (refine few ?_; simp; done) | (refine few ?_; simp; omega) | (refine few ?_; omega) | (refine few1 ?_; simp; done) | (refine few1 ?_; simp; omega) | walk_at "sdx" | (simp; done) | (simp; omega))
local macro_rules | `(tactic| walk_at "sdx") => `(tactic| fail)
local macro_rules | `(tactic| walk_at "call") => `(tactic| fail)
local macro_rules | `(tactic| walk_at "go1") => `(tactic| first | walk_at "call" | refine And.intro (by walk_at "sd") ?_ | refine bift (by walk_at "sd") ?_ | refine biff (by walk_at "sd") ?_ | refine nbift (by walk_at "sd") ?_ | refine nbiff (by walk_at "sd") ?_ | with_reducible refine yfor_cons ?_ | with_reducible refine yfor_nil ?_ | with_reducible refine ylc_cons ?_ | with_reducible refine ylc_nil ?_ | rw [peq_int])
local macro_rules | `(tactic| walk_at "go") => `(tactic| ((repeat ((conv => whnf); walk_at "go1")); try (conv => whnf)))
local macro_rules | `(tactic| walk_at "call") => `(tactic| refine L_is_whole ?_)
local macro_rules | `(tactic| walk_at "call") => `(tactic| refine L_is_step ?_)
local macro_rules | `(tactic| walk_at "call") => `(tactic| refine L_are_ends ?_)
def txA (l : List Nat) : Str := ⟨l.toArray⟩
def chA (c : Nat) : PV := .str ⟨#[c]⟩
theorem few1 {n : Nat} (h : n + 1 ≤ 1000) : n < sizeLine := few h
theorem toN {n : Int} (h : 0 ≤ n) : ∃ k : Nat, n = k := Int.eq_ofNat_of_zero_le h
theorem tx_len (l : List Nat) : (txA l).length = l.length := by show (List.toArray _).size = _; simp
theorem nil_tx : Str.ofString "" = txA [] := by decide +kernel
theorem chars_tx (l : List Nat) : chars (txA l) = l.map chA := by unfold chars txA; simp; intro a _; rfl
theorem tx_app (l m : List Nat) : txA l ++ txA m = txA (l ++ m) := by
  show (⟨l.toArray ++ m.toArray⟩ : Str) = txA (l ++ m)
  unfold txA; simp
theorem tx_cut (l : List Nat) (i j : Option Int) : cutS (txA l) i j = txA ((l.drop (HT.sIx l.length 0 i)).take (HT.sIx l.length l.length j - HT.sIx l.length 0 i)) := by
  unfold cutS
  rw [tx_len]
  unfold txA
  simp
theorem pow6 : (10 : Int) ^ Int.toNat 6 = 1000000 := by decide
theorem cpow6 : CPow 10 6 := by unfold CPow; decide
theorem listOf {α β : Type} {f : α → β} {p : α → Prop} : ∀ {ys : List β}, (∀ y ∈ ys, ∃ a, y = f a ∧ p a) → ∃ l : List α, ys = l.map f ∧ ∀ a ∈ l, p a
  | [], _ => ⟨[], rfl, by simp⟩
  | y :: ys, h => by
    obtain ⟨a, e, pa⟩ := h y (by simp)
    obtain ⟨l, e2, pl⟩ := listOf (ys := ys) fun z m => h z (by simp [m])
    exact ⟨a :: l, by simp [e, e2], fun z m => (List.mem_cons.mp m).elim (fun q => q ▸ pa) (pl z)⟩
theorem tx_cps (l : List Nat) : (txA l).cps.toList = l := by simp [txA]
theorem tx_sz (l : List Nat) : (txA l).cps.size = l.length := by simp [txA]
end Lw
namespace Lw
open PySem PySem.Spec L2 Lb Vl
local macro_rules | `(tactic| walk_at "sd") => `(tactic| first | with_reducible rfl | assumption | omega | (simp only [List.length_map, List.length_range, List.length_append, List.length_cons, List.length_nil]; omega) | rfl | (constructor <;> omega) | (simp only [List.length_map, List.length_range]; constructor <;> omega) | (refine few ?_; simp; done) | (refine few ?_; simp; omega) | (refine few ?_; omega) | (refine few1 ?_; simp; done) | (refine few1 ?_; simp; omega) | walk_at "sdx" | (simp; done) | (simp; omega))
local macro_rules | `(tactic| walk_at "sdx") => `(tactic| fail)
local macro_rules | `(tactic| walk_at "call") => `(tactic| fail)
local macro_rules | `(tactic| walk_at "go1") => `(tactic| first | walk_at "call" | refine And.intro (by walk_at "sd") ?_ | refine bift (by walk_at "sd") ?_ | refine biff (by walk_at "sd") ?_ | refine nbift (by walk_at "sd") ?_ | refine nbiff (by walk_at "sd") ?_ | with_reducible refine yfor_cons ?_ | with_reducible refine yfor_nil ?_ | with_reducible refine ylc_cons ?_ | with_reducible refine ylc_nil ?_ | rw [peq_int])
local macro_rules | `(tactic| walk_at "go") => `(tactic| ((repeat ((conv => whnf); walk_at "go1")); try (conv => whnf)))
local macro_rules | `(tactic| walk_at "call") => `(tactic| refine L_is_whole ?_)
local macro_rules | `(tactic| walk_at "call") => `(tactic| refine L_is_step ?_)
local macro_rules | `(tactic| walk_at "call") => `(tactic| refine L_are_ends ?_)
theorem joinA_nil : ∀ ys : List (List Nat), TL.joinL [] ys = ys.flatten
  | [] => rfl
  | [p] => by simp [TL.joinL]
  | p :: q :: r => by
    have := joinA_nil (q :: r)
    simp only [TL.joinL, this, List.nil_append, List.flatten_cons]
def sgn (c : Nat) : Str := ⟨#[c]⟩
theorem flatA (l : List Nat) : (l.map fun c => [c]).flatten = l := by
  induction l with
  | nil => rfl
  | cons s t ih => simp only [List.map_cons, List.flatten_cons, ih]; rfl
theorem join_a (l : List Nat) : Txt.join (Str.ofString "") (l.map sgn) = txA l := by
  have h : l.map sgn = (l.map fun c => [c]).map SX.S := by rw [List.map_map]; rfl
  have e : (Str.ofString "") = SX.S [] := by decide +kernel
  rw [h, e, SX.join_S, joinA_nil, flatA]; rfl
theorem strs_a (l : List Nat) : pStrs (l.map chA) = some (l.map sgn) := by
  induction l with
  | nil => rfl
  | cons s t ih => simp only [List.map_cons, chA, pStrs]; rw [show pStrs (t.map chA) = _ from ih]; rfl
theorem lens_a (l : List Nat) : ((l.map sgn).map (·.length)).sum = l.length := by
  induction l with
  | nil => rfl
  | cons s t ih => simp only [List.map_cons, List.sum_cons, List.length_cons, ih]; show 1 + _ = _; omega
theorem atI_nat {α : Type} {l : List α} {n : Nat} (h : n < l.length) : atI l (n : Int) = some l[n] := by
  have := atI_at (f := fun x : α => x) (List.getElem?_eq_getElem h)
  rw [List.map_id'] at this
  exact this
theorem tx_sub (l : List Nat) (i j : Option Int) : ∃ m, cutS (txA l) i j = txA m ∧ m.length ≤ l.length ∧ ∀ c ∈ m, c ∈ l := by
  refine ⟨_, tx_cut l i j, ?_, fun c hc => List.mem_of_mem_drop (List.mem_of_mem_take hc)⟩
  rw [List.length_take, List.length_drop]
  omega
end Lw
namespace Lw
open PySem PySem.Spec L2 Lb Vl
local macro_rules | `(tactic| walk_at "sd") => `(tactic| first | with_reducible rfl | assumption | omega | (simp only [List.length_map, List.length_range, List.length_append, List.length_cons, List.length_nil]; omega) | rfl | (constructor <;> omega) | (simp only [List.length_map, List.length_range]; constructor <;> omega) | (refine few ?_; simp; done) | (refine few ?_; simp; omega) | (refine few ?_; omega) | (refine few1 ?_; simp; done) | (refine few1 ?_; simp; omega) | walk_at "sdx" | (simp; done) | (simp; omega))
local macro_rules | `(tactic| walk_at "sdx") => `(tactic| fail)
local macro_rules | `(tactic| walk_at "call") => `(tactic| fail)
local macro_rules | `(tactic| walk_at "go1") => `(tactic| first | walk_at "call" | refine And.intro (by walk_at "sd") ?_ | refine bift (by walk_at "sd") ?_ | refine biff (by walk_at "sd") ?_ | refine nbift (by walk_at "sd") ?_ | refine nbiff (by walk_at "sd") ?_ | with_reducible refine yfor_cons ?_ | with_reducible refine yfor_nil ?_ | with_reducible refine ylc_cons ?_ | with_reducible refine ylc_nil ?_ | rw [peq_int])
local macro_rules | `(tactic| walk_at "go") => `(tactic| ((repeat ((conv => whnf); walk_at "go1")); try (conv => whnf)))
local macro_rules | `(tactic| walk_at "call") => `(tactic| refine L_is_whole ?_)
local macro_rules | `(tactic| walk_at "call") => `(tactic| refine L_is_step ?_)
local macro_rules | `(tactic| walk_at "call") => `(tactic| refine L_are_ends ?_)
def asc (l : List Nat) : Prop := ∀ c ∈ l, c < 128
theorem datA {l : List Nat} (h : asc l) (n : Nat) : dat n (.str (txA l)) = true := by
  have : (txA l).cps.all (· < 0x110000) = true := by
    unfold txA
    simp only [List.all_toArray, List.all_eq_true]
    exact fun c m => decide_eq_true (by have := h c m; omega)
  cases n <;> exact this
theorem smpA {l : List Nat} (h : asc l) : smp (.str (txA l)) = true := datA h 8
/-- what stands in a tuple or a list of truths -/
inductive El : PV → Prop
  | non : El .non
  | bl (b : Bool) : El (.bl b)
  | int (i : Int) (h : i = 0 ∨ i = 1) : El (.int i)
  | tx (l : List Nat) (h : l.length ≤ 5) (a : asc l) : El (.str (txA l))
  | tup : El (.tup [])
def isBl : PV → Bool
  | .bl _ => true
  | _ => false
theorem El.im {y : PV} (h : El y) : imm y = true := by cases h <;> rfl
theorem El.dt {y : PV} (h : El y) : dat 7 y = true := by
  cases h with
  | tx l _ a => exact datA a 7
  | _ => rfl
theorem El.sm {y : PV} (h : El y) : smp y = true := by
  cases h with
  | tx l _ a => exact smpA a
  | int i h => rcases h with rfl | rfl <;> rfl
  | _ => rfl
theorem El.bk {y : PV} (h : El y) : Vl.blk y ≤ 5 := by
  cases h with
  | tx l h a => show (txA l).cps.size ≤ 5; rw [tx_sz]; exact h
  | _ => exact Nat.zero_le _
theorem El.ty {y : PV} (h : El y) : isK .bool y = some (isBl y) := by cases h <;> rfl
theorem els_dt : ∀ {xs : List PV}, (∀ y ∈ xs, El y) → dats 7 xs = true
  | [], _ => rfl
  | x :: xs, h => by simp only [dats, Bool.and_eq_true]; exact ⟨(h x (by simp)).dt, els_dt fun y m => h y (by simp [m])⟩
theorem els_sm : ∀ {xs : List PV}, (∀ y ∈ xs, El y) → smps xs = true
  | [], _ => rfl
  | x :: xs, h => by simp only [smps, Bool.and_eq_true]; exact ⟨(h x (by simp)).sm, els_sm fun y m => h y (by simp [m])⟩
theorem els_bk : ∀ {xs : List PV}, (∀ y ∈ xs, El y) → blks xs ≤ 6 * xs.length
  | [], _ => Nat.le_refl _
  | x :: xs, h => by
    have h1 := (h x (by simp)).bk
    have h2 := els_bk (xs := xs) fun y m => h y (by simp [m])
    simp only [blks, List.length_cons]; omega
def aKv : List (Key × PV) := [(.inr (Str.ofString "a"), .int 1)]
inductive Th : PV → Prop
  | non : Th .non
  | bl (b : Bool) : Th (.bl b)
  | int (i : Int) (h : i.natAbs < 10 ^ 50) : Th (.int i)
  | tx (l : List Nat) (h : l.length ≤ 300) (a : asc l) : Th (.str (txA l))
  | lst (xs : List PV) (n : xs.length ≤ 9) (h : ∀ y ∈ xs, El y) : Th (.lst xs)
  | lln : Th (.lst [.lst []])
  | tup (xs : List PV) (n : xs.length ≤ 9) (h : ∀ y ∈ xs, El y) : Th (.tup xs)
  | dk0 : Th (.dK [])
  | dk1 : Th (.dK aKv)
theorem Th.shD {x : PV} (h : Th x) : shwD x := by
  cases h with
  | non => exact .inl (shw_bulk rfl rfl (by decide))
  | bl b => exact .inl (shw_bulk rfl rfl (Nat.zero_le _))
  | int i h =>
    have h1 : i.natAbs.log2 < 1920 := by
      by_cases z : i.natAbs = 0
      · rw [z]; decide
      · have := (Nat.log2_lt z (k := 1920)).mpr (Nat.lt_of_lt_of_le h (by decide +kernel))
        exact this
    refine .inl ⟨rfl, ?_, rfl, ?_, ?_, fun j e => ?_⟩
    · show decide _ = true
      exact decide_eq_true h1
    · simp [toD, PyData.depth]
    · have e := int_text_length_le10 (k := 50) (by decide) h
      show (Str.ofString (toString i)).length ≤ sizeLine
      rw [ofString_length]
      have := few (n := 51) (by decide)
      omega
    · have e := PyData.int.inj e
      rw [← e]; exact h1
  | tx l h a =>
    refine .inl (shw_bulk (datA a 8) (smpA a) ?_)
    show (txA l).cps.size ≤ 700000
    rw [tx_sz]; omega
  | lst xs n h =>
    refine .inl (shw_bulk ?_ ?_ ?_)
    · simp only [dat]; exact els_dt h
    · simp only [smp]; exact els_sm h
    · have := els_bk h
      simp only [Vl.blk]; omega
  | lln => exact .inl (shw_bulk rfl rfl (by decide))
  | tup xs n h =>
    refine .inl (shw_bulk ?_ ?_ ?_)
    · simp only [dat]; exact els_dt h
    · simp only [smp]; exact els_sm h
    · have := els_bk h
      simp only [Vl.blk]; omega
  | dk0 => exact .inr ⟨[], rfl, rfl, rfl, by decide +kernel, by rw [sizeLine_eq]; decide +kernel⟩
  | dk1 => exact .inr ⟨aKv, rfl, rfl, rfl, by decide +kernel, by rw [sizeLine_eq]; decide +kernel⟩
def qW : PV → Bool
  | .int _ => true
  | _ => false
def qB (lo hi : Int) : PV → Bool
  | .int i => decide (lo ≤ i ∧ i ≤ hi)
  | _ => false
def qT (sg : Str) (lo hi : Int) : PV → Bool
  | .str z => decide (lo ≤ (z.length : Int) ∧ (z.length : Int) ≤ hi) && z.cps.toList.all fun c => decide (c ∈ sg.cps.toList)
  | _ => false
def qS : PV → Bool
  | .str z => decide (z = Str.ofString "over") || decide (z = Str.ofString "under")
  | _ => false
def qE : PV → Bool
  | .tup xs => decide (xs.length = 4) && xs.all isBl
  | _ => false
theorem T_whole {x : PV} (h : Th x) {Q : PV → Prop} (k : Q (.bl (qW x))) : w_is_whole [x] Q := by
  rw [e_is_whole]
  cases h <;> exact k
theorem T_between {x : PV} (h : Th x) {lo hi : Int} {Q : PV → Prop} (k : Q (.bl (qB lo hi x))) : w_is_between [x, .int lo, .int hi] Q := by
  cases h with
  | int i h => exact L_is_between k
  | _ =>
    rw [e_is_between]
    (conv => whnf)
    refine T_whole (by first | (constructor <;> assumption) | exact .lln) ?_
    (conv => whnf)
    exact k
theorem T_text {x : PV} (h : Th x) {sg : Str} {lo hi : Int} {Q : PV → Prop} (k : Q (.bl (qT sg lo hi x))) : w_is_text_of [x, .str sg, .int lo, .int hi] Q := by
  cases h with
  | tx l h a => exact L_is_text_of (by rw [tx_len]; omega) k
  | _ => rw [e_is_text_of]; exact k
theorem T_worth {x : PV} (h : Th x) {Q : PV → Prop} (k : Q (.bl (qB (-1000000) 1000000 x))) : w_is_worth [x] Q := by rw [e_is_worth]; exact T_between h k
theorem T_price {x : PV} (h : Th x) {Q : PV → Prop} (k : Q (.bl (qB 0 1000000 x))) : w_is_price [x] Q := by rw [e_is_price]; exact T_between h k
theorem T_gworth {x : PV} (h : Th x) {Q : PV → Prop} (k : Q (.bl (qB (-1000000000000) 1000000000000 x))) : w_is_great_worth [x] Q := by rw [e_is_great_worth]; exact T_between h k
theorem T_gprice {x : PV} (h : Th x) {Q : PV → Prop} (k : Q (.bl (qB 0 1000000000000 x))) : w_is_great_price [x] Q := by rw [e_is_great_price]; exact T_between h k
theorem T_letter {x : PV} (h : Th x) {Q : PV → Prop} (k : Q (.bl (qT (Str.ofString "abcdefghijklmnopqrstuvwxyz") 1 1 x))) : w_is_letter [x] Q := by rw [e_is_letter]; exact T_text h k
theorem T_row {x : PV} (h : Th x) {Q : PV → Prop} (k : Q (.bl (qT (Str.ofString "abcdefghijklmnopqrstuvwxyz") 0 40 x))) : w_is_row [x] Q := by rw [e_is_row]; exact T_text h k
theorem T_name {x : PV} (h : Th x) {Q : PV → Prop} (k : Q (.bl (qT (Str.ofString "abcdefghijklmnopqrstuvwxyz") 1 8 x))) : w_is_name [x] Q := by rw [e_is_name]; exact T_text h k
theorem T_step {x : PV} (h : Th x) {Q : PV → Prop} (k : Q (.bl (qT (Str.ofString "bou") 1 1 x))) : w_is_step [x] Q := by rw [e_is_step]; exact T_text h k
theorem T_path {x : PV} (h : Th x) {Q : PV → Prop} (k : Q (.bl (qT (Str.ofString "bou") 0 120 x))) : w_is_path [x] Q := by rw [e_is_path]; exact T_text h k
theorem T_gapped {x : PV} (h : Th x) {Q : PV → Prop} (k : Q (.bl (qT (Str.ofString "abcdefghijklmnopqrstuvwxyz" ++ Str.ofString "-") 0 120 x))) : w_is_gapped [x] Q := by
  rw [e_is_gapped]
  (conv => whnf)
  refine ⟨few (n := 27) (by decide), ?_⟩
  (conv => whnf)
  exact T_text h k
theorem beq_str (a b : Str) : (a == b) = decide (b = a) := by
  rw [Bool.eq_iff_iff, beq_iff_eq, decide_eq_true_iff]
  exact eq_comm
theorem map_self {α : Type} (l : List α) : l.map (fun y => y) = l := by simp
theorem T_side {x : PV} (h : Th x) {Q : PV → Prop} (k : Q (.bl (qS x))) : w_is_side [x] Q := by
  rw [e_is_side]
  cases h with
  | tx l h a =>
    (conv => whnf)
    refine ⟨rfl, rfl, ?_⟩
    have e : ([PV.str (Str.ofString "over"), PV.str (Str.ofString "under")].any fun y => feq y (.str (txA l))) = qS (.str (txA l)) := by
      simp only [List.any_cons, List.any_nil, Bool.or_false, feq, qS]
      rw [beq_str, beq_str]
    rw [← e] at k
    exact k
  | _ => exact k
theorem T_ends {x : PV} (h : Th x) {Q : PV → Prop} (k : Q (.bl (qE x))) : w_are_ends [x] Q := by
  rw [e_are_ends]
  cases h with
  | tup xs n h =>
    (conv => whnf)
    refine ⟨rfl, rfl, ?_⟩
    rw [peq_int]
    by_cases h4 : xs.length = 4
    · rw [decide_eq_true (show (xs.length : Int) = 4 by omega)]
      (conv => whnf)
      refine ⟨few (by omega), ?_⟩
      have e2 : pBools (xs.map fun y => PV.bl (isBl y)) = some (xs.map isBl) := bools_f xs
      rw [← map_self xs]
      refine lcM (f := fun y => .bl (isBl y)) (fun y m Q k => ?_) ?_
      · (conv => whnf)
        rw [(h y m).ty]
        exact k
      · (conv => whnf)
        rw [e2]
        (conv => whnf)
        rw [allB_f]
        have : qE (.tup xs) = xs.all isBl := by simp [qE, h4]
        rw [this] at k
        exact k
    · rw [decide_eq_false (show ¬ (xs.length : Int) = 4 by omega)]
      (conv => whnf)
      have : qE (.tup xs) = false := by simp [qE, h4]
      rw [this] at k
      exact k
  | _ => exact k
end Lw
namespace Lw
open PySem PySem.Spec L2 Lb Vl
local macro_rules | `(tactic| walk_at "sd") => `(tactic| first | with_reducible rfl | assumption | omega | (simp only [List.length_map, List.length_range, List.length_append, List.length_cons, List.length_nil]; omega) | rfl | (constructor <;> omega) | (simp only [List.length_map, List.length_range]; constructor <;> omega) | (refine few ?_; simp; done) | (refine few ?_; simp; omega) | (refine few ?_; omega) | (refine few1 ?_; simp; done) | (refine few1 ?_; simp; omega) | walk_at "sdx" | (simp; done) | (simp; omega))
local macro_rules | `(tactic| walk_at "sdx") => `(tactic| fail)
local macro_rules | `(tactic| walk_at "call") => `(tactic| fail)
local macro_rules | `(tactic| walk_at "go1") => `(tactic| first | walk_at "call" | refine And.intro (by walk_at "sd") ?_ | refine bift (by walk_at "sd") ?_ | refine biff (by walk_at "sd") ?_ | refine nbift (by walk_at "sd") ?_ | refine nbiff (by walk_at "sd") ?_ | with_reducible refine yfor_cons ?_ | with_reducible refine yfor_nil ?_ | with_reducible refine ylc_cons ?_ | with_reducible refine ylc_nil ?_ | rw [peq_int])
local macro_rules | `(tactic| walk_at "go") => `(tactic| ((repeat ((conv => whnf); walk_at "go1")); try (conv => whnf)))
local macro_rules | `(tactic| walk_at "call") => `(tactic| refine L_is_whole ?_)
local macro_rules | `(tactic| walk_at "call") => `(tactic| refine L_is_step ?_)
local macro_rules | `(tactic| walk_at "call") => `(tactic| refine L_are_ends ?_)
theorem pow12 : (10 : Int) ^ Int.toNat 12 = 1000000000000 := by decide
theorem pow40 : (10 : Int) ^ Int.toNat 40 = 10000000000000000000000000000000000000000 := by decide
theorem cpow12 : CPow 10 12 := by unfold CPow; decide
theorem cpow40 : CPow 10 40 := by unfold CPow; decide
def sA (s : String) : List Nat := (Str.ofString s).cps.toList
theorem ixN_at {n k : Nat} (h : k < n) : ixN n (k : Int) = some k := by
  unfold ixN
  rw [if_pos (by omega), if_pos (by omega)]; simp
theorem str_sA (s : String) : Str.ofString s = txA (sA s) := by unfold txA sA; simp
theorem pickS {ss : List String} {a b : Nat} {w : Int} (h : ∀ s ∈ ss, a ≤ (sA s).length ∧ (sA s).length ≤ b ∧ ∀ c ∈ sA s, c < 128) (w1 : 0 ≤ w) (w2 : w < (ss.length : Nat)) : ∃ P : List Nat, a ≤ P.length ∧ P.length ≤ b ∧ asc P ∧ atI (ss.map fun s => PV.str (Str.ofString s)) w = some (.str (txA P)) := by
  obtain ⟨n, rfl⟩ := toN w1
  have hn : n < ss.length := by omega
  obtain ⟨h1, h2, h3⟩ := h _ (List.getElem_mem hn)
  refine ⟨_, h1, h2, h3, ?_⟩
  rw [atI_at (f := fun s => PV.str (Str.ofString s)) (List.getElem?_eq_getElem hn), str_sA]
theorem peq_st (a b : Str) : peq (.str a) (.str b) = decide (a = b) := by
  simp only [peq, toD, PyData.eqv]
  rw [Bool.eq_iff_iff, beq_iff_eq, decide_eq_true_iff]
theorem dats_asc : ∀ l : List Nat, asc l → dats 7 (l.map chA) = true
  | [], _ => rfl
  | c :: l, h => by
    have h1 : dat 7 (chA c) = true := datA (l := [c]) (fun x m => by rw [List.mem_singleton.mp m]; exact h c (by simp)) 7
    simp only [List.map_cons, dats, h1, Bool.true_and]
    exact dats_asc l fun x m => h x (by simp [m])
theorem dues11 (l r : List Nat) : (r.filter fun c => decide (¬ c ∈ l)).isEmpty = r.all fun c => decide (c ∈ l) := by
  induction r with
  | nil => rfl
  | cons c t ih =>
    by_cases hc : c ∈ l
    · rw [List.filter_cons_of_neg (by simp [hc]), ih, List.all_cons, decide_eq_true hc, Bool.true_and]
    · rw [List.filter_cons_of_pos (by simp [hc]), List.all_cons, decide_eq_false hc]; rfl
theorem L_law_is_number {x : PV} (h : Th x) {lo hi : Int} {Q : PV → Prop} (k : Q (.bl (qB lo hi x))) : w_law_is_number [x, .int lo, .int hi] Q := by
  rw [e_law_is_number]
  cases h with
  | int i h =>
    have k : Q (.bl (decide (lo ≤ i ∧ i ≤ hi))) := k
    (conv => whnf)
    refine if2 (fun h => ?_) fun h => ?_
    · have : decide (lo ≤ i ∧ i ≤ hi) = decide (i ≤ hi) := by simp [h]
      rw [this] at k; exact k
    · have : decide (lo ≤ i ∧ i ≤ hi) = false := by simp [h]
      rw [this] at k; exact k
  | _ => exact k
theorem L_law_is_text {x : PV} (h : Th x) {sg : Str} {lo hi : Int} {Q : PV → Prop} (k : Q (.bl (qT sg lo hi x))) : w_law_is_text [x, .str sg, .int lo, .int hi] Q := by
  rw [e_law_is_text]
  cases h with
  | tx l hl a =>
    have k : Q (.bl (decide (lo ≤ ((l.length : Nat) : Int) ∧ ((l.length : Nat) : Int) ≤ hi) && l.all fun c => decide (c ∈ sg.cps.toList))) := by
      simp only [qT, tx_len, tx_cps] at k; exact k
    (conv => whnf)
    refine ⟨by rw [tx_len]; exact few (by omega), ?_⟩
    rw [tx_len]
    (conv => whnf)
    by_cases h1 : (l.length : Int) < lo
    · rw [decide_eq_true h1]
      (conv => whnf)
      rw [decide_eq_false (fun z => by omega), Bool.false_and] at k
      exact k
    · rw [decide_eq_false h1]
      (conv => whnf)
      refine ⟨by rw [tx_len]; exact few (by omega), ?_⟩
      rw [tx_len]
      (conv => whnf)
      by_cases h2 : (l.length : Int) > hi
      · rw [decide_eq_true h2]
        (conv => whnf)
        rw [decide_eq_false (fun z => by omega), Bool.false_and] at k
        exact k
      · rw [decide_eq_false h2]
        (conv => whnf)
        rw [chars_tx]
        refine ⟨by rw [List.length_map]; exact few (by omega), ?_⟩
        (conv => whnf)
        refine ylcF (h := chA) (f := chA) (c := fun c => decide (¬ c ∈ sg.cps.toList)) (fun c m Q Q' k1 k2 => ?_) ?_
        · (conv => whnf)
          refine ⟨rfl, ?_⟩
          rw [if_pos rfl]
          show bfi (!decide (c ∈ sg.cps.toList)) _ _
          by_cases hx : c ∈ sg.cps.toList
          · rw [decide_eq_true hx]
            exact k2 (decide_eq_false (fun z => z hx))
          · rw [decide_eq_false hx]
            exact k1 (decide_eq_true hx)
        (conv => whnf)
        refine ⟨by simp only [dat]; exact dats_asc _ fun c hc => a c (List.mem_filter.mp hc).1, by decide +kernel, ?_⟩
        rw [peq_nil, dues11]
        rw [decide_eq_true ⟨by omega, by omega⟩, Bool.true_and] at k
        exact k
  | _ => exact k
def LL : Str := Str.ofString "abcdefghijklmnopqrstuvwxyz"
def q13 (x : PV) : List PV := [.bl (qW x), .bl (qB (-1000000) 1000000 x), .bl (qB 0 1000000 x), .bl (qB (-1000000000000) 1000000000000 x), .bl (qB 0 1000000000000 x), .bl (qT LL 1 1 x), .bl (qT LL 0 40 x), .bl (qT LL 1 8 x), .bl (qT (Str.ofString "bou") 1 1 x), .bl (qT (Str.ofString "bou") 0 120 x), .bl (qT (LL ++ Str.ofString "-") 0 120 x), .bl (qS x), .bl (qE x)]
theorem L_law_told {x : PV} (h : Th x) {Q : PV → Prop} (k : Q (.lst (q13 x))) : w_law_told [x] Q := by
  rw [e_law_told]
  (conv => whnf)
  refine T_whole h ?_
  (conv => whnf)
  refine T_worth h ?_
  (conv => whnf)
  refine T_price h ?_
  (conv => whnf)
  refine T_gworth h ?_
  (conv => whnf)
  refine T_gprice h ?_
  (conv => whnf)
  refine T_letter h ?_
  (conv => whnf)
  refine T_row h ?_
  (conv => whnf)
  refine T_name h ?_
  (conv => whnf)
  refine T_step h ?_
  (conv => whnf)
  refine T_path h ?_
  (conv => whnf)
  refine ⟨few (by simp), ?_⟩
  (conv => whnf)
  refine T_gapped h ?_
  (conv => whnf)
  refine T_side h ?_
  (conv => whnf)
  refine T_ends h ?_
  (conv => whnf)
  refine ⟨few (by simp), ?_⟩
  exact k
theorem L_law_dues {x : PV} (h : Th x) {Q : PV → Prop} (k : Q (.lst (q13 x))) : w_law_dues [x] Q := by
  rw [e_law_dues]
  have hx := h
  cases h
  all_goals
    (conv => whnf)
    refine ⟨cpow6, ?_⟩
    rw [pow6]
    (conv => whnf)
    refine ⟨cpow6, ?_⟩
    rw [pow6]
    (conv => whnf)
    refine L_law_is_number hx ?_
    (conv => whnf)
    refine ⟨cpow6, ?_⟩
    rw [pow6]
    (conv => whnf)
    refine L_law_is_number hx ?_
    (conv => whnf)
    refine ⟨cpow12, ?_⟩
    rw [pow12]
    (conv => whnf)
    refine ⟨cpow12, ?_⟩
    rw [pow12]
    (conv => whnf)
    refine L_law_is_number hx ?_
    (conv => whnf)
    refine ⟨cpow12, ?_⟩
    rw [pow12]
    (conv => whnf)
    refine L_law_is_number hx ?_
    (conv => whnf)
    refine ⟨few (by simp), ?_⟩
    (conv => whnf)
    refine L_law_is_text hx ?_
    (conv => whnf)
    refine L_law_is_text hx ?_
    (conv => whnf)
    refine ⟨few (by simp), ?_⟩
    (conv => whnf)
    refine L_law_is_text hx ?_
    (conv => whnf)
    refine L_law_is_text hx ?_
    (conv => whnf)
    refine ⟨few (by simp), ?_⟩
    (conv => whnf)
    refine L_law_is_text hx ?_
    (conv => whnf)
    refine ⟨few (n := 27) (by decide), ?_⟩
    (conv => whnf)
    refine L_law_is_text hx ?_
    (conv => whnf)
    refine ⟨few (by simp), ?_⟩
    (conv => whnf)
  case tx l hl a =>
    refine ⟨datA a 8, by decide +kernel, ?_⟩
    have e : qS (.str (txA l)) = (peq (.str (txA l)) (.str (Str.ofString "over")) || peq (.str (txA l)) (.str (Str.ofString "under"))) := by rw [peq_st, peq_st]; rfl
    unfold q13 at k
    rw [e] at k
    cases h1 : peq (.str (txA l)) (.str (Str.ofString "over")) with
    | true =>
      rw [h1, Bool.true_or] at k
      (conv => whnf)
      refine ⟨few (by simp), ?_⟩
      (conv => whnf)
      refine ⟨few (by simp), ?_⟩
      exact k
    | false =>
      rw [h1, Bool.false_or] at k
      (conv => whnf)
      refine ⟨datA a 8, by decide +kernel, ?_⟩
      (conv => whnf)
      refine ⟨few (by simp), ?_⟩
      (conv => whnf)
      refine ⟨few (by simp), ?_⟩
      exact k
  case tup xs n hxs =>
    refine ⟨few (by simp), ?_⟩
    (conv => whnf)
    refine ⟨rfl, rfl, ?_⟩
    rw [peq_int]
    by_cases h4 : xs.length = 4
    · rw [decide_eq_true (show (xs.length : Int) = 4 by omega)]
      (conv => whnf)
      refine ⟨few (by omega), ?_⟩
      rw [← map_self xs]
      refine ylcF (h := fun y => y) (f := fun y => y) (c := fun y => !isBl y) (fun y m Q Q' k1 k2 => ?_) ?_
      · (conv => whnf)
        rw [(hxs y m).ty]
        (conv => whnf)
        cases hb : isBl y with
        | true => exact k2 (by simp [hb])
        | false => exact ⟨(hxs y m).im, k1 (by simp [hb])⟩
      (conv => whnf)
      rw [map_self xs]
      refine ⟨by rw [map_self]; simp only [dat]; exact els_dt fun y m => hxs y (List.mem_filter.mp m).1, by decide +kernel, ?_⟩
      rw [peq_nil]
      (conv => whnf)
      refine ⟨few (by simp), ?_⟩
      have e : qE (.tup xs) = (xs.filter fun y => !isBl y).isEmpty := by
        simp only [qE, h4, decide_true, Bool.true_and]
        clear hxs hx h4 n k
        induction xs with
        | nil => rfl
        | cons y t ih => cases hb : isBl y <;> simp [hb, ih]
      simp only [q13, e] at k
      exact k
    · rw [decide_eq_false (show ¬ (xs.length : Int) = 4 by omega)]
      (conv => whnf)
      refine ⟨few (by simp), ?_⟩
      have e : qE (.tup xs) = false := by simp [qE, h4]
      simp only [q13, e] at k
      exact k
  all_goals
    refine ⟨few (by simp), ?_⟩
    (conv => whnf)
    refine ⟨few (by simp), ?_⟩
    exact k
theorem L11_number {Q : PV → Prop} (k : ∀ i : Int, i.natAbs < 10 ^ 50 → Q (.int i)) : w_law_number [.bag] Q := by
  rw [e_law_number]
  (conv => whnf)
  refine ⟨cpow6, ?_⟩
  rw [pow6]
  (conv => whnf)
  refine ⟨cpow12, ?_⟩
  rw [pow12]
  (conv => whnf)
  refine ⟨cpow40, ?_⟩
  rw [pow40]
  (conv => whnf)
  refine ⟨cpow6, ?_⟩
  rw [pow6]
  (conv => whnf)
  refine ⟨cpow12, ?_⟩
  rw [pow12]
  (conv => whnf)
  refine ⟨⟨by omega, by omega⟩, ?_⟩
  intro w w1 w2
  (conv => whnf)
  obtain ⟨b, hb1, hb2, he⟩ : ∃ b : Int, 0 ≤ b ∧ b ≤ 10000000000000000000000000000000000000000 ∧ atI [PV.int 0, PV.int 1, PV.int 40, PV.int 1000000, PV.int 1000000000000, PV.int 10000000000000000000000000000000000000000, PV.int 1000000, PV.int 1000000000000] w = some (.int b) := by
    have : w = 0 ∨ w = 1 ∨ w = 2 ∨ w = 3 ∨ w = 4 ∨ w = 5 ∨ w = 6 ∨ w = 7 := by omega
    rcases this with rfl | rfl | rfl | rfl | rfl | rfl | rfl | rfl
    · exact ⟨0, by omega, by omega, rfl⟩
    · exact ⟨1, by omega, by omega, rfl⟩
    · exact ⟨40, by omega, by omega, rfl⟩
    · exact ⟨1000000, by omega, by omega, rfl⟩
    · exact ⟨1000000000000, by omega, by omega, rfl⟩
    · exact ⟨10000000000000000000000000000000000000000, by omega, by omega, rfl⟩
    · exact ⟨1000000, by omega, by omega, rfl⟩
    · exact ⟨1000000000000, by omega, by omega, rfl⟩
  rw [he]
  (conv => whnf)
  refine ⟨⟨by omega, by omega⟩, ?_⟩
  intro v v1 v2
  (conv => whnf)
  refine ⟨⟨by omega, by omega⟩, ?_⟩
  intro u u1 u2
  have e50 : (10 : Nat) ^ 50 = 100000000000000000000000000000000000000000000000000 := by decide
  have : u = 0 ∨ u = 1 := by omega
  rcases this with rfl | rfl
  · exact k _ (by rw [e50]; omega)
  · exact k _ (by rw [e50]; omega)
theorem L11_words {Q : PV → Prop} (k : ∀ l : List Nat, l.length ≤ 300 → asc l → Q (.str (txA l))) : w_law_words [.bag] Q := by
  rw [e_law_words]
  (conv => whnf)
  refine ⟨⟨by omega, by omega⟩, ?_⟩
  intro u u1 u2
  obtain ⟨P, hP1, hP2, hP3, hPe⟩ := pickS (ss := ["abcdefghijklmnopqrstuvwxyz", "bou", "abcdefghijklmnopqrstuvwxyz-", "o", "-"]) (a := 1) (b := 27) (by decide +kernel) u1 u2
  simp only [List.map_cons, List.map_nil] at hPe
  (conv => whnf)
  rw [hPe]
  (conv => whnf)
  refine ⟨⟨by omega, by omega⟩, ?_⟩
  intro w w1 w2
  obtain ⟨n, hn, he⟩ : ∃ n : Nat, n ≤ 121 ∧ atI [PV.int 0, PV.int 1, PV.int 2, PV.int 7, PV.int 8, PV.int 9, PV.int 39, PV.int 40, PV.int 41, PV.int 60, PV.int 119, PV.int 120, PV.int 121, PV.int 3] w = some (.int n) := by
    have : w = 0 ∨ w = 1 ∨ w = 2 ∨ w = 3 ∨ w = 4 ∨ w = 5 ∨ w = 6 ∨ w = 7 ∨ w = 8 ∨ w = 9 ∨ w = 10 ∨ w = 11 ∨ w = 12 ∨ w = 13 := by omega
    rcases this with rfl | rfl | rfl | rfl | rfl | rfl | rfl | rfl | rfl | rfl | rfl | rfl | rfl | rfl
    · exact ⟨0, by omega, rfl⟩
    · exact ⟨1, by omega, rfl⟩
    · exact ⟨2, by omega, rfl⟩
    · exact ⟨7, by omega, rfl⟩
    · exact ⟨8, by omega, rfl⟩
    · exact ⟨9, by omega, rfl⟩
    · exact ⟨39, by omega, rfl⟩
    · exact ⟨40, by omega, rfl⟩
    · exact ⟨41, by omega, rfl⟩
    · exact ⟨60, by omega, rfl⟩
    · exact ⟨119, by omega, rfl⟩
    · exact ⟨120, by omega, rfl⟩
    · exact ⟨121, by omega, rfl⟩
    · exact ⟨3, by omega, rfl⟩
  (conv => whnf)
  rw [he]
  (conv => whnf)
  refine ⟨⟨by omega, by omega⟩, ?_⟩
  intro z z1 z2
  (conv => whnf)
  refine ⟨⟨by omega, by omega⟩, ?_⟩
  rw [show ((n : Int)).toNat = n by omega]
  unfold Vl.upTo
  refine ⟨by rw [List.length_map, List.length_range, sizeLine_eq]; omega, ?_⟩
  (conv => whnf)
  refine ylcD (P := fun y => ∃ c : Nat, y = chA c ∧ c < 128) (fun a ma Q k => ?_) fun ys hl hp => ?_
  · have ha : a < n := List.mem_range.mp ma
    (conv => whnf)
    refine ⟨.inl ⟨by omega, by omega⟩, ?_⟩
    (conv => whnf)
    refine ⟨.inl ⟨by omega, by omega⟩, ?_⟩
    (conv => whnf)
    refine ⟨by rw [tx_len]; exact few (by omega), ?_⟩
    rw [tx_len]
    (conv => whnf)
    generalize hN : z + 7 * (0 + (a : Int)) + (0 + (a : Int)) * (0 + (a : Int)) = N
    have h1 := Int.emod_nonneg N (b := (P.length : Int)) (by omega)
    have h2 := Int.emod_lt_of_pos N (b := (P.length : Int)) (by omega)
    refine ⟨by omega, ?_⟩
    obtain ⟨x, hx⟩ := toN h1
    rw [hx]
    have hx : x < P.length := by omega
    (conv => whnf)
    refine ⟨by rw [tx_len]; exact few (by omega), ?_⟩
    rw [tx_cps, atI_nat hx]
    (conv => whnf)
    exact k _ ⟨_, rfl, hP3 _ (List.getElem_mem hx)⟩
  obtain ⟨cs, rfl, hcs⟩ := listOf hp
  have hcl : cs.length ≤ 121 := by
    rw [List.length_map, List.length_range] at hl
    omega
  (conv => whnf)
  rw [strs_a]
  (conv => whnf)
  refine ⟨by rw [lens_a, show (Str.ofString "").length = 0 by decide +kernel, List.length_map, Nat.mul_zero]; omega, ?_⟩
  rw [join_a]
  (conv => whnf)
  refine j_by (fun γ => ∃ (l : List Nat) (b5 b6 : Option PV), l.length ≤ 300 ∧ asc l ∧ γ = [some .bag, some (.str (txA P)), some (.int n), some (.int z), some (.str (txA l)), b5, b6, none]) ?_ ?_
  · intro K hK
    (conv => whnf)
    refine ⟨⟨by omega, by omega⟩, ?_⟩
    intro q q1 q2
    (conv => whnf)
    refine ⟨rfl, rfl, ?_⟩
    rw [peq_int]
    refine bif2 (fun _ => ?_) fun _ => hK _ ⟨cs, _, _, by omega, hcs, rfl⟩
    (conv => whnf)
    refine ⟨⟨by omega, by omega⟩, ?_⟩
    intro at_ t1 t2
    (conv => whnf)
    refine ⟨⟨by omega, by omega⟩, ?_⟩
    intro o o1 o2
    obtain ⟨O, hO1, hO2, hO3, hOe⟩ := pickS (ss := ["A", "1", " ", "-", "_", "~", "\n", "B", "0", "{", "`"]) (a := 1) (b := 1) (by decide +kernel) o1 o2
    simp only [List.map_cons, List.map_nil] at hOe
    (conv => whnf)
    rw [hOe]
    (conv => whnf)
    refine ⟨by rw [tx_len]; exact few (by omega), ?_⟩
    obtain ⟨s1, e1, s2, s3⟩ := tx_sub cs none (some at_)
    rw [e1]
    (conv => whnf)
    refine ⟨few (by rw [tx_len, tx_len]; omega), ?_⟩
    rw [tx_app]
    (conv => whnf)
    refine ⟨⟨by omega, by omega⟩, ?_⟩
    intro y y1 y2
    (conv => whnf)
    refine ⟨by rw [tx_len]; exact few (by omega), ?_⟩
    obtain ⟨s4, e4, s5, s6⟩ := tx_sub cs (some (at_ + y)) none
    rw [e4]
    (conv => whnf)
    refine ⟨few (by rw [tx_len, tx_len]; simp; omega), ?_⟩
    rw [tx_app]
    refine hK _ ⟨_, _, _, ?_, ?_, rfl⟩
    · simp; omega
    · intro c hc
      rcases List.mem_append.mp hc with hc | hc
      · rcases List.mem_append.mp hc with hc | hc
        · exact hcs c (s3 c hc)
        · exact hO3 c hc
      · exact hcs c (s6 c hc)
  · rintro γ ⟨l, b5, b6, l1, l2, rfl⟩
    (conv => whnf)
    exact k l l1 l2
theorem L11_truths {Q : PV → Prop} (k : ∀ x, Th x → Q x) : w_law_truths [.bag] Q := by
  rw [e_law_truths]
  (conv => whnf)
  refine ⟨⟨by omega, by omega⟩, ?_⟩
  intro u u1 u2
  obtain ⟨u, rfl⟩ := toN u1
  (conv => whnf)
  refine ⟨⟨by omega, by omega⟩, ?_⟩
  rw [show ((3 : Int) + (u : Int)).toNat = u + 3 by omega]
  unfold Vl.upTo
  refine ⟨by rw [List.length_map, List.length_range, sizeLine_eq]; omega, ?_⟩
  (conv => whnf)
  refine ylcD (P := fun y => ∃ b : Bool, y = .bl b) (fun a ma Q k => ?_) fun ys hl hp => ?_
  · (conv => whnf)
    refine ⟨⟨by omega, by omega⟩, ?_⟩
    intro q q1 q2
    (conv => whnf)
    refine ⟨rfl, rfl, ?_⟩
    exact k _ ⟨_, rfl⟩
  have hp : ∀ y ∈ ys, El y := fun y m => by obtain ⟨b, rfl⟩ := hp y m; exact .bl b
  have hl : ys.length = u + 3 := by simpa using hl
  (conv => whnf)
  refine j_by (fun γ => ∃ ys : List PV, (∀ y ∈ ys, El y) ∧ ys.length = u + 3 ∧ γ = [some .bag, some (.lst ys), none]) ?_ ?_
  · intro K hK
    (conv => whnf)
    refine ⟨⟨by omega, by omega⟩, ?_⟩
    intro q q1 q2
    (conv => whnf)
    refine ⟨rfl, rfl, ?_⟩
    rw [peq_int]
    refine bif2 (fun _ => ?_) fun _ => hK _ ⟨ys, hp, hl, rfl⟩
    (conv => whnf)
    refine ⟨⟨by omega, by omega⟩, ?_⟩
    intro w w1 w2
    obtain ⟨y, hy, he⟩ : ∃ y : PV, El y ∧ atI [PV.int 0, PV.int 1, PV.non, PV.str (Str.ofString ""), PV.tup []] w = some y := by
      have : w = 0 ∨ w = 1 ∨ w = 2 ∨ w = 3 ∨ w = 4 := by omega
      rcases this with rfl | rfl | rfl | rfl | rfl
      · exact ⟨_, .int 0 (.inl rfl), rfl⟩
      · exact ⟨_, .int 1 (.inr rfl), rfl⟩
      · exact ⟨_, .non, rfl⟩
      · exact ⟨_, .tx [] (by simp) (fun c hc => by simp at hc), by rw [← nil_tx]; rfl⟩
      · exact ⟨_, .tup, rfl⟩
    (conv => whnf)
    rw [he]
    (conv => whnf)
    refine ⟨⟨by omega, by omega⟩, ?_⟩
    intro i i1 i2
    obtain ⟨i, rfl⟩ := toN i1
    (conv => whnf)
    rw [ixN_at (by omega)]
    refine hK _ ⟨ys.set i y, fun z m => ?_, by simp [hl], rfl⟩
    rcases List.mem_or_eq_of_mem_set m with m | rfl
    · exact hp z m
    · exact hy
  · rintro γ ⟨ys, hp, hl, rfl⟩
    (conv => whnf)
    refine ⟨⟨by omega, by omega⟩, ?_⟩
    intro q q1 q2
    (conv => whnf)
    refine ⟨rfl, rfl, ?_⟩
    rw [peq_int]
    refine bif2 (fun _ => ?_) fun _ => ?_
    · (conv => whnf)
      exact k _ (.lst ys (by omega) hp)
    · (conv => whnf)
      exact k _ (.tup ys (by omega) hp)
theorem el_s (s : String) (h : (sA s).length ≤ 5 ∧ ∀ c ∈ sA s, c < 128) : El (.str (Str.ofString s)) := by rw [str_sA]; exact .tx _ h.1 h.2
theorem el1 {y : PV} (h : El y) : ∀ z ∈ [y], El z := fun z m => by rw [List.mem_singleton.mp m]; exact h
theorem L_thing {Q : PV → Prop} (k : ∀ x, Th x → Q x) : w_law_thing [.bag] Q := by
  rw [e_law_thing]
  (conv => whnf)
  refine ⟨⟨by omega, by omega⟩, ?_⟩
  intro u u1 u2
  (conv => whnf)
  refine bif2 (fun _ => ?_) fun _ => ?_
  · (conv => whnf)
    exact L11_number fun i hi => k _ (.int i hi)
  (conv => whnf)
  refine bif2 (fun _ => ?_) fun _ => ?_
  · (conv => whnf)
    exact L11_words fun l h1 h2 => k _ (.tx l h1 h2)
  (conv => whnf)
  refine ⟨rfl, rfl, ?_⟩
  rw [peq_int]
  refine bif2 (fun _ => ?_) fun _ => ?_
  · (conv => whnf)
    refine ⟨⟨by omega, by omega⟩, ?_⟩
    intro w w1 w2
    obtain ⟨O, hO1, hO2, hO3, hOe⟩ := pickS (ss := ["over", "under", "Over", "under ", "ove", "", "b", "o", "u", "bo", "overunder"]) (a := 0) (b := 9) (by decide +kernel) w1 w2
    simp only [List.map_cons, List.map_nil] at hOe
    (conv => whnf)
    rw [hOe]
    exact k _ (.tx O (by omega) hO3)
  (conv => whnf)
  refine bif2 (fun _ => ?_) fun _ => ?_
  · (conv => whnf)
    exact L11_truths k
  (conv => whnf)
  refine ⟨⟨by omega, by omega⟩, ?_⟩
  intro w w1 w2
  have : w = 0 ∨ w = 1 ∨ w = 2 ∨ w = 3 ∨ w = 4 ∨ w = 5 ∨ w = 6 ∨ w = 7 ∨ w = 8 ∨ w = 9 ∨ w = 10 ∨ w = 11 := by omega
  rcases this with rfl | rfl | rfl | rfl | rfl | rfl | rfl | rfl | rfl | rfl | rfl | rfl
  · exact k _ .non
  · exact k _ (.bl true)
  · exact k _ (.bl false)
  · exact k _ (.lst [] (by simp) (by simp))
  · exact k _ .dk0
  · exact k _ (.tup [] (by simp) (by simp))
  · exact k _ (.lst _ (by simp) (el1 (el_s "a" (by decide +kernel))))
  · exact k _ (.tup _ (by simp) (el1 (el_s "a" (by decide +kernel))))
  · exact k _ .dk1
  · exact k _ (.lst _ (by simp) (el1 (.int 0 (.inl rfl))))
  · exact k _ (.tup _ (by simp) (el1 (el_s "over" (by decide +kernel))))
  · exact k _ .lln
theorem shw_q (x : PV) : shwD (.lst (q13 x)) := .inl (shw_bulk rfl rfl (by show 13 ≤ 700000; decide))
theorem law_plain : p_law lawD (lawG 7) := by
  (conv => whnf)
  refine ⟨⟨by omega, by omega⟩, ?_⟩
  rw [show Int.toNat 24 = 24 from rfl]
  refine yforR (fun m γ => ∃ b2 b3 b4 b5 b6, γ = [none, some .bag, b2, b3, b4, b5, b6]) ⟨_, _, _, _, _, rfl⟩ ?_ ?_
  · rintro m γ hm ⟨b2, b3, b4, b5, b6, rfl⟩ K hK
    (conv => whnf)
    refine L_thing fun x hx => ?_
    (conv => whnf)
    refine ⟨hx.shD, ?_⟩
    (conv => whnf)
    refine L_law_dues hx ?_
    (conv => whnf)
    refine ⟨shw_q x, ?_⟩
    (conv => whnf)
    refine ⟨⟨by omega, by omega⟩, ?_⟩
    rw [show Int.toNat 2 = 2 from rfl]
    refine yforR (fun n γ => ∃ b6, γ = [none, some .bag, some (.int m), some x, some (.str (toDD x).shown), some (.str (toDD (.lst (q13 x))).shown), b6]) ⟨_, rfl⟩ ?_ ?_
    · rintro n γ hn ⟨b6, rfl⟩ K2 hK2
      (conv => whnf)
      refine L_law_told hx ?_
      (conv => whnf)
      refine ⟨shw_q x, ?_⟩
      (conv => whnf)
      rw [decide_eq_true rfl]
      (conv => whnf)
      refine ⟨hx.shD, ?_⟩
      (conv => whnf)
      rw [decide_eq_true rfl]
      exact hK2 _ ⟨_, rfl⟩
    · rintro γ ⟨b6, rfl⟩
      exact hK _ ⟨_, _, _, _, _, rfl⟩
  · rintro γ ⟨b2, b3, b4, b5, b6, rfl⟩
    trivial
end Lw
open PySem PySem.W PySem.Calls PyProof.Rows
theorem PySem.Challenge.cw_laybeside_k11_kinds_known_holds : PySem.Challenge.rw_laybeside_k11_kinds_known.Holds := by
  w_on; o_law
  refine HandSHeadRun.head_any (r := OpenLaw.row PySem.Challenge.rw_laybeside_k11_kinds_known) (q := view (OpenLaw.row PySem.Challenge.rw_laybeside_k11_kinds_known).prog [36]) (H := Lw.hk) (ob := Lw.ob) (M := 200000) (loose := Lw.loose) (d := HandSHeadRun.topDef (OpenLaw.row PySem.Challenge.rw_laybeside_k11_kinds_known).prog 36) (kwd := []) Lw.ob_eq
    (by kernel_rfl) (fun s => by kernel_rfl) Lw.run (by kernel_rfl) (by kernel_rfl) (by kernel_rfl) (by rfl) (by first | assumption | decide +kernel) (by decide +kernel) ⟨rfl, rfl, rfl, rfl, rfl, by decide +kernel⟩ ?hw ?hc
  case hw => w_witness2
  case hc =>
    refine Vl.walkG (l := PySem.Challenge.rw_laybeside_k11_kinds_known) (n := 63) (k := 5) (x := "_law_script") rfl (by decide) (by kernel_rfl) ⟨rfl, by decide, by decide⟩ ?F
    intro w mg fa h Y G hmg0
    obtain ⟨K, KX, c⟩ := Y
    have hmg : mg ("law" : PySem.Str) = some (.ref fa) := by
      have e : (HandSHeadRun.topDef (OpenLaw.row PySem.Challenge.rw_laybeside_k11_kinds_known).prog 36).name = ("law" : PySem.Str) := by kernel_rfl
      rw [← e]
      exact hmg0
    obtain ⟨fd, hb, hF⟩ := Lw.facts (P := (PySem.Challenge.rw_laybeside_k11_kinds_known).prog) (w := w) KX G Lw.law_plain hmg c
    exact ⟨K, fd, Vl.spLaw K, KX, hb, fun H a ns hl _ hS => ⟨a, ns, rfl, hS, by rw [sizeLine_eq]; omega, fun _ => rfl⟩, hF⟩
