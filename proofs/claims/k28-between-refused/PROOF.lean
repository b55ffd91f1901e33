import PyProof.Rows.All
import Wide.All
import OpenK.AllK
import Wide.FinOn
import KE.KStateDown
import KE.KIndexOf
import HandS.ForMost
import HandS.ForExc
import HandS.IsInst
import HandS.Codes
import HandS.Flow
import HandS.Wide
import HandS.MakeKwOnly
import HandS.RevRange
import HandS.NoneIn
import HandS.Style
import HandS.SortInts
import HandS.Walk
import HandS.StrMore
import HandS.More
import HandS.Defaults
import HandS.Head0
import HandS.Head1
import HandS.Head2
import HandS.HeadEnd
import HandS.HeadHook4
import HandS.Zip
import KE.DatumOrd
import HandS.TryMany
import HandS.TryOnly
import HandS.SuiteRaise
import HandS.RaiseMore
import HandS.ExcField
import HandS.ExcIs
import HandS.ExcInit
import HandS.DictComp
import HandS.DictEq
import HandS.WordsExc
import KE.GoesZip
import KE.GoesEnum
import KE.GoesMore
import HandS.Remove
import HandS.Rindex
import HandS.SetIn
import HandS.TupLe
import HandS.DictTup
import HandS.TupMul
import HandS.AnyAll
import HandS.Base
import HandS.BoundDict
import HandS.BoundList
import HandS.Bytes
import HandS.BytesMake
import HandS.Call
import HandS.CallLocal
import HandS.CallRecv
import HandS.CallSlots
import HandS.ClsMeth
import HandS.Comp
import HandS.Conv
import HandS.Deep
import HandS.DeepEq
import HandS.Dict
import HandS.DictSub
import HandS.DictSubMake
import HandS.DictSubView
import HandS.DictSubView0
import HandS.EndBits
import HandS.EndOwn
import HandS.EndTab
import HandS.Ends
import HandS.Evl
import HandS.Exc
import HandS.ExcBuiltin
import HandS.ExcCtx
import HandS.ExcInitHot
import HandS.ExcOwn
import HandS.ExcSuper
import HandS.ExcValue
import HandS.ExcValueFrom
import HandS.ExcValueHot
import HandS.ExpandTabs
import HandS.ExpandTabs0
import HandS.FStr
import HandS.FStrTup
import HandS.Finally
import HandS.Flt
import HandS.FltErr
import HandS.FltExact
import HandS.FltList
import HandS.FltSums
import HandS.FltText
import HandS.ForDict
import HandS.ForList
import HandS.ForSpec
import HandS.FromBytesMap
import HandS.Gcd
import HandS.GenBody
import HandS.GenCall
import HandS.GenList
import HandS.GenOver
import HandS.GenYield
import HandS.Head3
import HandS.Head4
import HandS.HeadHook1
import HandS.HeadHook2
import HandS.HeadHook3
import HandS.HeadNt
import HandS.HeadWalk
import HandS.Hot
import HandS.HotCalls
import HandS.IntHex
import HandS.IntRatio
import HandS.Iter
import HandS.IterNext
import HandS.IterVal
import HandS.JoinGen
import HandS.Keys
import HandS.Lambda
import HandS.LawCells
import HandS.List
import HandS.ListEq
import HandS.ListItems
import HandS.MakeKw
import HandS.MapJoin
import HandS.MapObj
import HandS.MapSum
import HandS.MethStar
import HandS.NamedTup0
import HandS.NamedTupGet
import HandS.NamedTupSort
import HandS.Nested
import HandS.NestedHot
import HandS.NestedK
import HandS.New
import HandS.New0
import HandS.OwnEq
import HandS.OwnIter
import HandS.Property
import HandS.Proxy
import HandS.RaiseFrom
import HandS.RaiseOp
import HandS.ReBound
import HandS.ReCall
import HandS.ReCheck
import HandS.ReDoes
import HandS.ReFacts
import HandS.ReHeld
import HandS.ReIface
import HandS.ReLoops
import HandS.ReMatch
import HandS.ReName
import HandS.ReRuns
import HandS.ReSeek
import HandS.ReSem
import HandS.ReSet
import HandS.ReSub
import HandS.ReTell
import HandS.Records
import HandS.RepeatKit
import HandS.Replace
import HandS.ReplaceDef
import HandS.ReplaceList
import HandS.ReplaceLit
import HandS.Rev
import HandS.RevTup
import HandS.Set
import HandS.SetBool
import HandS.SetFor
import HandS.SetKeys
import HandS.SetTxt0
import HandS.SetTxtIn
import HandS.Slots
import HandS.SlotsOwn
import HandS.SlotsVar
import HandS.Small
import HandS.Sort
import HandS.SortKw
import HandS.SortOrd
import HandS.SortRule
import HandS.Spec
import HandS.Star
import HandS.Steps
import HandS.StrSplit
import HandS.Strs
import HandS.Struct
import HandS.Struct0
import HandS.Text
import HandS.ToBytes
import HandS.Translate
import HandS.TryElse
import HandS.TupAny
import HandS.TupLen
import HandS.TupSets
import HandS.WideBits
import HandS.WideMore
import HandS.Words
import HandS.WordsDict
import HandS.WordsList
import HandS.WrittenFld
import HandS.WrittenGet
import HandS.Zip0
import PyProof.Rows.TupDisplay
import PyProof.Rows.StrLawsPart
import KE.KDictWalk
import KE.KExcIs
import PyProof.Rows.DictMethods
import PyProof.ReprBulk
import PyProof.Rows.CountFlat
import PyProof.TupleOfStr
import PySem.Challenge.RW_laybeside_k28_between_refused
set_option Elab.async false
set_option linter.all false
set_option maxRecDepth 100000
set_option maxHeartbeats 4000000
namespace Lb
open PySem PySem.Spec L2
abbrev Fg := PySem.W.Frag
def tTru (K : Fg) (ta : TE) : TT := fun σ H Q => ta σ H fun x H' => ∃ k, TruV K x H' k ∧ Q k H'
end Lb
namespace Lb
open PySem PySem.Spec L2
def rAddI : R2 := fun x y H Q => ∃ i j, x = .int i ∧ y = .int j ∧ Q (.int (i + j)) H
def rAddS : R2 := fun x y H Q => ∃ i j, x = .str i ∧ y = .str j ∧ i.length + j.length ≤ sizeLine ∧ Q (.str (i ++ j)) H
def rAddA : R2 := fun x y H Q => rAddI x y H Q ∨ rAddS x y H Q ∨ rCat x y H Q
def rMulI : R2 := rI CMul fun i j => .int (i * j)
def rMulA : R2 := fun x y H Q => rMulI x y H Q ∨ rRep x y H Q
def rModA : R2 := rI (fun _ j => 0 < j) fun i j => .int (i % j)
def rDivA : R2 := rI CDivW fun i j => .int (i / j)
def rEqA (K : Fg) : R2 := fun x y H Q => rEq x y H Q ∨ rEqD K x y H Q
def rNeA (K : Fg) : R2 := fun x y H Q => rNe x y H Q ∨ rNeD K x y H Q
def rLtI : R2 := rI0 fun i j => .bl (decide (i < j))
def rLtS : R2 := fun x y H Q => ∃ i j, x = .str i ∧ y = .str j ∧ Q (.bl (decide (i.cps.toList < j.cps.toList))) H
def rLtA : R2 := fun x y H Q => rLtI x y H Q ∨ rLtS x y H Q
def rLeA : R2 := rI0 fun i j => .bl (decide (i ≤ j))
def rGtA : R2 := rI0 fun i j => .bl (decide (j < i))
def rGeA : R2 := rI0 fun i j => .bl (decide (j ≤ i))
def rInC : R2 := fun x y H Q => ∃ (c : Nat) (z : Str), x = .str ⟨#[c]⟩ ∧ y = .str z ∧ Q (.bl (decide (c ∈ z.cps.toList))) H
def rInA (K : Fg) : R2 := fun x y H Q => rInC x y H Q ∨ rIn K false x y H Q
def ipAddA : TIp := fun x y H Q => rAddI x y H Q ∨ rAddS x y H Q
def rAbs : List V → Hp → VK → Prop := fun xs H Q => ∃ i, xs = [V.int i] ∧ Q (V.int (if i < 0 then -i else i)) H
def rInt1 : List V → Hp → VK → Prop := fun xs H Q => (∃ i, xs = [V.int i] ∧ Q (V.int i) H) ∨ ∃ k, xs = [V.bl k] ∧ Q (V.int (if k = true then 1 else 0)) H
/-- isinstance(x, T), T a built-in class -/
def rIsB (K : Fg) : List V → Hp → VK → Prop := fun xs H Q => ∃ (x : V) (T t : String) (b : Bool), xs = [x, .ty T] ∧ TyX K H x (.type t) ∧ kitB t T = some b ∧ Q (.bl b) H
def rGetL (K : Fg) : R2 := fun x y H Q => ∃ p xs j v, x = .ref p ∧ y = .int ((j : Nat) : Int) ∧ SqL K H p xs ∧ xs[j]? = some v ∧ Q v H
section
variable {X : Cx}
theorem op_addA : OpR X (binaryOp .Add) rAddA := OpR.or op_add (OpR.or op_add_str op_cat)
theorem op_mulA : OpR X (binaryOp .Mult) rMulA := OpR.or op_mul op_rep
theorem op_modA : OpR X (binaryOp .Mod) rModA := op_mod
theorem op_divA : OpR X (binaryOp .FloorDiv) rDivA := op_fdivW
theorem op_eqA (hu : X.A.units + 64 < cLine) : OpR X (compareOp .Eq) (rEqA X.K) := OpR.or op_eq (op_eqD hu)
theorem op_neA (hu : X.A.units + 64 < cLine) : OpR X (compareOp .NotEq) (rNeA X.K) := OpR.or op_ne (op_neD hu)
theorem op_ltA : OpR X (compareOp .Lt) rLtA := OpR.or op_lt op_lt_str
theorem op_leA : OpR X (compareOp .LtE) rLeA := op_le
theorem op_gtA : OpR X (compareOp .Gt) rGtA := op_gt
theorem op_geA : OpR X (compareOp .GtE) rGeA := op_ge
theorem op_inA : OpR X (compareOp .In) (rInA X.K) := OpR.or op_in_sign op_in_seq
theorem ip_addA : PIp X .Add ipAddA := by
  intro pins s σ H x y v u Q I rx ry h
  rcases h with h | h
  · exact iop_add pins s σ H x y v u Q I rx ry h
  · exact iop_add_str pins s σ H x y v u Q I rx ry h
theorem call_absA : CallR X (.builtin "abs") rAbs := call_abs
theorem call_int1A : CallR X (.type "int") rInt1 := call_int1
theorem call_lenA : CallR X (.builtin "len") (rLen X.K) := call_len
theorem call_isB : CallR X (.builtin "isinstance") (rIsB X.K) := by
  intro pins s σ H xs us Q I r h
  obtain ⟨x, T, t, b, rfl, ty, e, q⟩ := h
  exact call_isi pins s σ H _ us Q I r ⟨x, .ty T, .type t, .type T, b, rfl, .ty T, ty, kit_ty e, q⟩
theorem get_list : PGet X (rGetL X.K) := by
  intro pins s σ H o i ov iv Q I ro ri h
  obtain ⟨p, xs, j, v, rfl, rfl, hq, he, q⟩ := h
  cases ro
  obtain ⟨t, rfl⟩ := ri
  obtain ⟨its, r, pl, hz⟩ := I.list hq
  obtain ⟨w, ew, rw'⟩ := r.get he
  have hl := r.length
  have hn := line63
  have hj : j < xs.length := (List.getElem?_eq_some_iff.mp he).1
  exact wpAny_getItem_list pl.isList (by omega) (by omega) (by simpa using ew) ⟨v, H, I, rw', q⟩
end
def Cal (P : Program) (w : World) (K : Fg) (mg : Str → Option Value) (base : Heap) (x : Str) (k : Nat) (ps : List Str) (sp : Sp) (dvs : List V) : Prop :=
  ∃ fd ds, FnOk P w K mg base CX0 k (He.ga K x) fd ps sp ∧ Binds K fd ps ds ∧ Vals dvs ds ∧ mg x = some (.ref (He.ga K x)) ∧ PySem.W.keepIn K (.ref (He.ga K x)) = true
section
variable {X : Cx} {k n : Nat} {ps ks : List Str} {sp : Sp} {dvs : List V} {x c m : Str} {p pos apos : Pos} {e o : Expr} {es : List Expr} {kws : List Keyword} {ta te : TE} {t tk : TA} {gV : List V → List V → List V} {i : Int} {z : Str}
theorem pe_gref {a : Addr} (h : X.mg x = some (.ref a)) (hg : Gl X x) (hd : (x == ("__debug__" : Str)) = false := by decide) : PE X (.Name x pos) (tC (.ref a)) := pe_glob hg h rfl hd
theorem pe_cal (c : Cal X.prog X.w X.K X.mg X.base x k ps sp dvs) (hr : Room k X.A) (hg : Gl X x) (ha : PA X (e :: es) t) (hdb : (x == ("__debug__" : Str)) = false := by decide)
    (he : starEach (e :: es) X.env = (false, eval e X.env) :: starEach es X.env := by rfl) (hpl : (backTo pos (starEach es X.env)).any (·.1) = false := by rfl) :
    PE X (.Call (.Name x p) (e :: es) [] pos) (tCall sp dvs E0 t) := by
  obtain ⟨fd, ds, F, b, v, g, kp⟩ := c
  exact pe_call F hr hg g kp b v pass0 ha hdb he hpl
theorem pt_tru (ha : PE X e te) (he : ∀ whole, isTrue e X.env whole = (do let v ← whole; standAt e.pos; holding [v] (truthy v)) := by intro _; rfl) : PT X e (tTru X.K te) := pt_truth ha he
end
end Lb
namespace Vl
open PySem PySem.Spec L2
abbrev Fg := PySem.W.Frag
/-- the built-in classes that are asked for -/
inductive Kn where
  | int | bool | str | list | tuple | dict
def knS : Kn → String
  | .int => "int"
  | .bool => "bool"
  | .str => "str"
  | .list => "list"
  | .tuple => "tuple"
  | .dict => "dict"
/-- plain values -/
inductive PV where
  | non | bl (b : Bool) | int (i : Int) | str (x : Str) | ty (n : Kn)
  | lst (xs : List PV) | tup (xs : List PV)
  | dK (kvs : List (Key × PV)) | dT (kvs : List (List Key × PV))
  | ins (c : Nat) (fs : List PV)
  | cls (c : Str) | bag
/-- the program's classes and their attributes, in the order of their making -/
def clsT : Nat → Str × List Str
  | 0 => ("Scale", ["kept_letters", "by_two", "kept_opening", "kept_each"])
  | 1 => ("Field", ["kept_pairs", "over_kept", "under_kept", "to_open"])
  | 2 => ("Bounds", ["ground", "ended", "lines"])
  | 3 => ("Stretches", ["laid_in", "most_from"])
  | 4 => ("Chain", ["chained_in", "fee_each", "by_place"])
  | 5 => ("Ways", ["walked", "ended_so", "lines_told", "ways_on"])
  | 6 => ("Sheet", ["over_row", "under_row", "ruled", "known", "all_known"])
  | 7 => ("Joined", ["held_rows"])
  | 8 => ("Book", ["ruled", "stands", "done", "undone"])
  | 9 => ("Desk", ["own_book"])
  | _ => ("", [])
/-- the written part, the bag's two lists -/
structure Bg where
  K : Fg
  q : Addr
  r : Addr
/-- a tuple, tracked or written -/
def STp (K : Fg) (H : Hp) (a : Addr) (xs : List V) : Prop :=
  H a = some (.tup xs) ∨ ∃ (o : Obj) (its : Array Value) (n : Nat), K.lookup a = some o ∧ o.cls = .type "tuple" ∧ o.data = .seq its n ∧ its.size ≤ sizeLine ∧ Vals xs its.toList
theorem STp.sq {K : Fg} {H : Hp} {a : Addr} {xs : List V} (h : STp K H a xs) : SqT K H a xs := by
  rcases h with h | h
  · exact .inl (.inl h)
  · exact .inr h
mutual
inductive Rp (B : Bg) (A : Addr → Prop) (H : Hp) : PV → V → Prop
  | non : Rp B A H .non .non
  | bl (b : Bool) : Rp B A H (.bl b) (.bl b)
  | int (i : Int) : Rp B A H (.int i) (.int i)
  | str (x : Str) : Rp B A H (.str x) (.str x)
  | ty (n : Kn) : Rp B A H (.ty n) (.ty (knS n))
  | lst {a : Addr} {vs : List V} {xs : List PV} : ¬ A a → H a = some (.lst vs) → RpL B A H xs vs → Rp B A H (.lst xs) (.ref a)
  | tup {a : Addr} {vs : List V} {xs : List PV} : STp B.K H a vs → RpL B A H xs vs → Rp B A H (.tup xs) (.ref a)
  | dK {a : Addr} {ws : List (Key × V)} {kvs : List (Key × PV)} {ks : List Key} {xs : List PV} {vs : List V} : ¬ A a → H a = some (.dK ws) → kvs.map (·.1) = ks → ws.map (·.1) = ks → kvs.map (·.2) = xs → ws.map (·.2) = vs → RpL B A H xs vs → Rp B A H (.dK kvs) (.ref a)
  | dT {a : Addr} {ws : List (List Key × V)} {kvs : List (List Key × PV)} {ks : List (List Key)} {xs : List PV} {vs : List V} : ¬ A a → H a = some (.dT ws) → kvs.map (·.1) = ks → ws.map (·.1) = ks → kvs.map (·.2) = xs → ws.map (·.2) = vs → RpL B A H xs vs → Rp B A H (.dT kvs) (.ref a)
  | ins {a dx : Addr} {c : Nat} {ws : List (Str × V)} {xs : List PV} {vs : List V} : ¬ A a → H a = some (.ins (He.ga B.K (clsT c).1) dx ws) → ws.map (·.1) = (clsT c).2.take xs.length → ws.map (·.2) = vs → RpL B A H xs vs → Rp B A H (.ins c xs) (.ref a)
  | cls (c : Str) : Rp B A H (.cls c) (.ref (He.ga B.K c))
  | bag : Rp B A H .bag (.ref B.q)
inductive RpL (B : Bg) (A : Addr → Prop) (H : Hp) : List PV → List V → Prop
  | nil : RpL B A H [] []
  | cons {x : PV} {v : V} {xs : List PV} {vs : List V} : Rp B A H x v → RpL B A H xs vs → RpL B A H (x :: xs) (v :: vs)
end
section
variable {B : Bg} {A A' : Addr → Prop} {H H' : Hp}
mutual
theorem Rp.mv (f : ∀ a o, H a = some o → ¬ A a → H' a = some o) (ft : ∀ a vs, H a = some (.tup vs) → H' a = some (.tup vs)) (g : ∀ a, A' a → H a ≠ none → A a) :
    ∀ {x : PV} {v : V}, Rp B A H x v → Rp B A' H' x v
  | _, _, .non => .non
  | _, _, .bl b => .bl b
  | _, _, .int i => .int i
  | _, _, .str x => .str x
  | _, _, .ty n => .ty n
  | _, _, .lst n h r => .lst (fun z => n (g _ z (by rw [h]; exact nofun))) (f _ _ h n) (RpL.mv f ft g r)
  | _, _, .tup h r => .tup (h.elim (fun h => .inl (ft _ _ h)) .inr) (RpL.mv f ft g r)
  | _, _, .dK n h a b c d r => .dK (fun z => n (g _ z (by rw [h]; exact nofun))) (f _ _ h n) a b c d (RpL.mv f ft g r)
  | _, _, .dT n h a b c d r => .dT (fun z => n (g _ z (by rw [h]; exact nofun))) (f _ _ h n) a b c d (RpL.mv f ft g r)
  | _, _, .ins n h a b r => .ins (fun z => n (g _ z (by rw [h]; exact nofun))) (f _ _ h n) a b (RpL.mv f ft g r)
  | _, _, .cls c => .cls c
  | _, _, .bag => .bag
theorem RpL.mv (f : ∀ a o, H a = some o → ¬ A a → H' a = some o) (ft : ∀ a vs, H a = some (.tup vs) → H' a = some (.tup vs)) (g : ∀ a, A' a → H a ≠ none → A a) :
    ∀ {x : List PV} {v : List V}, RpL B A H x v → RpL B A' H' x v
  | _, _, .nil => .nil
  | _, _, .cons a b => .cons (Rp.mv f ft g a) (RpL.mv f ft g b)
end
theorem Rp.anti (g : ∀ a, A' a → A a) {x : PV} {v : V} (h : Rp B A H x v) : Rp B A' H x v := h.mv (fun _ _ h _ => h) (fun _ _ h => h) fun a h _ => g a h
theorem RpL.anti (g : ∀ a, A' a → A a) {x : List PV} {v : List V} (h : RpL B A H x v) : RpL B A' H x v := h.mv (fun _ _ h _ => h) (fun _ _ h => h) fun a h _ => g a h
theorem RpL.length : ∀ {x : List PV} {v : List V}, RpL B A H x v → x.length = v.length
  | _, _, .nil => rfl
  | _, _, .cons _ b => by simp [RpL.length b]
theorem RpL.get : ∀ {x : List PV} {v : List V}, RpL B A H x v → ∀ {i : Nat} {p : PV}, x[i]? = some p → ∃ u, v[i]? = some u ∧ Rp B A H p u
  | _, _, .nil, _, _, e => by simp at e
  | _, _, .cons a _, 0, _, e => by simp at e; subst e; exact ⟨_, rfl, a⟩
  | _, _, .cons _ b, i + 1, _, e => by simpa using RpL.get b (by simpa using e)
theorem RpL.append : ∀ {x y : List PV} {v w : List V}, RpL B A H x v → RpL B A H y w → RpL B A H (x ++ y) (v ++ w)
  | _, _, _, _, .nil, r => r
  | _, _, _, _, .cons a b, r => .cons a (RpL.append b r)
theorem RpL.drop : ∀ {x : List PV} {v : List V} (n : Nat), RpL B A H x v → RpL B A H (x.drop n) (v.drop n)
  | _, _, 0, r => r
  | _, _, _ + 1, .nil => .nil
  | _, _, n + 1, .cons _ t => RpL.drop n t
theorem RpL.take : ∀ {x : List PV} {v : List V} (n : Nat), RpL B A H x v → RpL B A H (x.take n) (v.take n)
  | _, _, 0, _ => .nil
  | _, _, _ + 1, .nil => .nil
  | _, _, n + 1, .cons r t => .cons r (RpL.take n t)
theorem RpL.set : ∀ {x : List PV} {v : List V} {p : PV} {u : V} (n : Nat), RpL B A H x v → Rp B A H p u → RpL B A H (x.set n p) (v.set n u)
  | _, _, _, _, _, .nil, _ => .nil
  | _, _, _, _, 0, .cons _ t, r => .cons r t
  | _, _, _, _, n + 1, .cons q t, r => .cons q (RpL.set n t r)
end
mutual
def imm : PV → Bool
  | .non => true
  | .bl _ => true
  | .int _ => true
  | .str _ => true
  | .ty _ => true
  | .tup xs => immL xs
  | .cls _ => true
  | .bag => true
  | _ => false
def immL : List PV → Bool
  | [] => true
  | x :: xs => imm x && immL xs
end
section
variable {B : Bg} {A A' : Addr → Prop} {H : Hp}
mutual
theorem Rp.im : ∀ {x : PV} {v : V}, Rp B A H x v → imm x = true → Rp B A' H x v
  | _, _, .non, _ => .non
  | _, _, .bl b, _ => .bl b
  | _, _, .int i, _ => .int i
  | _, _, .str x, _ => .str x
  | _, _, .ty n, _ => .ty n
  | _, _, .tup h r, e => .tup h (RpL.im r (by simpa only [imm] using e))
  | _, _, .cls c, _ => .cls c
  | _, _, .bag, _ => .bag
  | _, _, .lst _ _ _, e => by simp [imm] at e
  | _, _, .dK _ _ _ _ _ _ _, e => by simp [imm] at e
  | _, _, .dT _ _ _ _ _ _ _, e => by simp [imm] at e
  | _, _, .ins _ _ _ _ _, e => by simp [imm] at e
theorem RpL.im : ∀ {x : List PV} {v : List V}, RpL B A H x v → immL x = true → RpL B A' H x v
  | _, _, .nil, _ => .nil
  | _, _, .cons a b, e => by
    simp only [immL, Bool.and_eq_true] at e
    exact .cons (Rp.im a e.1) (RpL.im b e.2)
end
end
def BagOk (B : Bg) (H : Hp) : Prop := ∃ (x y : Int) (z : Nat) (cs : List Int), H B.q = some (.lst [.int x, .int y, .int z, .ref B.r]) ∧ H B.r = some (.lst (cs.map V.int)) ∧ B.r ≠ B.q ∧
  0 ≤ x ∧ 0 ≤ y ∧ y < 2147483647 ∧ ∀ c ∈ cs, 0 ≤ c
structure Ex (B : Bg) (H H' : Hp) : Prop where
  st : ∀ a o, H a = some o → a ≠ B.q → H' a = some o
  tp : ∀ a vs, H a = some (.tup vs) → H' a = some (.tup vs)
  nn : ∀ a, H a ≠ none → H' a ≠ none
  bg : BagOk B H → BagOk B H'
theorem Ex.refl (B : Bg) (H : Hp) : Ex B H H := ⟨fun _ _ h _ => h, fun _ _ h => h, fun _ h => h, fun h => h⟩
theorem Ex.trans {B : Bg} {H H1 H2 : Hp} (a : Ex B H H1) (b : Ex B H1 H2) : Ex B H H2 :=
  ⟨fun c o h n => b.st c o (a.st c o h n) n, fun c v h => b.tp c v (a.tp c v h), fun c h => b.nn c (a.nn c h), fun h => b.bg (a.bg h)⟩
theorem BagOk.q {B : Bg} {H : Hp} (h : BagOk B H) : H B.q ≠ none := by
  obtain ⟨_, _, _, _, h, _⟩ := h; rw [h]; exact nofun
theorem BagOk.stay {B : Bg} {H H' : Hp} (h : BagOk B H) (f : ∀ o, H B.q = some o → H' B.q = some o) (g : ∀ o, H B.r = some o → H' B.r = some o) : BagOk B H' := by
  obtain ⟨x, y, z, cs, h1, h2, h3⟩ := h
  exact ⟨x, y, z, cs, f _ h1, g _ h2, h3⟩
/-- a new object -/
theorem Ex.new {B : Bg} {H : Hp} {p : Addr} {o : HO} (n : H p = none) : Ex B H (upd H p o) := by
  have k : ∀ a u, H a = some u → upd H p o a = some u := fun a u e => by rw [upd_ne (ne_of_none e n)]; exact e
  exact ⟨fun a u e _ => k a u e, fun a u e => k a _ e, fun a h => by
    cases e : H a with
    | none => exact absurd e h
    | some u => rw [k a u e]; exact nofun, fun h => h.stay (fun u e => k _ u e) fun u e => k _ u e⟩
theorem Ex.free {B : Bg} {H H' : Hp} (e : Ex B H H') {a : Addr} (h : H' a = none) : H a = none := by
  cases q : H a with
  | none => rfl
  | some o => exact absurd h (e.nn a (by rw [q]; exact nofun))
section
variable {B : Bg} {A : Addr → Prop} {H H' : Hp}
theorem Rp.ex {x : PV} {v : V} (h : Rp B A H x v) (e : Ex B H H') (aq : A B.q) : Rp B A H' x v :=
  h.mv (fun a o h n => e.st a o h (fun z => n (by rw [z]; exact aq))) e.tp fun _ h _ => h
theorem RpL.ex {x : List PV} {v : List V} (h : RpL B A H x v) (e : Ex B H H') (aq : A B.q) : RpL B A H' x v :=
  h.mv (fun a o h n => e.st a o h (fun z => n (by rw [z]; exact aq))) e.tp fun _ h _ => h
end
structure Ac where
  B : Bg
  A0 : Addr → Prop
  H0 : Hp
  me : Addr
/-- what a value keeps off: the caller's part (a), the own objects (s), the bag always -/
def av (E : Ac) (L : List Addr) (a s : Bool) (x : Addr) : Prop := x = E.B.q ∨ (a = true ∧ E.A0 x) ∨ (s = true ∧ x ∈ L)
/-- how a slot is held: shared, borrowed, an own list or dict, an own list of own lists, the own instance, the own instance with an own field; a caught exception (where it lies, its dict, its field); a dict by tuples that is walked (locked meanwhile) -/
inductive Kd where
  | sh | bor | own | own2 | slf | slfD (j : Nat) | tt | deep | exc (a : Addr) (d : Option Addr) (f : Str) | fz
  deriving DecidableEq
/-- an object of one's own at a -/
def Ob (B : Bg) (A : Addr → Prop) (H : Hp) (a : Addr) : PV → Prop
  | .lst xs => ∃ vs, H a = some (.lst vs) ∧ RpL B A H xs vs
  | .dT kvs => ∃ ws, H a = some (.dT ws) ∧ kvs.map (·.1) = ws.map (·.1) ∧ RpL B A H (kvs.map (·.2)) (ws.map (·.2))
  | .dK kvs => ∃ ws, H a = some (.dK ws) ∧ kvs.map (·.1) = ws.map (·.1) ∧ RpL B A H (kvs.map (·.2)) (ws.map (·.2))
  | .ins c fs => ∃ dx ws, H a = some (.ins (He.ga B.K (clsT c).1) dx ws) ∧ ws.map (·.1) = (clsT c).2.take fs.length ∧ RpL B A H fs (ws.map (·.2))
  | _ => False
/-- own lists within a list -/
inductive Obs (B : Bg) (A : Addr → Prop) (H : Hp) : List PV → List Addr → Prop
  | nil : Obs B A H [] []
  | cons {x : PV} {xs : List PV} {a : Addr} {as : List Addr} : Ob B A H a x → Obs B A H xs as → Obs B A H (x :: xs) (a :: as)
mutual
inductive RpO (B : Bg) (A : Addr → Prop) (H : Hp) : PV → V → List Addr → Prop
  | imm {x : PV} {v : V} : imm x = true → Rp B A H x v → RpO B A H x v []
  | lst {a : Addr} {vs : List V} {xs : List PV} {O : List Addr} : H a = some (.lst vs) → RpOL B A H xs vs O → RpO B A H (.lst xs) (.ref a) (a :: O)
  | tup {a : Addr} {vs : List V} {xs : List PV} {O : List Addr} : STp B.K H a vs → RpOL B A H xs vs O → RpO B A H (.tup xs) (.ref a) O
inductive RpOL (B : Bg) (A : Addr → Prop) (H : Hp) : List PV → List V → List Addr → Prop
  | nil : RpOL B A H [] [] []
  | cons {x : PV} {v : V} {xs : List PV} {vs : List V} {O P : List Addr} : RpO B A H x v O → RpOL B A H xs vs P → RpOL B A H (x :: xs) (v :: vs) (O ++ P)
end
def Kr (E : Ac) (L : List Addr) (H : Hp) : Kd → PV → V → List Addr → Prop
  | .sh, x, v, O => O = [] ∧ Rp E.B (av E L true true) H x v
  | .bor, x, v, O => O = [] ∧ Rp E.B (av E L false true) H x v
  | .own, x, v, O => ∃ a, v = .ref a ∧ O = [a] ∧ Ob E.B (av E L true true) H a x
  | .own2, x, v, O => ∃ a xs as, v = .ref a ∧ O = a :: as ∧ x = .lst xs ∧ H a = some (.lst (as.map V.ref)) ∧ Obs E.B (av E L true true) H xs as
  | .slf, x, v, O => ∃ a, v = .ref a ∧ O = [a] ∧ ((∃ c fs, x = .ins c fs) ∧ a = E.me) ∧ Ob E.B (av E L true true) H a x
  | .slfD j, x, v, O => ∃ a b c fs ws dx y, v = .ref a ∧ O = [a, b] ∧ (x = .ins c fs ∧ a = E.me) ∧ H a = some (.ins (He.ga E.B.K (clsT c).1) dx ws) ∧ ws.map (·.1) = (clsT c).2.take fs.length ∧
      fs[j]? = some y ∧ (ws.map (·.2))[j]? = some (.ref b) ∧ Ob E.B (av E L true true) H b y ∧ RpL E.B (av E L true true) H (fs.set j .non) ((ws.map (·.2)).set j .non)
  | .tt, x, v, O => O = [] ∧ ∃ a xs vs, x = .tup xs ∧ v = .ref a ∧ H a = some (.tup vs) ∧ RpL E.B (av E L true true) H xs vs
  | .deep, x, v, O => RpO E.B (av E L true true) H x v O
  | .exc a d f, x, v, O => O = [] ∧ v = .ref a ∧ (d = none → x = .bag) ∧ ∀ b, d = some b → ¬ av E L true true b ∧ ∃ u, H b = some (.xd [(f, u)]) ∧ Rp E.B (av E L true true) H x u
  | .fz, x, v, O => O = [] ∧ ∃ a od kvs ws, x = .dT kvs ∧ v = .ref a ∧ ¬ av E L false true a ∧ H a = some (.frz od (.dT ws)) ∧ kvs.map (·.1) = ws.map (·.1) ∧ RpL E.B (av E L false true) H (kvs.map (·.2)) (ws.map (·.2))
abbrev G := List (Option PV)
def kd (ks : List Kd) (i : Nat) : Kd := ks.getD i .sh
structure Rel (E : Ac) (L : List Addr) (ks : List Kd) (γ : G) (σ : St) (H : Hp) : Prop where
  old : ∀ a o, E.H0 a = some o → a ≠ E.B.q → H a = some o
  onn : ∀ a, E.H0 a ≠ none → H a ≠ none
  bag : BagOk E.B H
  a0 : ∀ a, E.A0 a → E.H0 a ≠ none
  aq : E.A0 E.B.q
  ar : E.H0 E.B.r ≠ none
  lf : ∀ a ∈ L, E.H0 a = none ∧ H a ≠ none
  len : γ.length = σ.length
  sl : ∃ O : Nat → List Addr, (∀ i x, γ[i]? = some (some x) → ∃ v, σ[i]? = some (some v) ∧ Kr E L H (kd ks i) x v (O i)) ∧ (∀ i a, a ∈ O i → a ∈ L) ∧
    (∀ i j a, a ∈ O i → a ∈ O j → i = j) ∧ ∀ i, (O i).Nodup
end Vl
namespace Vl
open PySem PySem.Spec L2
section
variable {B : Bg} {A A' : Addr → Prop} {H H' : Hp}
theorem Ob.mv (f : ∀ a o, H a = some o → ¬ A a → H' a = some o) (ft : ∀ a vs, H a = some (.tup vs) → H' a = some (.tup vs)) (g : ∀ a, A' a → H a ≠ none → A a) {a : Addr} (fa : ∀ o, H a = some o → H' a = some o) {x : PV} (h : Ob B A H a x) : Ob B A' H' a x := by
  cases x with
  | lst xs => obtain ⟨vs, h1, h2⟩ := h; exact ⟨vs, fa _ h1, h2.mv f ft g⟩
  | dT kvs => obtain ⟨ws, h1, h2, h3⟩ := h; exact ⟨ws, fa _ h1, h2, h3.mv f ft g⟩
  | dK kvs => obtain ⟨ws, h1, h2, h3⟩ := h; exact ⟨ws, fa _ h1, h2, h3.mv f ft g⟩
  | ins c fs => obtain ⟨dx, ws, h1, h2, h3⟩ := h; exact ⟨dx, ws, fa _ h1, h2, h3.mv f ft g⟩
  | _ => exact h.elim
theorem Obs.mv (f : ∀ a o, H a = some o → ¬ A a → H' a = some o) (ft : ∀ a vs, H a = some (.tup vs) → H' a = some (.tup vs)) (g : ∀ a, A' a → H a ≠ none → A a) : ∀ {xs : List PV} {as : List Addr}, (∀ a ∈ as, ∀ o, H a = some o → H' a = some o) → Obs B A H xs as → Obs B A' H' xs as
  | _, _, _, .nil => .nil
  | _, _, fa, .cons h t => .cons (h.mv f ft g (fa _ (by simp))) (Obs.mv f ft g (fun a m => fa a (by simp [m])) t)
mutual
theorem RpO.mv (f : ∀ a o, H a = some o → ¬ A a → H' a = some o) (ft : ∀ a vs, H a = some (.tup vs) → H' a = some (.tup vs)) (g : ∀ a, A' a → H a ≠ none → A a) : ∀ {x : PV} {v : V} {O : List Addr}, (∀ a ∈ O, ∀ o, H a = some o → H' a = some o) → RpO B A H x v O → RpO B A' H' x v O
  | _, _, _, _, .imm e r => .imm e (r.mv f ft g)
  | _, _, _, fa, .lst h r => .lst (fa _ (by simp) _ h) (RpOL.mv f ft g (fun a m => fa a (by simp [m])) r)
  | _, _, _, fa, .tup h r => .tup (h.elim (fun h => .inl (ft _ _ h)) .inr) (RpOL.mv f ft g fa r)
theorem RpOL.mv (f : ∀ a o, H a = some o → ¬ A a → H' a = some o) (ft : ∀ a vs, H a = some (.tup vs) → H' a = some (.tup vs)) (g : ∀ a, A' a → H a ≠ none → A a) : ∀ {x : List PV} {v : List V} {O : List Addr}, (∀ a ∈ O, ∀ o, H a = some o → H' a = some o) → RpOL B A H x v O → RpOL B A' H' x v O
  | _, _, _, _, .nil => .nil
  | _, _, _, fa, .cons h r => .cons (RpO.mv f ft g (fun a m => fa a (by simp [m])) h) (RpOL.mv f ft g (fun a m => fa a (by simp [m])) r)
end
end
section
variable {E : Ac} {L L' : List Addr} {H H' : Hp}
theorem av_mono {a s a' s' : Bool} (ha : a' = true → a = true) (hs : s' = true → s = true) {x : Addr} (h : av E L a' s' x) : av E L a s x := by
  rcases h with h | ⟨h, k⟩ | ⟨h, k⟩
  · exact .inl h
  · exact .inr (.inl ⟨ha h, k⟩)
  · exact .inr (.inr ⟨hs h, k⟩)
theorem av_q {a s : Bool} : av E L a s E.B.q := .inl rfl
/-- a slot stands when all but others' own objects stand -/
theorem Kr.mv (st : ∀ a o, H a = some o → a ≠ E.B.q → (a ∈ L → False) → H' a = some o) (ft : ∀ a vs, H a = some (.tup vs) → H' a = some (.tup vs)) (ls : ∀ a ∈ L', a ∈ L ∨ H a = none)
    {k : Kd} {x : PV} {v : V} {O : List Addr} (fo : ∀ a ∈ O, ∀ o, H a = some o → H' a = some o) (h : Kr E L H k x v O) : Kr E L' H' k x v O := by
  have f1 : ∀ a o, H a = some o → ¬ av E L true true a → H' a = some o := fun a o e n => st a o e (fun z => n (.inl z)) fun z => n (.inr (.inr ⟨rfl, z⟩))
  have f2 : ∀ a o, H a = some o → ¬ av E L false true a → H' a = some o := fun a o e n => st a o e (fun z => n (.inl z)) fun z => n (.inr (.inr ⟨rfl, z⟩))
  have g : ∀ {b : Bool} a, av E L' b true a → H a ≠ none → av E L b true a := fun {b} a z n => by
    rcases z with z | z | ⟨_, z⟩
    · exact .inl z
    · exact .inr (.inl z)
    · exact (ls a z).elim (fun z => .inr (.inr ⟨rfl, z⟩)) fun z => absurd z n
  cases k with
  | sh => exact ⟨h.1, h.2.mv f1 ft g⟩
  | bor => exact ⟨h.1, h.2.mv f2 ft g⟩
  | own => obtain ⟨a, e1, rfl, h⟩ := h; exact ⟨a, e1, rfl, h.mv f1 ft g (fo a (by simp))⟩
  | own2 =>
    obtain ⟨a, xs, as, e1, rfl, e2, h1, h2⟩ := h
    exact ⟨a, xs, as, e1, rfl, e2, fo a (by simp) _ h1, h2.mv f1 ft g fun b m => fo b (by simp [m])⟩
  | slf => obtain ⟨a, e1, rfl, e2, h⟩ := h; exact ⟨a, e1, rfl, e2, h.mv f1 ft g (fo a (by simp))⟩
  | slfD fl =>
    obtain ⟨a, b, c, fs, ws, dx, y, e1, rfl, e2, h1, h2, h3, h4, h5, h6⟩ := h
    exact ⟨a, b, c, fs, ws, dx, y, e1, rfl, e2, fo a (by simp) _ h1, h2, h3, h4, h5.mv f1 ft g (fo b (by simp)), h6.mv f1 ft g⟩
  | tt =>
    obtain ⟨e0, a, xs, vs, e1, e2, h1, h2⟩ := h
    exact ⟨e0, a, xs, vs, e1, e2, ft a vs h1, h2.mv f1 ft g⟩
  | deep => exact RpO.mv f1 ft g fo h
  | exc a d f =>
    obtain ⟨e0, e1, e2, h⟩ := h
    refine ⟨e0, e1, e2, fun b e => ?_⟩
    obtain ⟨n, u, h1, h2⟩ := h b e
    exact ⟨fun z => n (g b z (by rw [h1]; exact nofun)), u, f1 b _ h1 n, h2.mv f1 ft g⟩
  | fz =>
    obtain ⟨e0, a, od, kvs, ws, e1, e2, n, h1, h2, h3⟩ := h
    exact ⟨e0, a, od, kvs, ws, e1, e2, fun z => n (g a z (by rw [h1]; exact nofun)), f2 a _ h1 n, h2, h3.mv f2 ft g⟩
variable {ks : List Kd} {γ : G} {σ : St}
theorem Rel.lq (R : Rel E L ks γ σ H) {a : Addr} (h : a ∈ L) : a ≠ E.B.q := fun z => R.a0 _ R.aq (by rw [← z]; exact (R.lf a h).1)
theorem Rel.ex (R : Rel E L ks γ σ H) (e : Ex E.B H H') : Rel E L ks γ σ H' where
  old := fun a o h n => e.st a o (R.old a o h n) n
  onn := fun a h => e.nn a (R.onn a h)
  bag := e.bg R.bag
  a0 := R.a0
  aq := R.aq
  ar := R.ar
  lf := fun a h => ⟨(R.lf a h).1, e.nn a (R.lf a h).2⟩
  len := R.len
  sl := by
    obtain ⟨O, h1, h2, h3, h4⟩ := R.sl
    refine ⟨O, fun i x hx => ?_, h2, h3, h4⟩
    obtain ⟨v, hv, k⟩ := h1 i x hx
    exact ⟨v, hv, k.mv (fun a o e1 n _ => e.st a o e1 n) e.tp (fun a z => .inl z) fun a m o e1 => e.st a o e1 (R.lq (h2 i a m))⟩
end
/-- how the heap goes on behind a statement -/
structure Fw (B : Bg) (L : List Addr) (H : Hp) (L' : List Addr) (H' : Hp) : Prop where
  st : ∀ a o, H a = some o → a ∉ L → a ≠ B.q → H' a = some o
  tp : ∀ a vs, H a = some (.tup vs) → H' a = some (.tup vs)
  nn : ∀ a, H a ≠ none → H' a ≠ none
  ls : ∀ a ∈ L', a ∈ L ∨ H a = none
theorem Fw.refl (B : Bg) (L : List Addr) (H : Hp) : Fw B L H L H := ⟨fun _ _ h _ _ => h, fun _ _ h => h, fun _ h => h, fun _ h => .inl h⟩
theorem Fw.trans {B : Bg} {L L1 L2 : List Addr} {H H1 H2 : Hp} (a : Fw B L H L1 H1) (b : Fw B L1 H1 L2 H2) : Fw B L H L2 H2 where
  st := fun c o h n m => b.st c o (a.st c o h n m) (fun z => (a.ls c z).elim n fun e => by rw [h] at e; cases e) m
  tp := fun c v h => b.tp c v (a.tp c v h)
  nn := fun c h => b.nn c (a.nn c h)
  ls := fun c h => (b.ls c h).elim (fun z => a.ls c z) fun e => .inr (by
    cases q : H c with
    | none => rfl
    | some o => exact absurd e (a.nn c (by rw [q]; exact nofun)))
theorem Ex.fw {B : Bg} {L : List Addr} {H H' : Hp} (e : Ex B H H') : Fw B L H L H' := ⟨fun a o h _ n => e.st a o h n, e.tp, e.nn, fun _ h => .inl h⟩
/-- a value that keeps off the own objects stands behind a statement -/
theorem Rp.fw {E : Ac} {L L' : List Addr} {H H' : Hp} {a : Bool} {x : PV} {v : V} (h : Rp E.B (av E L a true) H x v) (f : Fw E.B L H L' H') : Rp E.B (av E L' a true) H' x v :=
  h.mv (fun b o e n => f.st b o e (fun z => n (.inr (.inr ⟨rfl, z⟩))) fun z => n (.inl z)) f.tp fun b z n => by
    rcases z with z | z | ⟨_, z⟩
    · exact .inl z
    · exact .inr (.inl z)
    · exact (f.ls b z).elim (fun z => .inr (.inr ⟨rfl, z⟩)) fun z => absurd z n
theorem RpL.fw {E : Ac} {L L' : List Addr} {H H' : Hp} {a : Bool} {x : List PV} {v : List V} (h : RpL E.B (av E L a true) H x v) (f : Fw E.B L H L' H') : RpL E.B (av E L' a true) H' x v :=
  h.mv (fun b o e n => f.st b o e (fun z => n (.inr (.inr ⟨rfl, z⟩))) fun z => n (.inl z)) f.tp fun b z n => by
    rcases z with z | z | ⟨_, z⟩
    · exact .inl z
    · exact .inr (.inl z)
    · exact (f.ls b z).elim (fun z => .inr (.inr ⟨rfl, z⟩)) fun z => absurd z n
abbrev GE := G → (PV → Prop) → Prop
abbrev GT := G → (Bool → Prop) → Prop
abbrev GA := G → (List PV → Prop) → Prop
structure GD where
  nx : G → Prop
  rt : PV → G → Prop
  bk : G → Prop
  ct : G → Prop
abbrev GS := GD → G → Prop
def tE (K : Fg) (ks : List Kd) (a s : Bool) (p : GE) : TE := fun σ H Q => ∃ (E : Ac) (L : List Addr) (γ : G) (Qp : PV → Prop), E.B.K = K ∧ Rel E L ks γ σ H ∧ p γ Qp ∧
  ∀ x v H', Qp x → Ex E.B H H' → Rp E.B (av E L a s) H' x v → Q v H'
def tT (K : Fg) (ks : List Kd) (p : GT) : TT := fun σ H Q => ∃ (E : Ac) (L : List Addr) (γ : G) (Qp : Bool → Prop), E.B.K = K ∧ Rel E L ks γ σ H ∧ p γ Qp ∧
  ∀ b H', Qp b → Ex E.B H H' → Q b H'
def tA (K : Fg) (ks : List Kd) (a s : Bool) (n : Nat) (p : GA) : TA := fun σ H Q => ∃ (E : Ac) (L : List Addr) (γ : G) (Qp : List PV → Prop), E.B.K = K ∧ Rel E L ks γ σ H ∧ p γ Qp ∧
  ∀ x v H', Qp x → Ex E.B H H' → RpL E.B (av E L a s) H' x v → x.length = n → Q v H'
/-- a new list or dict, which nobody else holds -/
def tN (K : Fg) (ks : List Kd) (p : GE) : TE := fun σ H Q => ∃ (E : Ac) (L : List Addr) (γ : G) (Qp : PV → Prop), E.B.K = K ∧ Rel E L ks γ σ H ∧ p γ Qp ∧
  ∀ x a H', Qp x → Ex E.B H H' → H a = none → Ob E.B (fun b => av E L true true b ∨ b = a) H' a x → Q (.ref a) H'
/-- what is told back -/
def RtOk (E : Ac) (x : PV) (v : V) (H' : Hp) : Prop := Rp E.B E.A0 H' x v ∧ (∀ a o, E.H0 a = some o → a ≠ E.B.q → H' a = some o) ∧ (∀ a, E.H0 a ≠ none → H' a ≠ none) ∧ BagOk E.B H'
def tS (K : Fg) (ks ks' kl : List Kd) (p : GS) : TS := fun D σ H => ∃ (E : Ac) (L : List Addr) (γ : G) (Dp : GD), E.B.K = K ∧ Rel E L ks γ σ H ∧ p Dp γ ∧
  (∀ L' γ' σ' H', Fw E.B L H L' H' → Rel E L' ks' γ' σ' H' → Dp.nx γ' → D.nx σ' H') ∧ (∀ x γ' v H', RtOk E x v H' → Dp.rt x γ' → D.rt v H') ∧
  (∀ L' γ' σ' H', Fw E.B L H L' H' → Rel E L' kl γ' σ' H' → Dp.bk γ' → D.bk σ' H') ∧ (∀ L' γ' σ' H', Fw E.B L H L' H' → Rel E L' kl γ' σ' H' → Dp.ct γ' → D.ct σ' H')
section
variable {X : Cx} {e : Expr} {es : List Expr} {st : Stmt} {sts : List Stmt}
theorem PEi {t t' : TE} (h : PE X e t) (i : ∀ σ H Q, t' σ H Q → t σ H Q) : PE X e t' := ⟨fun pins s σ H Q I q => h.run pins s σ H Q I (i _ _ _ q)⟩
theorem PTi {t t' : TT} (h : PT X e t) (i : ∀ σ H Q, t' σ H Q → t σ H Q) : PT X e t' := ⟨fun pins s σ H Q I q => h.run pins s σ H Q I (i _ _ _ q)⟩
theorem PWi {t t' : TT} (h : PW X e t) (i : ∀ σ H Q, t' σ H Q → t σ H Q) : PW X e t' := ⟨fun w pins s σ H Q I q => h.run w pins s σ H Q I (i _ _ _ q)⟩
theorem PAi {t t' : TA} (h : PA X es t) (i : ∀ σ H Q, t' σ H Q → t σ H Q) : PA X es t' := ⟨fun pos pins s σ H Q I q => h.run pos pins s σ H Q I (i _ _ _ q)⟩
theorem PSi {t t' : TS} (h : PS X st t) (i : ∀ D σ H, t' D σ H → t D σ H) : PS X st t' := ⟨fun pins s σ H D I q => h.run pins s σ H D I (i _ _ _ q)⟩
theorem PSsi {t t' : TS} (h : PSs X sts t) (i : ∀ D σ H, t' D σ H → t D σ H) : PSs X sts t' := ⟨fun pins s σ H D I q => h.run pins s σ H D I (i _ _ _ q)⟩
end
abbrev QE (X : Cx) (ks : List Kd) (a s : Bool) (e : Expr) (p : GE) : Prop := PE X e (tE X.K ks a s p)
abbrev QN (X : Cx) (ks : List Kd) (e : Expr) (p : GE) : Prop := PE X e (tN X.K ks p)
abbrev QT (X : Cx) (ks : List Kd) (e : Expr) (p : GT) : Prop := PT X e (tT X.K ks p)
abbrev QW (X : Cx) (ks : List Kd) (e : Expr) (p : GT) : Prop := PW X e (tT X.K ks p)
abbrev QA (X : Cx) (ks : List Kd) (a s : Bool) (es : List Expr) (p : GA) : Prop := PA X es (tA X.K ks a s es.length p)
abbrev QS (X : Cx) (ks ks' kl : List Kd) (st : Stmt) (p : GS) : Prop := PS X st (tS X.K ks ks' kl p)
abbrev QB (X : Cx) (ks ks' kl : List Kd) (sts : List Stmt) (p : GS) : Prop := PSs X sts (tS X.K ks ks' kl p)
def getO : Option PV → (PV → Prop) → Prop
  | some x, Q => Q x
  | none, _ => False
def getS (γ : G) : Nat → (PV → Prop) → Prop :=
  List.rec (motive := fun _ => Nat → (PV → Prop) → Prop) (fun _ _ => False) (fun a _ ih i Q => Nat.rec (motive := fun _ => Prop) (getO a Q) (fun i _ => ih i Q) i) γ
theorem getS_of : ∀ {γ : G} {i : Nat} {Q : PV → Prop}, getS γ i Q → ∃ x, γ[i]? = some (some x) ∧ Q x
  | [], _, _, h => False.elim h
  | some x :: _, 0, _, h => ⟨x, rfl, h⟩
  | none :: _, 0, _, h => False.elim h
  | none :: l, i + 1, _, h => by simpa using getS_of (γ := l) (i := i) h
  | some _ :: l, i + 1, _, h => by simpa using getS_of (γ := l) (i := i) h
def pVar (i : Nat) : GE := fun γ Q => getS γ i Q
def pC (x : PV) : GE := fun _ Q => Q x
def pOp (o : PV → PV → (PV → Prop) → Prop) (a b : GE) : GE := fun γ Q => a γ fun x => b γ fun y => o x y Q
def pNil : GA := fun _ Q => Q []
def pCons (a : GE) (t : GA) : GA := fun γ Q => a γ fun x => t γ fun xs => Q (x :: xs)
def pCB (o : List PV → (PV → Prop) → Prop) (t : GA) : GE := fun γ Q => t γ fun xs => o xs Q
def pTest (a : GE) : GT := fun γ Q => a γ fun x => match x with | .bl b => Q b | _ => False
def truP : PV → (Bool → Prop) → Prop
  | .non, Q => Q false
  | .bl b, Q => Q b
  | .int i, Q => Q (i != 0)
  | .str x, Q => x.length ≤ sizeLine ∧ Q ((x.length : Int) != 0)
  | .lst xs, Q => Q (!xs.isEmpty)
  | .tup xs, Q => Q (!xs.isEmpty)
  | _, _ => False
def pTru (a : GE) : GT := fun γ Q => a γ fun x => truP x Q
/-- one of two, by a truth -/
def bfi (c : Bool) (A B : Prop) : Prop := match c with
  | true => A
  | false => B
def pAnd (t u : GT) : GT := fun γ Q => t γ fun c => bfi c (u γ Q) (Q false)
def pOr (t u : GT) : GT := fun γ Q => t γ fun c => bfi c (Q true) (u γ Q)
def pNot (t : GT) : GT := fun γ Q => t γ fun c => Q (!c)
def pAndV (a b : GE) : GE := fun γ Q => a γ fun x => truP x fun k => bfi k (b γ Q) (Q x)
def pIfE (t : GT) (a b : GE) : GE := fun γ Q => t γ fun c => bfi c (a γ Q) (b γ Q)
section
variable {X : Cx} {ks : List Kd} {a s a' s' : Bool} {e e1 e2 : Expr} {es : List Expr} {p p1 p2 : GE} {pa : GA} {pt pt1 pt2 : GT} {pos : Pos}
theorem qe_c {x : PV} {v : V} (h : PE X e (tC v)) (r : ∀ (q r : Addr) (A : Addr → Prop) (H : Hp), Rp ⟨X.K, q, r⟩ A H x v) : QE X ks true true e (pC x) :=
  PEi h fun σ H Q ⟨E, L, γ, Qp, hK, R, hp, k⟩ => k x v H hp (.refl _ _) (by
    have := r E.B.q E.B.r (av E L true true) H
    rw [← hK] at this; exact this)
end
end Vl
namespace Vl
open PySem PySem.Spec L2 Lb
/-- what a slot's value keeps off -/
def Kd.ka : Kd → Bool
  | .bor => false
  | _ => true
def Kd.kb : Kd → Bool
  | .sh => true
  | .bor => true
  | .tt => true
  | _ => false
/-- a slot that may be read as a value -/
def Kd.vis : Kd → Bool
  | .exc .. => false
  | .fz => false
  | _ => true
section
variable {X : Cx} {ks : List Kd} {a s a1 s1 a2 s2 : Bool} {e e1 e2 e3 : Expr} {es : List Expr} {p p1 p2 p3 : GE} {pa : GA} {pt pt1 pt2 : GT} {pos : Pos}
theorem qe_int {i : Int} {j} : QE X ks true true (.Constant (.int i) j pos) (pC (.int i)) := qe_c pe_int fun _ _ _ _ => .int i
theorem qe_str {x : Str} {j} : QE X ks true true (.Constant (.str x) j pos) (pC (.str x)) := qe_c pe_str fun _ _ _ _ => .str x
theorem qe_bl {b : Bool} {j} : QE X ks true true (.Constant (.bool b) j pos) (pC (.bl b)) := qe_c pe_bl fun _ _ _ _ => .bl b
theorem qe_non {j} : QE X ks true true (.Constant .none j pos) (pC .non) := qe_c pe_non fun _ _ _ _ => .non
theorem Ob.rp {E : Ac} {L : List Addr} {H : Hp} {A : Addr → Prop} {b : Addr} {x : PV} (h : Ob E.B A H b x) (n : ¬ av E L true false b) (g : ∀ c, av E L true false c → A c) : Rp E.B (av E L true false) H x (.ref b) := by
  cases x with
  | lst xs => obtain ⟨vs, h1, h2⟩ := h; exact .lst n h1 (h2.anti g)
  | dT kvs => obtain ⟨ws, h1, h2, h3⟩ := h; exact .dT n h1 h2 rfl rfl rfl (h3.anti g)
  | dK kvs => obtain ⟨ws, h1, h2, h3⟩ := h; exact .dK n h1 h2 rfl rfl rfl (h3.anti g)
  | ins c fs => obtain ⟨dx, ws, h1, h2, h3⟩ := h; exact .ins n h1 h2 rfl (h3.anti g)
  | _ => exact h.elim
theorem Obs.rp {E : Ac} {L : List Addr} {H : Hp} {A : Addr → Prop} (g : ∀ c, av E L true false c → A c) : ∀ {xs : List PV} {as : List Addr}, (∀ b ∈ as, ¬ av E L true false b) → Obs E.B A H xs as → RpL E.B (av E L true false) H xs (as.map V.ref)
  | _, _, _, .nil => .nil
  | _, _, n, .cons h t => .cons (h.rp (n _ (by simp)) g) (Obs.rp g (fun b m => n b (by simp [m])) t)
theorem RpL.unset {B : Bg} {A : Addr → Prop} {H : Hp} : ∀ {xs : List PV} {vs : List V} {j : Nat} {x : PV} {v : V}, xs[j]? = some x → vs[j]? = some v → RpL B A H (xs.set j .non) (vs.set j .non) → Rp B A H x v → RpL B A H xs vs
  | [], _, _, _, _, e, _, _, _ => by simp at e
  | _ :: _, [], _, _, _, _, e, _, _ => by simp at e
  | y :: ys, w :: ws, 0, x, v, e1, e2, h, r => by
    simp at e1 e2; subst e1; subst e2
    cases h with
    | cons _ t => exact .cons r t
  | y :: ys, w :: ws, j + 1, x, v, e1, e2, h, r => by
    cases h with
    | cons q t => exact .cons q (RpL.unset (by simpa using e1) (by simpa using e2) t r)
theorem Rel.noA {E : Ac} {L : List Addr} {γ : G} {σ : St} {H : Hp} (R : Rel E L ks γ σ H) {b : Addr} (h : b ∈ L) : ¬ av E L true false b := by
  rintro (z | ⟨_, z⟩ | ⟨z, _⟩)
  · exact R.lq h z
  · exact R.a0 b z (R.lf b h).1
  · cases z
mutual
theorem RpO.rp {B : Bg} {A A' : Addr → Prop} {H : Hp} (g : ∀ c, A' c → A c) : ∀ {x : PV} {v : V} {O : List Addr}, (∀ b ∈ O, ¬ A' b) → RpO B A H x v O → Rp B A' H x v
  | _, _, _, _, .imm e r => r.im e
  | _, _, _, n, .lst h r => .lst (n _ (by simp)) h (RpOL.rp g (fun b m => n b (by simp [m])) r)
  | _, _, _, n, .tup h r => .tup h (RpOL.rp g n r)
theorem RpOL.rp {B : Bg} {A A' : Addr → Prop} {H : Hp} (g : ∀ c, A' c → A c) : ∀ {x : List PV} {v : List V} {O : List Addr}, (∀ b ∈ O, ¬ A' b) → RpOL B A H x v O → RpL B A' H x v
  | _, _, _, _, .nil => .nil
  | _, _, _, n, .cons h r => .cons (RpO.rp g (fun b m => n b (by simp [m])) h) (RpOL.rp g (fun b m => n b (by simp [m])) r)
end
/-- a slot read -/
theorem Rel.read {E : Ac} {L : List Addr} {γ : G} {σ : St} {H : Hp} {i : Nat} {x : PV} (R : Rel E L ks γ σ H) (h : γ[i]? = some (some x)) (hs : (kd ks i).vis = true) : ∃ v, σ[i]? = some (some v) ∧ Rp E.B (av E L (kd ks i).ka (kd ks i).kb) H x v := by
  obtain ⟨O, h1, h2, h3, h4⟩ := R.sl
  obtain ⟨v, hv, k⟩ := h1 i x h
  refine ⟨v, hv, ?_⟩
  have g : ∀ c, av E L true false c → av E L true true c := fun c z => av_mono (a' := true) (s' := false) id (fun _ => rfl) z
  have m := h2 i
  generalize kd ks i = kk at k hs
  generalize O i = oo at k m
  cases kk with
  | sh => exact k.2
  | bor => exact k.2
  | own => obtain ⟨b, rfl, rfl, k⟩ := k; exact k.rp (R.noA (m b (by simp))) g
  | own2 =>
    obtain ⟨b, xs, as, rfl, rfl, rfl, k1, k2⟩ := k
    exact .lst (R.noA (m b (by simp))) k1 (k2.rp g fun c z => R.noA (m c (by simp [z])))
  | slf => obtain ⟨b, rfl, rfl, _, k⟩ := k; exact k.rp (R.noA (m b (by simp))) g
  | slfD j =>
    obtain ⟨b, c, cl, fs, ws, dx, y, rfl, rfl, ⟨rfl, _⟩, k1, k2, k3, k4, k5, k6⟩ := k
    exact .ins (R.noA (m b (by simp))) k1 k2 rfl (RpL.unset k3 k4 (k6.anti g) (k5.rp (R.noA (m c (by simp))) g))
  | tt =>
    obtain ⟨rfl, b, xs, vs, rfl, rfl, k1, k2⟩ := k
    exact .tup (.inl k1) k2
  | deep => exact RpO.rp g (fun b hb => R.noA (m b hb)) k
  | exc a d f => cases hs
  | fz => cases hs
theorem qe_v (i : Nat) (h : PE X e (tVar i)) (ha : a = (kd ks i).ka := by rfl) (hb : s = (kd ks i).kb := by rfl) (hv : (kd ks i).vis = true := by rfl) : QE X ks a s e (pVar i) := by
  subst ha hb
  exact PEi h fun σ H Q ⟨E, L, γ, Qp, hK, R, hp, k⟩ => by
    obtain ⟨x, hx, q⟩ := getS_of hp
    obtain ⟨v, hv, r⟩ := R.read hx (by assumption)
    exact ⟨v, hv, k x v H q (.refl _ _) r⟩
abbrev PO2 := PV → PV → (PV → Prop) → Prop
/-- r answers as o says, whatever the operands keep off, and tells a value of the same care -/
def OpP (K : Fg) (r : R2) (o : PO2) : Prop := ∀ (B : Bg) (A : Addr → Prop) (H : Hp) (x y : PV) (v u : V) (Q : VK) (Qp : PV → Prop), B.K = K → A B.q → (∀ b, A b → H b ≠ none) → Rp B A H x v → Rp B A H y u → o x y Qp →
  (∀ z t H', Qp z → Ex B H H' → Rp B A H' z t → Q t H') → r v u H Q
theorem av_nn {E : Ac} {L : List Addr} {γ : G} {σ : St} {H : Hp} (R : Rel E L ks γ σ H) {a s : Bool} {b : Addr} (h : av E L a s b) : H b ≠ none := by
  rcases h with h | ⟨_, h⟩ | ⟨_, h⟩
  · rw [h]; exact R.bag.q
  · exact R.onn b (R.a0 b h)
  · exact (R.lf b h).2
theorem qe_op2 {r : R2} {o : PO2} (ho : OpP X.K r o) {e : Expr} (pe : ∀ {ta tb : TE}, PE X e1 ta → PE X e2 tb → PE X e (tOp r ta tb)) (h1 : QE X ks a1 s1 e1 p1) (h2 : QE X ks a2 s2 e2 p2) : QE X ks (a1 && a2) (s1 && s2) e (pOp o p1 p2) :=
  PEi (pe h1 h2) fun σ H Q ⟨E, L, γ, Qp, hK, R, hp, k⟩ => by
    refine ⟨E, L, γ, _, hK, R, hp, fun x v H1 q1 x1 r1 => ⟨E, L, γ, _, hK, R.ex x1, q1, fun y u H2 q2 x2 r2 => ?_⟩⟩
    refine ho E.B (av E L (a1 && a2) (s1 && s2)) H2 x y v u Q Qp hK av_q (fun b z => av_nn ((R.ex x1).ex x2) z) ((r1.ex x2 av_q).anti fun c z => av_mono (fun z => (Bool.and_eq_true _ _ ▸ z).1) (fun z => (Bool.and_eq_true _ _ ▸ z).1) z)
      (r2.anti fun c z => av_mono (fun z => (Bool.and_eq_true _ _ ▸ z).2) (fun z => (Bool.and_eq_true _ _ ▸ z).2) z) q2 fun z t H' qz x3 rz => k z t H' qz (x1.trans (x2.trans x3)) rz
/-- an answer without parts that change -/
def OpS (K : Fg) (r : R2) (o : PO2) : Prop := ∀ (B : Bg) (H : Hp) (x y : PV) (v u : V) (Q : VK) (Qp : PV → Prop), B.K = K → Rp B (fun b => b = B.q) H x v → Rp B (fun b => b = B.q) H y u → o x y Qp →
  (∀ z t H', Qp z → Ex B H H' → (∀ A, Rp B A H' z t) → Q t H') → r v u H Q
theorem Rp.q {E : Ac} {L : List Addr} {a s : Bool} {H : Hp} {x : PV} {v : V} (h : Rp E.B (av E L a s) H x v) : Rp E.B (fun b => b = E.B.q) H x v := h.anti fun c z => .inl z
theorem RpL.q {E : Ac} {L : List Addr} {a s : Bool} {H : Hp} {x : List PV} {v : List V} (h : RpL E.B (av E L a s) H x v) : RpL E.B (fun b => b = E.B.q) H x v := h.anti fun c z => .inl z
theorem qe_opS {r : R2} {o : PO2} (ho : OpS X.K r o) {e : Expr} (pe : ∀ {ta tb : TE}, PE X e1 ta → PE X e2 tb → PE X e (tOp r ta tb)) (h1 : QE X ks a1 s1 e1 p1) (h2 : QE X ks a2 s2 e2 p2) : QE X ks true true e (pOp o p1 p2) :=
  PEi (pe h1 h2) fun σ H Q ⟨E, L, γ, Qp, hK, R, hp, k⟩ => by
    refine ⟨E, L, γ, _, hK, R, hp, fun x v H1 q1 x1 r1 => ⟨E, L, γ, _, hK, R.ex x1, q1, fun y u H2 q2 x2 r2 => ?_⟩⟩
    exact ho E.B H2 x y v u Q Qp hK (r1.ex x2 av_q).q r2.q q2 fun z t H' qz x3 rz => k z t H' qz (x1.trans (x2.trans x3)) (rz _)
theorem qt_opS {r : R2} {o : PO2} (ho : OpS X.K r o) {e : Expr} (pe : ∀ {ta tb : TE}, PE X e1 ta → PE X e2 tb → PT X e (tTest (tOp r ta tb))) (h1 : QE X ks a1 s1 e1 p1) (h2 : QE X ks a2 s2 e2 p2) : QT X ks e (pTest (pOp o p1 p2)) :=
  PTi (pe h1 h2) fun σ H Q ⟨E, L, γ, Qp, hK, R, hp, k⟩ => by
    refine ⟨E, L, γ, _, hK, R, hp, fun x v H1 q1 x1 r1 => ⟨E, L, γ, _, hK, R.ex x1, q1, fun y u H2 q2 x2 r2 => ?_⟩⟩
    refine ho E.B H2 x y v u _ _ hK (r1.ex x2 av_q).q r2.q q2 fun z t H' qz x3 rz => ?_
    have := rz fun _ => False
    cases this <;> first | exact ⟨_, rfl, k _ H' qz (x1.trans (x2.trans x3))⟩ | exact qz.elim
def oAdd : PO2
  | .int i, .int j, Q => Q (.int (i + j))
  | .str x, .str y, Q => x.length + y.length ≤ sizeLine ∧ Q (.str (x ++ y))
  | .lst xs, .lst ys, Q => xs.length + ys.length ≤ sizeLine ∧ Q (.lst (xs ++ ys))
  | .tup xs, .tup ys, Q => xs ≠ [] ∧ xs.length + ys.length ≤ sizeLine ∧ Q (.tup (xs ++ ys))
  | _, _, _ => False
def rAddV (K : Fg) : R2 := fun x y H Q => rAddA x y H Q ∨ rCatT K x y H Q
theorem op_addV : OpR X (binaryOp .Add) (rAddV X.K) := OpR.or op_addA op_catT
theorem RpL.nil_iff {B : Bg} {A : Addr → Prop} {H : Hp} {x : List PV} {v : List V} (h : RpL B A H x v) : x = [] ↔ v = [] := by cases h <;> simp
theorem Rp.new {B : Bg} {A : Addr → Prop} {H : Hp} {x : List PV} {v : List V} {p : Addr} (h : RpL B A H x v) (aq : A B.q) (n : H p = none) (nn : ∀ b, A b → H b ≠ none) : Rp B A (upd H p (.lst v)) (.lst x) (.ref p) :=
  .lst (fun z => nn p z n) upd_same (h.ex (.new n) aq)
theorem Rp.newT {B : Bg} {A : Addr → Prop} {H : Hp} {x : List PV} {v : List V} {p : Addr} (h : RpL B A H x v) (aq : A B.q) (n : H p = none) : Rp B A (upd H p (.tup v)) (.tup x) (.ref p) :=
  .tup (.inl upd_same) (h.ex (.new n) aq)
theorem add_ok {K : Fg} : OpP K (rAddV K) oAdd := by
  intro B A H x y v u Q Qp hK aq nn rx ry h k
  cases rx <;> cases ry <;> first | exact (h : False).elim | skip
  · exact .inl (.inl ⟨_, _, rfl, rfl, k _ _ H h (.refl _ _) (.int _)⟩)
  · exact .inl (.inr (.inl ⟨_, _, rfl, rfl, h.1, k _ _ H h.2 (.refl _ _) (.str _)⟩))
  · rename_i b vs xs n1 h1 r1 c ws ys n2 h2 r2
    exact .inl (.inr (.inr ⟨_, _, _, _, rfl, rfl, h1, h2, by rw [← r1.length, ← r2.length]; exact h.1, fun p np => k _ _ _ h.2 (.new np) (Rp.new (r1.append r2) aq np nn)⟩))
  · rename_i b vs xs h1 r1 c ws ys h2 r2
    subst hK
    refine .inr ⟨_, _, _, _, rfl, rfl, h1.sq, h2.sq, fun z => h.1 (r1.nil_iff.mpr z), by rw [← r1.length, ← r2.length]; exact h.2.1, fun z => ?_, fun z p np => k _ _ _ h.2.2 (.new np) (Rp.newT (r1.append r2) aq np)⟩
    subst z
    cases r2
    have := h.2.2
    rw [List.append_nil] at this
    exact k _ _ H this (.refl _ _) (.tup h1 r1)
def oI (f : Int → Int → PV) : PO2
  | .int i, .int j, Q => Q (f i j)
  | _, _, _ => False
def flat1 : PV → Bool
  | .non => true
  | .bl _ => true
  | .int _ => true
  | .str _ => true
  | _ => false
theorem oi_ok {K : Fg} {f : Int → Int → V} {g : Int → Int → PV} (h : ∀ i j (B : Bg) A H, Rp B A H (g i j) (f i j)) : OpS K (rI0 f) (oI g) := by
  intro B H x y v u Q Qp hK rx ry q k
  cases rx <;> cases ry <;> first | exact (q : False).elim | skip
  exact ⟨_, _, rfl, rfl, k _ _ H q (.refl _ _) fun A => h _ _ _ _ _⟩
theorem OpS.cg {K : Fg} {r : R2} {o o' : PO2} (h : OpS K r o) (i : ∀ x y Q, o' x y Q → o x y Q) : OpS K r o' := fun B H x y v u Q Qp hK rx ry q k => h B H x y v u Q Qp hK rx ry (i _ _ _ q) k
def oMul : PO2
  | .int i, .int j, Q => CMul i j ∧ Q (.int (i * j))
  | .lst xs, .int k, Q => (-(2 ^ 63) ≤ k ∧ k < 2 ^ 63 ∧ xs.length * k.toNat ≤ sizeLine) ∧ Q (.lst (List.replicate k.toNat xs).flatten)
  | .str x, .int k, Q => MulOk x k ∧ Q (.str (Txt.mul x k))
  | _, _, _ => False
def rMulS : R2 := fun x y H Q => ∃ i n, x = .str i ∧ y = .int n ∧ MulOk i n ∧ Q (.str (Txt.mul i n)) H
theorem op_mulS : OpR X (binaryOp .Mult) rMulS := by
  intro pins s σ H x y v u Q I rx ry h
  obtain ⟨i, j, rfl, rfl, hz, q⟩ := h
  obtain ⟨t, rfl⟩ := rx
  obtain ⟨t', rfl⟩ := ry
  exact SB.mul hz fun t' tk => ⟨.str _, H, I.tok _, ⟨_, rfl⟩, q⟩
def rMulV : R2 := fun x y H Q => rMulA x y H Q ∨ rMulS x y H Q
theorem op_mulV : OpR X (binaryOp .Mult) rMulV := OpR.or op_mulA op_mulS
theorem RpL.flat {B : Bg} {A : Addr → Prop} {H : Hp} {x : List PV} {v : List V} (h : RpL B A H x v) : ∀ n, RpL B A H (List.replicate n x).flatten (List.replicate n v).flatten
  | 0 => .nil
  | n + 1 => by rw [List.replicate_succ, List.replicate_succ, List.flatten_cons, List.flatten_cons]; exact h.append (RpL.flat h n)
theorem mul_ok {K : Fg} : OpP K rMulV oMul := by
  intro B A H x y v u Q Qp hK aq nn rx ry h k
  cases rx <;> cases ry <;> first | exact (h : False).elim | skip
  · exact .inl (.inl ⟨_, _, rfl, rfl, h.1, k _ _ H h.2 (.refl _ _) (.int _)⟩)
  · exact .inr ⟨_, _, rfl, rfl, h.1, k _ _ H h.2 (.refl _ _) (.str _)⟩
  · rename_i b vs xs n1 h1 r1 i
    refine .inl (.inr ?_)
    exact ⟨_, _, _, rfl, rfl, h1, h.1.1, h.1.2.1, by rw [← r1.length]; exact h.1.2.2, fun p np => k _ _ _ h.2 (.new np) (Rp.new (r1.flat _) aq np nn)⟩
def oLt : PO2
  | .int i, .int j, Q => Q (.bl (decide (i < j)))
  | .str i, .str j, Q => Q (.bl (decide (i.cps.toList < j.cps.toList)))
  | _, _, _ => False
def oLe : PO2
  | .int i, .int j, Q => Q (.bl (decide (i ≤ j)))
  | _, _, _ => False
def oGt : PO2
  | .int i, .int j, Q => Q (.bl (decide (j < i)))
  | _, _, _ => False
theorem lt_ok {K : Fg} : OpS K rLtA oLt := by
  intro B H x y v u Q Qp hK rx ry q k
  cases rx <;> cases ry <;> first | exact (q : False).elim | skip
  · exact .inl ⟨_, _, rfl, rfl, k _ _ H q (.refl _ _) fun A => .bl _⟩
  · exact .inr ⟨_, _, rfl, rfl, k _ _ H q (.refl _ _) fun A => .bl _⟩
theorem le_ok {K : Fg} : OpS K rLeA oLe := OpS.cg (o := oI fun i j => .bl (decide (i ≤ j))) (oi_ok fun _ _ _ _ _ => .bl _) fun x y Q h => by cases x <;> cases y <;> exact h
theorem gt_ok {K : Fg} : OpS K rGtA oGt := OpS.cg (o := oI fun i j => .bl (decide (j < i))) (oi_ok fun _ _ _ _ _ => .bl _) fun x y Q h => by cases x <;> cases y <;> exact h
end
mutual
def toD : PV → PyData
  | .non => .none
  | .bl b => .bool b
  | .int i => .int i
  | .str x => .str x
  | .lst xs => .list (toDs xs)
  | .tup xs => .tuple (toDs xs)
  | _ => .none
def toDs : List PV → List PyData
  | [] => []
  | x :: xs => toD x :: toDs xs
/-- plain data of small depth, with texts that stand -/
def dat : Nat → PV → Bool
  | _, .non => true
  | _, .bl _ => true
  | _, .int _ => true
  | _, .str x => PyData.canLay0 (.str x)
  | n + 1, .lst xs => dats n xs
  | n + 1, .tup xs => dats n xs
  | _, _ => false
def dats : Nat → List PV → Bool
  | _, [] => true
  | n, x :: xs => dat n x && dats n xs
end
mutual
theorem dat_dp {B : Bg} {A : Addr → Prop} {H : Hp} : ∀ {x : PV} {v : V} (n : Nat), Rp B A H x v → dat n x = true → Dp B.K H v (toD x)
  | _, _, _, .non, _ => by rw [toD]; exact .non
  | _, _, _, .bl b, _ => by rw [toD]; exact .bl b
  | _, _, _, .int i, _ => by rw [toD]; exact .int i
  | _, _, _, .str x, _ => by rw [toD]; exact .str x
  | _, _, n + 1, .lst _ h r, e => by rw [toD]; exact .lst (.inl (.inl h)) (dats_dp n r (by rw [dat] at e; exact e))
  | _, _, n + 1, .tup h r, e => by rw [toD]; exact .tup h.sq (dats_dp n r (by rw [dat] at e; exact e))
  | _, _, 0, .lst _ h r, e => by simp [dat] at e
  | _, _, 0, .tup h r, e => by simp [dat] at e
  | _, _, n, .ty _, e => by cases n <;> simp [dat] at e
  | _, _, n, .dK _ _ _ _ _ _ _, e => by cases n <;> simp [dat] at e
  | _, _, n, .dT _ _ _ _ _ _ _, e => by cases n <;> simp [dat] at e
  | _, _, n, .ins _ _ _ _ _, e => by cases n <;> simp [dat] at e
  | _, _, n, .cls _, e => by cases n <;> simp [dat] at e
  | _, _, n, .bag, e => by cases n <;> simp [dat] at e
theorem dats_dp {B : Bg} {A : Addr → Prop} {H : Hp} : ∀ {x : List PV} {v : List V} (n : Nat), RpL B A H x v → dats n x = true → DpAll B.K H v (toDs x)
  | _, _, _, .nil, _ => by rw [toDs]; exact .nil
  | _, _, n, .cons a b, e => by
    rw [dats, Bool.and_eq_true] at e
    rw [toDs]; exact .cons (dat_dp n a e.1) (dats_dp n b e.2)
end
mutual
theorem dat_lay : ∀ (n : Nat) (x : PV), dat n x = true → PyData.canLay0 (toD x) = true ∧ PyData.depth (toD x) ≤ n
  | n, .non, _ => by cases n <;> simp [toD, PyData.canLay0, PyData.depth]
  | n, .bl b, _ => by cases n <;> simp [toD, PyData.canLay0, PyData.depth]
  | n, .int i, _ => by cases n <;> simp [toD, PyData.canLay0, PyData.depth]
  | n, .str x, e => by cases n <;> (simp only [dat] at e; simp [toD, PyData.depth, e])
  | n + 1, .lst xs, e => by
    have := dats_lay n xs (by rw [dat] at e; exact e)
    simp [toD, PyData.canLay0, PyData.depth]; exact ⟨this.1, by omega⟩
  | n + 1, .tup xs, e => by
    have := dats_lay n xs (by rw [dat] at e; exact e)
    simp [toD, PyData.canLay0, PyData.depth]; exact ⟨this.1, by omega⟩
  | 0, .lst _, e => by simp [dat] at e
  | 0, .tup _, e => by simp [dat] at e
  | n, .ty _, e => by cases n <;> simp [dat] at e
  | n, .dK _, e => by cases n <;> simp [dat] at e
  | n, .dT _, e => by cases n <;> simp [dat] at e
  | n, .ins _ _, e => by cases n <;> simp [dat] at e
  | n, .cls _, e => by cases n <;> simp [dat] at e
  | n, .bag, e => by cases n <;> simp [dat] at e
theorem dats_lay : ∀ (n : Nat) (x : List PV), dats n x = true → PyData.canLayAll0 (toDs x) = true ∧ PyData.depthAll (toDs x) ≤ n
  | n, [], _ => by simp [toDs, PyData.canLayAll0, PyData.depthAll]
  | n, x :: xs, e => by
    rw [dats, Bool.and_eq_true] at e
    have h1 := dat_lay n x e.1
    have h2 := dats_lay n xs e.2
    simp [toDs, PyData.canLayAll0, PyData.depthAll, h1.1, h2.1]; omega
end
theorem dat_sh {x : PV} (h : dat 8 x = true) : SeqAt.shaped (toD x) = true := by
  have := dat_lay 8 x h
  simp only [SeqAt.shaped, this.1, Bool.true_and, decide_eq_true_eq]; omega
/-- equal as Python says, of data -/
def peq (x y : PV) : Bool := PyData.eqv (toD x) (toD y)
def oEq : PO2 := fun x y Q => dat 8 x = true ∧ dat 8 y = true ∧ Q (.bl (peq x y))
def oNe : PO2 := fun x y Q => dat 8 x = true ∧ dat 8 y = true ∧ Q (.bl (!peq x y))
theorem eq_ok {K : Fg} : OpS K (rEqA K) oEq := by
  intro B H x y v u Q Qp hK rx ry h k
  subst hK
  exact .inr ⟨_, _, dat_dp 8 rx h.1, dat_dp 8 ry h.2.1, dat_sh h.1, dat_sh h.2.1, k _ _ H h.2.2 (.refl _ _) fun A => .bl _⟩
theorem ne_ok {K : Fg} : OpS K (rNeA K) oNe := by
  intro B H x y v u Q Qp hK rx ry h k
  subst hK
  exact .inr ⟨_, _, dat_dp 8 rx h.1, dat_dp 8 ry h.2.1, dat_sh h.1, dat_sh h.2.1, k _ _ H h.2.2 (.refl _ _) fun A => .bl _⟩
end Vl
namespace Vl
open PySem PySem.Spec L2 Lb
section
variable {X : Cx} {ks : List Kd} {a s a1 s1 a2 s2 : Bool} {e e1 e2 e3 : Expr} {es : List Expr} {p p1 p2 p3 : GE} {pa : GA} {pt pt1 pt2 : GT} {pos : Pos}
theorem and_l {a b : Bool} (h : (a && b) = true) : a = true := (Bool.and_eq_true _ _ ▸ h).1
theorem and_r {a b : Bool} (h : (a && b) = true) : b = true := (Bool.and_eq_true _ _ ▸ h).2
theorem truP_ok {B : Bg} {A : Addr → Prop} {H : Hp} {x : PV} {v : V} {Q : Bool → Prop} (r : Rp B A H x v) (h : truP x Q) : ∃ k, TruV B.K v H k ∧ Q k := by
  cases r <;> first | exact (h : False).elim | skip
  · exact ⟨_, rfl, h⟩
  · exact ⟨_, rfl, h⟩
  · exact ⟨_, rfl, h⟩
  · exact ⟨_, ⟨h.1, rfl⟩, h.2⟩
  · rename_i b vs xs n h1 r
    refine ⟨!xs.isEmpty, .inl ⟨vs, .inl (.inl h1), ?_⟩, h⟩
    cases r <;> rfl
  · rename_i b vs xs h1 r
    refine ⟨!xs.isEmpty, .inr (.inl ⟨vs, h1.sq, ?_⟩), h⟩
    cases r <;> rfl
theorem qt_tru (h : QE X ks a s e p) (he : ∀ whole, isTrue e X.env whole = (do let v ← whole; standAt e.pos; holding [v] (truthy v)) := by intro _; rfl) : QT X ks e (pTru p) :=
  PTi (pt_tru h he) fun σ H Q ⟨E, L, γ, Qp, hK, R, hp, k⟩ => by
    refine ⟨E, L, γ, _, hK, R, hp, fun x v H1 q1 x1 r1 => ?_⟩
    obtain ⟨b, hb, q⟩ := truP_ok r1 q1
    exact ⟨b, hK ▸ hb, k b H1 q x1⟩
theorem qt_w (h : QW X ks e pt) : QT X ks e pt := h.pt
theorem qw_and1 (h : QT X ks e pt) : QW X ks (.BoolOp .And [e] pos) pt := pw_and1 h
theorem qw_or1 (h : QT X ks e pt) : QW X ks (.BoolOp .Or [e] pos) pt := pw_or1 h
theorem qw_and {rest : List Expr} (h1 : QT X ks e1 pt1) (h2 : QW X ks (.BoolOp .And (e2 :: rest) pos) pt2) : QW X ks (.BoolOp .And (e1 :: e2 :: rest) pos) (pAnd pt1 pt2) :=
  PWi (pw_and h1 h2) fun σ H Q ⟨E, L, γ, Qp, hK, R, hp, k⟩ => by
    refine ⟨E, L, γ, _, hK, R, hp, fun b H1 q1 x1 => ?_⟩
    cases b with
    | true => rw [if_pos rfl]; exact ⟨E, L, γ, _, hK, R.ex x1, q1, fun b H2 q2 x2 => k b H2 q2 (x1.trans x2)⟩
    | false => exact k false H1 q1 x1
theorem qw_or {rest : List Expr} (h1 : QT X ks e1 pt1) (h2 : QW X ks (.BoolOp .Or (e2 :: rest) pos) pt2) : QW X ks (.BoolOp .Or (e1 :: e2 :: rest) pos) (pOr pt1 pt2) :=
  PWi (pw_or h1 h2) fun σ H Q ⟨E, L, γ, Qp, hK, R, hp, k⟩ => by
    refine ⟨E, L, γ, _, hK, R, hp, fun b H1 q1 x1 => ?_⟩
    cases b with
    | false => exact ⟨E, L, γ, _, hK, R.ex x1, q1, fun b H2 q2 x2 => k b H2 q2 (x1.trans x2)⟩
    | true => rw [if_pos rfl]; exact k true H1 q1 x1
theorem qt_not (h : QT X ks e pt) : QT X ks (.UnaryOp .Not e pos) (pNot pt) :=
  PTi (pt_not h) fun σ H Q ⟨E, L, γ, Qp, hK, R, hp, k⟩ => ⟨E, L, γ, _, hK, R, hp, fun b H1 q1 x1 => k _ H1 q1 x1⟩
theorem qe_andV {rest : List Expr} (h1 : QE X ks a1 s1 e1 p1) (h2 : QE X ks a2 s2 (.BoolOp .And (e2 :: rest) pos) p2) (ha : a = (a1 && a2) := by rfl) (hb : s = (s1 && s2) := by rfl) : QE X ks a s (.BoolOp .And (e1 :: e2 :: rest) pos) (pAndV p1 p2) := by
  subst ha hb
  exact PEi (pe_andT h1 h2) fun σ H Q ⟨E, L, γ, Qp, hK, R, hp, k⟩ => by
    refine ⟨E, L, γ, _, hK, R, hp, fun x v H1 q1 x1 r1 => ?_⟩
    obtain ⟨b, hb, q⟩ := truP_ok r1 q1
    refine ⟨b, hK ▸ hb, ?_⟩
    cases b with
    | true => rw [if_pos rfl]; exact ⟨E, L, γ, _, hK, R.ex x1, q, fun y u H2 q2 x2 r2 => k y u H2 q2 (x1.trans x2) (r2.anti fun c z => av_mono and_r and_r z)⟩
    | false => exact k x v H1 q x1 (r1.anti fun c z => av_mono and_l and_l z)
theorem qe_one {op} (h : QE X ks a s e p) : QE X ks a s (.BoolOp op [e] pos) p := pe_one h
theorem qe_ifE (ht : QT X ks e pt) (h1 : QE X ks a1 s1 e1 p1) (h2 : QE X ks a2 s2 e2 p2) (ha : a = (a1 && a2) := by rfl) (hb : s = (s1 && s2) := by rfl) : QE X ks a s (.IfExp e e1 e2 pos) (pIfE pt p1 p2) := by
  subst ha hb
  exact PEi (pe_ifExp ht h1 h2) fun σ H Q ⟨E, L, γ, Qp, hK, R, hp, k⟩ => by
    refine ⟨E, L, γ, _, hK, R, hp, fun b H1 q1 x1 => ?_⟩
    cases b with
    | true => rw [if_pos rfl]; exact ⟨E, L, γ, _, hK, R.ex x1, q1, fun y u H2 q2 x2 r2 => k y u H2 q2 (x1.trans x2) (r2.anti fun c z => av_mono and_l and_l z)⟩
    | false => exact ⟨E, L, γ, _, hK, R.ex x1, q1, fun y u H2 q2 x2 r2 => k y u H2 q2 (x1.trans x2) (r2.anti fun c z => av_mono and_r and_r z)⟩
def pChain (o o' : PO2) (a b c : GE) : GE := fun γ Q => a γ fun x => b γ fun y => o x y fun z => match z with | .bl k => bfi k (c γ fun w => o' y w Q) (Q (.bl false)) | _ => False
theorem chain_ok {r r' : R2} {o o' : PO2} (ho : OpS X.K r o) (ho' : OpS X.K r' o') {E : Ac} {L : List Addr} {γ : G} {σ : St} {H : Hp} {Q : VK} {Qp : PV → Prop} (hK : E.B.K = X.K) (R : Rel E L ks γ σ H) (hp : pChain o o' p1 p2 p3 γ Qp)
    (k : ∀ z t H', Qp z → Ex E.B H H' → (∀ A, Rp E.B A H' z t) → Q t H') : tChain r r' (tE X.K ks a1 s1 p1) (tE X.K ks a2 s2 p2) (tE X.K ks a s p3) σ H Q := by
  refine ⟨E, L, γ, _, hK, R, hp, fun x v H1 q1 x1 r1 => ⟨E, L, γ, _, hK, R.ex x1, q1, fun y u H2 q2 x2 r2 => ?_⟩⟩
  refine ho E.B H2 x y v u _ _ hK (r1.ex x2 av_q).q r2.q q2 fun z t H3 qz x3 rz => ?_
  have := rz fun _ => False
  cases this <;> first | exact qz.elim | skip
  rename_i b
  refine ⟨b, rfl, ?_⟩
  cases b with
  | true =>
    rw [if_pos rfl]
    refine ⟨E, L, γ, _, hK, ((R.ex x1).ex x2).ex x3, qz, fun w m H4 q4 x4 r4 => ?_⟩
    exact ho' E.B H4 y w u m Q Qp hK ((r2.ex x3 av_q).ex x4 av_q).q r4.q q4 fun z t H' qz x5 rz => k z t H' qz (x1.trans (x2.trans (x3.trans (x4.trans x5)))) rz
  | false => exact k _ _ H3 qz (x1.trans (x2.trans x3)) fun A => .bl _
theorem qt_chain {op op' : CmpOp} {r r' : R2} {o o' : PO2} (hr : OpR X (compareOp op) r) (hr' : OpR X (compareOp op') r') (ho : OpS X.K r o) (ho' : OpS X.K r' o') (h1 : QE X ks a1 s1 e1 p1) (h2 : QE X ks a2 s2 e2 p2) (h3 : QE X ks a s e3 p3)
    (hm : lastMarks [op, op'] [e2, e3] = false := by with_unfolding_all rfl) : QT X ks (.Compare e1 [op, op'] [e2, e3] pos) (pTest (pChain o o' p1 p2 p3)) :=
  PTi (pt_chain hr hr' h1 h2 h3 hm) fun σ H Q ⟨E, L, γ, Qp, hK, R, hp, k⟩ => by
    refine chain_ok ho ho' hK R hp fun z t H' qz x rz => ?_
    have := rz fun _ => False
    cases this <;> first | exact qz.elim | exact ⟨_, rfl, k _ H' qz x⟩
def feq : PV → PV → Bool
  | .non, .non => true
  | .bl a, .bl b => a == b
  | .bl a, .int b => (if a then 1 else 0) == b
  | .int a, .bl b => a == (if b then 1 else 0)
  | .int a, .int b => a == b
  | .str a, .str b => a == b
  | _, _ => false
theorem flat_ok {B : Bg} {A : Addr → Prop} {H : Hp} {x : PV} {v : V} (r : Rp B A H x v) (h : flat1 x = true) : flatV v = true := by
  cases r <;> first | rfl | exact (Bool.false_ne_true h).elim
theorem feq_ok {B : Bg} {A : Addr → Prop} {H : Hp} {x y : PV} {v u : V} (r : Rp B A H x v) (t : Rp B A H y u) (h : flat1 x = true) (h' : flat1 y = true) : eqV v u = feq x y := by
  cases r <;> first | exact (Bool.false_ne_true h).elim | (cases t <;> first | rfl | exact (Bool.false_ne_true h').elim)
theorem feqs_ok {B : Bg} {A : Addr → Prop} {H : Hp} {x : PV} {v : V} (r : Rp B A H x v) (h : flat1 x = true) : ∀ {ys : List PV} {us : List V}, RpL B A H ys us → ys.all flat1 = true → us.all flatV = true ∧ inV v us = ys.any fun y => feq y x
  | _, _, .nil, _ => ⟨rfl, rfl⟩
  | _, _, .cons a b, h' => by
    rw [List.all_cons, Bool.and_eq_true] at h'
    have := feqs_ok r h b h'.2
    refine ⟨by rw [List.all_cons, flat_ok a h'.1, this.1]; rfl, ?_⟩
    show List.any _ _ = _
    rw [List.any_cons, List.any_cons, feq_ok a r h'.1 h, ← this.2]; rfl
def oIn (neg : Bool) : PO2
  | .str c, .str z, Q => c.cps.size = 1 ∧ Q (.bl (if neg then !decide (c.cps.toList.headD 0 ∈ z.cps.toList) else decide (c.cps.toList.headD 0 ∈ z.cps.toList)))
  | x, .lst ys, Q => flat1 x = true ∧ ys.all flat1 = true ∧ Q (.bl (if neg then !ys.any (fun y => feq y x) else ys.any fun y => feq y x))
  | x, .tup ys, Q => flat1 x = true ∧ ys.all flat1 = true ∧ Q (.bl (if neg then !ys.any (fun y => feq y x) else ys.any fun y => feq y x))
  | _, _, _ => False
theorem one_sign {c : Str} (h : c.cps.size = 1) : c = ⟨#[c.cps.toList.headD 0]⟩ := by
  obtain ⟨⟨l⟩⟩ := c
  match l, h with
  | [x], _ => rfl
theorem in_seq {K : Fg} {neg : Bool} {B : Bg} {H : Hp} {x : PV} {v : V} {ys : List PV} {us : List V} {b : Addr} {A : Addr → Prop} {Q : VK} {Qp : PV → Prop} (hK : B.K = K) (rx : Rp B A H x v) (r : RpL B A H ys us) (hs : SqL K H b us ∨ SqT K H b us)
    (h : flat1 x = true ∧ ys.all flat1 = true ∧ Qp (.bl (if neg then !ys.any (fun y => feq y x) else ys.any fun y => feq y x))) (k : ∀ z t H', Qp z → Ex B H H' → (∀ A, Rp B A H' z t) → Q t H') : rIn K neg v (.ref b) H Q := by
  obtain ⟨h1, h2, h3⟩ := h
  have := feqs_ok rx h1 r h2
  refine ⟨b, us, rfl, hs, flat_ok rx h1, this.1, ?_⟩
  rw [this.2]; exact k _ _ H h3 (.refl _ _) fun A => .bl _
theorem in_ok {K : Fg} : OpS K (rInA K) (oIn false) := by
  intro B H x y v u Q Qp hK rx ry h k
  cases ry with
  | lst n h1 r => exact .inr (in_seq hK rx r (.inl (.inl (.inl h1))) (by cases rx <;> exact h) k)
  | tup h1 r => exact .inr (in_seq hK rx r (.inr (hK ▸ h1.sq)) (by cases rx <;> exact h) k)
  | str z =>
    cases rx <;> first | exact (h : False).elim | skip
    exact .inl ⟨_, _, congrArg _ (one_sign h.1), rfl, k _ _ H h.2 (.refl _ _) fun A => .bl _⟩
  | _ => cases rx <;> exact (h : False).elim
theorem qa_nil : QA X ks true true [] pNil := PAi pa_nil fun σ H Q ⟨E, L, γ, Qp, hK, R, hp, k⟩ => k [] [] H hp (.refl _ _) .nil rfl
theorem qa_cons (h : QE X ks a1 s1 e p) (t : QA X ks a2 s2 es pa) (hs : starEach (e :: es) X.env = (false, eval e X.env) :: starEach es X.env := by rfl) (ha : a = (a1 && a2) := by rfl) (hb : s = (s1 && s2) := by rfl) : QA X ks a s (e :: es) (pCons p pa) := by
  subst ha hb
  exact PAi (pa_cons h t hs) fun σ H Q ⟨E, L, γ, Qp, hK, R, hp, k⟩ => by
    refine ⟨E, L, γ, _, hK, R, hp, fun x v H1 q1 x1 r1 => ⟨E, L, γ, _, hK, R.ex x1, q1, fun xs vs H2 q2 x2 r2 l2 => ?_⟩⟩
    exact k _ _ H2 q2 (x1.trans x2) (.cons ((r1.ex x2 av_q).anti fun c z => av_mono and_l and_l z) (r2.anti fun c z => av_mono and_r and_r z)) (by simp [l2])
def pTup (t : GA) : GE := fun γ Q => t γ fun xs => Q (.tup xs)
def pLst (t : GA) : GE := fun γ Q => t γ fun xs => Q (.lst xs)
theorem few {n : Nat} (h : n ≤ 1000) : n ≤ sizeLine := by rw [sizeLine_eq]; omega
theorem qe_tup {x1} (h : QA X ks a s es pa) (hn : es.length ≤ 1000 := by decide) : QE X ks a s (.Tuple es x1 pos) (pTup pa) :=
  PEi (pe_tup h) fun σ H Q ⟨E, L, γ, Qp, hK, R, hp, k⟩ => by
    refine ⟨E, L, γ, _, hK, R, hp, fun xs vs H1 q1 x1 r1 l1 => ⟨by rw [← r1.length, l1]; exact few hn, fun b nb => ?_⟩⟩
    exact k _ _ _ q1 (x1.trans (.new nb)) (Rp.newT r1 av_q nb)
theorem qe_lst (h : QA X ks a s es pa) (hn : es.length ≤ 1000 := by decide) : QE X ks a s (.List es pos) (pLst pa) :=
  PEi (pe_lst h) fun σ H Q ⟨E, L, γ, Qp, hK, R, hp, k⟩ => by
    refine ⟨E, L, γ, _, hK, R, hp, fun xs vs H1 q1 x1 r1 l1 => ⟨by rw [← r1.length, l1]; exact few hn, fun b nb => ?_⟩⟩
    exact k _ _ _ q1 (x1.trans (.new nb)) (Rp.new r1 av_q nb fun c z => av_nn (R.ex x1) z)
theorem RpL.more {B : Bg} {A : Addr → Prop} {H : Hp} {x : List PV} {v : List V} {b : Addr} (h : RpL B A H x v) (n : H b = none) : RpL B (fun c => A c ∨ c = b) H x v :=
  h.mv (fun _ _ h _ => h) (fun _ _ h => h) fun c z m => z.elim id fun z => absurd (z ▸ n) m
theorem Rp.more {B : Bg} {A : Addr → Prop} {H : Hp} {x : PV} {v : V} {b : Addr} (h : Rp B A H x v) (n : H b = none) : Rp B (fun c => A c ∨ c = b) H x v :=
  h.mv (fun _ _ h _ => h) (fun _ _ h => h) fun c z m => z.elim id fun z => absurd (z ▸ n) m
theorem qn_lst (h : QA X ks true true es pa) (hn : es.length ≤ 1000 := by decide) : QN X ks (.List es pos) (pLst pa) :=
  PEi (pe_lst h) fun σ H Q ⟨E, L, γ, Qp, hK, R, hp, k⟩ => by
    refine ⟨E, L, γ, _, hK, R, hp, fun xs vs H1 q1 x1 r1 l1 => ⟨by rw [← r1.length, l1]; exact few hn, fun b nb => ?_⟩⟩
    exact k _ _ _ q1 (x1.trans (.new nb)) (x1.free nb) ⟨vs, upd_same, (r1.more nb).ex (.new nb) (.inl av_q)⟩
def oIx : PO2
  | .lst xs, .int i, Q => match atI xs i with | some x => Q x | none => False
  | .tup xs, .int i, Q => match atI xs i with | some x => Q x | none => False
  | .str z, .int i, Q => z.length ≤ sizeLine ∧ match atI z.cps.toList i with | some c => Q (.str ⟨#[c]⟩) | none => False
  | _, _, _ => False
theorem RpL.atI {B : Bg} {A : Addr → Prop} {H : Hp} {x : List PV} {v : List V} (r : RpL B A H x v) {i : Int} {p : PV} (h : atI x i = some p) : ∃ u, atI v i = some u ∧ Rp B A H p u := by
  unfold L2.atI at h ⊢
  rw [r.length] at h
  cases e : ixN v.length i with
  | none => rw [e] at h; cases h
  | some j => rw [e] at h; exact r.get h
theorem ix_ok {K : Fg} : OpP K (rIx K) oIx := by
  intro B A H x y v u Q Qp hK aq nn rx ry h k
  subst hK
  cases rx <;> cases ry <;> first | exact (h : False).elim | skip
  · rename_i z i
    obtain ⟨h1, h2⟩ := h
    cases e : atI z.cps.toList i with
    | none => rw [e] at h2; exact h2.elim
    | some c => rw [e] at h2; exact .inr (.inr ⟨_, _, c, rfl, rfl, h1, e, k _ _ H h2 (.refl _ _) (.str _)⟩)
  · rename_i b vs xs n h1 r i
    cases e : atI xs i with
    | none => simp only [oIx, e] at h
    | some c =>
      simp only [oIx, e] at h
      obtain ⟨u, hu, ru⟩ := r.atI e
      exact .inl ⟨_, _, _, u, rfl, rfl, .inl (.inl h1), hu, k _ _ H h (.refl _ _) ru⟩
  · rename_i b vs xs h1 r i
    cases e : atI xs i with
    | none => simp only [oIx, e] at h
    | some c =>
      simp only [oIx, e] at h
      obtain ⟨u, hu, ru⟩ := r.atI e
      exact .inr (.inl ⟨_, _, _, u, rfl, rfl, h1.sq, hu, k _ _ H h (.refl _ _) ru⟩)
abbrev GO := G → (Option Int → Prop) → Prop
def tO (K : Fg) (ks : List Kd) (p : GO) : TO := fun σ H Q => ∃ (E : Ac) (L : List Addr) (γ : G) (Qp : Option Int → Prop), E.B.K = K ∧ Rel E L ks γ σ H ∧ p γ Qp ∧ ∀ i H', Qp i → Ex E.B H H' → Q i H'
def pNoPart : GO := fun _ Q => Q none
def pPart (p : GE) : GO := fun γ Q => p γ fun x => match x with | .int i => Q (some i) | _ => False
theorem POi {o : Option Expr} {t t' : TO} (h : PO X o t) (i : ∀ σ H Q, t' σ H Q → t σ H Q) : PO X o t' := ⟨fun pins s σ H Q I q => h.run pins s σ H Q I (i _ _ _ q)⟩
abbrev QO (X : Cx) (ks : List Kd) (o : Option Expr) (p : GO) : Prop := PO X o (tO X.K ks p)
theorem qo_none : QO X ks none pNoPart := POi po_none fun σ H Q ⟨E, L, γ, Qp, hK, R, hp, k⟩ => k none H hp (.refl _ _)
theorem qo_some (h : QE X ks a s e p) : QO X ks (some e) (pPart p) := POi (po_some h) fun σ H Q ⟨E, L, γ, Qp, hK, R, hp, k⟩ => by
  refine ⟨E, L, γ, _, hK, R, hp, fun x v H1 q1 x1 r1 => ?_⟩
  cases r1 <;> first | exact q1.elim | exact ⟨_, rfl, k _ H1 q1 x1⟩
def cutP (xs : List PV) (lo hi : Option Int) : List PV := (xs.drop (HT.sIx xs.length 0 lo)).take (HT.sIx xs.length xs.length hi - HT.sIx xs.length 0 lo)
def pSl (p : GE) (l u : GO) : GE := fun γ Q => p γ fun x => l γ fun i => u γ fun j => match x with
  | .lst xs => Q (.lst (cutP xs i j))
  | .str z => z.length ≤ sizeLine ∧ Q (.str (cutS z i j))
  | _ => False
theorem RpL.cut {B : Bg} {A : Addr → Prop} {H : Hp} {x : List PV} {v : List V} (r : RpL B A H x v) (i j : Option Int) : RpL B A H (cutP x i j) (cutV v i j) := by
  unfold cutP cutV; rw [r.length]; exact (r.drop _).take _
def rSlA (K : Fg) : V → Option Int → Option Int → Hp → VK → Prop := fun x i j H Q => rSlL K x i j H Q ∨ rSlS x i j H Q
theorem sl_A : SlR X (rSlA X.K) := SlR.or sl_list sl_str
theorem qe_sl {lo hi : Option Expr} {pl pu : GO} {q2 : Pos} (h : QE X ks a s e p) (hl : QO X ks lo pl) (hu : QO X ks hi pu) : QE X ks a s (.Subscript e (.Slice lo hi none q2) pos) (pSl p pl pu) :=
  PEi (pe_slice sl_A h hl hu) fun σ H Q ⟨E, L, γ, Qp, hK, R, hp, k⟩ => by
    refine ⟨E, L, γ, _, hK, R, hp, fun x v H1 q1 x1 r1 => ⟨E, L, γ, _, hK, R.ex x1, q1, fun i H2 q2 x2 => ⟨E, L, γ, _, hK, (R.ex x1).ex x2, q2, fun j H3 q3 x3 => ?_⟩⟩⟩
    have r3 := (r1.ex x2 av_q).ex x3 av_q
    cases r3 <;> first | exact q3.elim | skip
    · exact .inr ⟨_, rfl, q3.1, k _ _ H3 q3.2 (x1.trans (x2.trans x3)) (.str _)⟩
    · rename_i b vs xs n h1 r
      exact .inl ⟨_, _, rfl, .inl (.inl h1), fun c nc => k _ _ _ q3 (x1.trans (x2.trans (x3.trans (.new nc)))) (Rp.new (r.cut i j) av_q nc fun d z => av_nn (((R.ex x1).ex x2).ex x3) z)⟩
end
end Vl
namespace Vl
open PySem PySem.Spec L2 Lb
abbrev PCl := List PV → (PV → Prop) → Prop
def CallS (K : Fg) (r : List V → Hp → VK → Prop) (o : PCl) : Prop := ∀ (B : Bg) (H : Hp) (xs : List PV) (vs : List V) (Q : VK) (Qp : PV → Prop), B.K = K → RpL B (fun b => b = B.q) H xs vs → o xs Qp →
  (∀ z t H', Qp z → Ex B H H' → (∀ A, A B.q → (∀ b, A b → H b ≠ none) → Rp B A H' z t) → Q t H') → r vs H Q
section
variable {X : Cx} {ks : List Kd} {a s a1 s1 a2 s2 : Bool} {e e1 e2 e3 : Expr} {es : List Expr} {p p1 p2 p3 : GE} {pa : GA} {pt pt1 pt2 : GT} {pos : Pos}
theorem cbS {r : List V → Hp → VK → Prop} {o : PCl} (ho : CallS X.K r o) {e : Expr} (pe : ∀ {t : TA}, PA X es t → PE X e (tCB r t)) (h : QA X ks a s es pa) : QE X ks true true e (pCB o pa) :=
  PEi (pe h) fun σ H Q ⟨E, L, γ, Qp, hK, R, hp, k⟩ => by
    refine ⟨E, L, γ, _, hK, R, hp, fun xs vs H1 q1 x1 r1 l1 => ?_⟩
    exact ho E.B H1 xs vs Q Qp hK r1.q q1 fun z t H' qz x2 rz => k z t H' qz (x1.trans x2) (rz _ av_q fun b z => av_nn (R.ex x1) z)
def pBools : List PV → Option (List Bool)
  | [] => some []
  | .bl b :: t => (pBools t).map (b :: ·)
  | _ => none
def pStrs : List PV → Option (List Str)
  | [] => some []
  | .str b :: t => (pStrs t).map (b :: ·)
  | _ => none
theorem bools_ok {B : Bg} {A : Addr → Prop} {H : Hp} : ∀ {xs : List PV} {vs : List V}, RpL B A H xs vs → ∀ {bs : List Bool}, pBools xs = some bs → vs = bs.map V.bl
  | _, _, .nil, _, e => by cases e; rfl
  | _, _, .cons (x := x) (xs := xs) r t, bs, e => by
    cases r <;> first | (cases e; done) | skip
    rw [pBools] at e
    cases q : pBools xs with
    | none => rw [q] at e; cases e
    | some cs => rw [q] at e; cases e; rw [bools_ok t q]; rfl
theorem strs_ok {B : Bg} {A : Addr → Prop} {H : Hp} : ∀ {xs : List PV} {vs : List V}, RpL B A H xs vs → ∀ {bs : List Str}, pStrs xs = some bs → vs = bs.map V.str
  | _, _, .nil, _, e => by cases e; rfl
  | _, _, .cons (x := x) (xs := xs) r t, bs, e => by
    cases r <;> first | (cases e; done) | skip
    rw [pStrs] at e
    cases q : pStrs xs with
    | none => rw [q] at e; cases e
    | some cs => rw [q] at e; cases e; rw [strs_ok t q]; rfl
theorem bools_map {α : Type} {f : α → Bool} : ∀ l : List α, pBools (l.map fun x => .bl (f x)) = some (l.map f)
  | [] => rfl
  | x :: l => by simp [pBools, bools_map l]
def bLen : PCl
  | [.str z], Q => z.length ≤ sizeLine ∧ Q (.int z.length)
  | [.lst xs], Q => Q (.int xs.length)
  | [.tup xs], Q => Q (.int xs.length)
  | _, _ => False
theorem len_ok {K : Fg} : CallS K (rLen K) bLen := by
  intro B H xs vs Q Qp hK r h k
  subst hK
  match xs, r, h with
  | [_], .cons r .nil, h =>
    cases r <;> first | exact (h : False).elim | skip
    · exact ⟨_, _, rfl, ⟨h.1, rfl⟩, k _ _ H h.2 (.refl _ _) fun A _ _ => .int _⟩
    · rename_i b vs xs n h1 r
      exact ⟨_, vs.length, rfl, .inl ⟨vs, .inl (.inl h1), rfl⟩, k (.int xs.length) _ H h (.refl _ _) fun A _ _ => by rw [r.length]; exact .int _⟩
    · rename_i b vs xs h1 r
      exact ⟨_, vs.length, rfl, .inr ⟨vs, h1.sq, rfl⟩, k (.int xs.length) _ H h (.refl _ _) fun A _ _ => by rw [r.length]; exact .int _⟩
  | [], _, h => exact (h : False).elim
  | _ :: _ :: _, _, h => simp [bLen] at h
def isK : Kn → PV → Option Bool
  | .int, .int _ => some true
  | .int, .bl _ => some true
  | .bool, .bl _ => some true
  | .str, .str _ => some true
  | .list, .lst _ => some true
  | .tuple, .tup _ => some true
  | .dict, .dK _ => some true
  | .dict, .dT _ => some true
  | _, .non => some false
  | _, .bl _ => some false
  | _, .int _ => some false
  | _, .str _ => some false
  | _, .lst _ => some false
  | _, .tup _ => some false
  | _, .dK _ => some false
  | _, .dT _ => some false
  | _, _ => none
def bIs : PCl
  | [x, .ty t], Q => match isK t x with | some b => Q (.bl b) | none => False
  | _, _ => False
def tyn : PV → String
  | .non => "NoneType"
  | .bl _ => "bool"
  | .int _ => "int"
  | .str _ => "str"
  | .lst _ => "list"
  | .tup _ => "tuple"
  | _ => "dict"
theorem kit_ok (t : Kn) (x : PV) (b : Bool) (h : isK t x = some b) : kitB (tyn x) (knS t) = some b := by
  cases t <;> cases x <;> first | (cases h; done) | (cases h; simp only [tyn, knS]; decide +kernel)
theorem isB_ok {K : Fg} : CallS K (rIsB K) bIs := by
  intro B H xs vs Q Qp hK r h k
  subst hK
  match xs, r, h with
  | [], _, h => exact (h : False).elim
  | [_], .cons r .nil, h => cases r <;> exact (h : False).elim
  | _ :: _ :: _ :: _, .cons _ (.cons r _), h => cases r <;> exact (h : False).elim
  | [x, _], .cons rx (.cons ry .nil), h =>
    cases ry <;> first | exact (h : False).elim | skip
    rename_i t
    cases e : isK t x with
    | none => simp only [bIs, e] at h
    | some b =>
      simp only [bIs, e] at h
      have kb := kit_ok t x b e
      refine ⟨_, knS t, tyn x, b, rfl, ?_, kb, k _ _ H h (.refl _ _) fun A _ _ => .bl _⟩
      cases rx with
      | non => exact .base .non
      | bl b => exact .base (.bl b)
      | int i => exact .base (.int i)
      | str x => exact .base (.str x)
      | lst n h r => exact .base (.lst h)
      | tup h r =>
        rcases h with h | ⟨o, its, n, h, c, _⟩
        · exact .base (.tup h)
        · exact .kTuple h c
      | dK n h => exact .base (.dK h)
      | dT n h => exact .base (.dT h)
      | _ => cases t <;> cases e
def bInt : PCl
  | [.int i], Q => Q (.int i)
  | [.bl b], Q => Q (.int (if b = true then 1 else 0))
  | _, _ => False
theorem int_ok {K : Fg} : CallS K rInt1 bInt := by
  intro B H xs vs Q Qp hK r h k
  match xs, r, h with
  | [_], .cons r .nil, h =>
    cases r <;> first | exact (h : False).elim | skip
    · exact .inr ⟨_, rfl, k _ _ H h (.refl _ _) fun A _ _ => .int _⟩
    · exact .inl ⟨_, rfl, k _ _ H h (.refl _ _) fun A _ _ => .int _⟩
  | [], _, h => exact (h : False).elim
  | _ :: _ :: _, .cons r _, h => cases r <;> exact (h : False).elim
def bBs (f : List Bool → Bool) : PCl
  | [.lst xs], Q => match pBools xs with | some bs => Q (.bl (f bs)) | none => False
  | _, _ => False
theorem bs_ok {K : Fg} {f : List Bool → Bool} : CallS K (fun vs H Q => ∃ (a : Addr) (bs : List Bool), vs = [V.ref a] ∧ SqL K H a (bs.map V.bl) ∧ Q (.bl (f bs)) H) (bBs f) := by
  intro B H xs vs Q Qp hK r h k
  match xs, r, h with
  | [_], .cons r .nil, h =>
    cases r <;> first | exact (h : False).elim | skip
    rename_i b vs xs n h1 r
    cases e : pBools xs with
    | none => simp only [bBs, e] at h
    | some bs =>
      simp only [bBs, e] at h
      exact ⟨b, bs, rfl, .inl (.inl (by rw [h1, bools_ok r e])), k _ _ H h (.refl _ _) fun A _ _ => .bl _⟩
  | [], _, h => exact (h : False).elim
  | _ :: _ :: _, .cons r _, h => cases r <;> exact (h : False).elim
def allB (bs : List Bool) : Bool := bs.all id
theorem all_ok {K : Fg} : CallS K (rAll K) (bBs allB) := bs_ok
def pJoin (p1 p2 : GE) : GE := fun γ Q => p1 γ fun x => match x with
  | .str a => p2 γ fun y => match y with
    | .lst ys => match pStrs ys with | some l => (l.map (·.length)).sum + l.length * a.length ≤ 16777216 ∧ Q (.str (Txt.join a l)) | none => False
    | _ => False
  | _ => False
theorem qe_join {apos : Pos} (h1 : QE X ks a1 s1 e1 p1) (h2 : QE X ks a2 s2 e2 p2) (hs : starEach [e2] X.env = [(false, eval e2 X.env)] := by rfl) (hbase : attributeBase e1 "join" X.env (eval e1 X.env) = eval e1 X.env := by rfl) (hline : (apos.endLine == pos.line) = true := by rfl) :
    QE X ks true true (.Call (.Attribute e1 "join" apos) [e2] [] pos) (pJoin p1 p2) :=
  PEi (pe_join h1 h2 hs hbase hline) fun σ H Q ⟨E, L, γ, Qp, hK, R, hp, k⟩ => by
    refine ⟨E, L, γ, _, hK, R, hp, fun x v H1 q1 x1 r1 => ?_⟩
    cases r1 <;> first | exact q1.elim | skip
    refine ⟨⟨_, rfl⟩, E, L, γ, _, hK, R.ex x1, q1, fun y u H2 q2 x2 r2 => ?_⟩
    cases r2 <;> first | exact q2.elim | skip
    rename_i b vs xs n h1 r
    cases e : pStrs xs with
    | none => simp only [e] at q2
    | some l =>
      simp only [e] at q2
      exact ⟨_, _, l, rfl, rfl, .inl (.inl (.inl (by rw [h1, strs_ok r e]))), q2.1, k _ _ H2 q2.2 (x1.trans x2) (.str _)⟩
mutual
def ckV (K : Fg) : PV → Value → Bool
  | .non, u => decide (u = .none)
  | .bl b, u => decide (u = .bool b)
  | .int i, u => match u with | .int j _ => decide (i = j) | _ => false
  | .str x, u => match u with | .str y _ => decide (x = y) | _ => false
  | .tup xs, u => match u with
    | .ref a => (match K.lookup a with
      | some o => decide (o.cls = .type "tuple") && decide (o.dict = none) && (match o.data with | .seq its _ => decide (its.size ≤ 1000) && ckL K xs its.toList | _ => false)
      | none => false)
    | _ => false
  | _, _ => false
def ckL (K : Fg) : List PV → List Value → Bool
  | [], us => us.isEmpty
  | x :: xs, us => match us with | u :: us => ckV K x u && ckL K xs us | [] => false
end
theorem ck_tup {K : Fg} {xs : List PV} {a : Addr} (h : ckV K (.tup xs) (.ref a) = true) : ∃ (o : Obj) (its : Array Value) (n : Nat), K.lookup a = some o ∧ o.cls = .type "tuple" ∧ o.dict = none ∧ o.data = .seq its n ∧ its.size ≤ sizeLine ∧ ckL K xs its.toList = true := by
  rw [ckV] at h
  cases e : K.lookup a with
  | none => rw [e] at h; cases h
  | some o =>
    rw [e] at h
    simp only [Bool.and_eq_true, decide_eq_true_eq] at h
    obtain ⟨⟨h1, h2⟩, h3⟩ := h
    cases q : o.data with
    | seq its n =>
      rw [q] at h3
      simp only [Bool.and_eq_true, decide_eq_true_eq] at h3
      exact ⟨o, its, n, rfl, h1, h2, q, few h3.1, h3.2⟩
    | _ => rw [q] at h3; cases h3
mutual
theorem ckV_ok {K : Fg} {q r : Addr} {A : Addr → Prop} {H : Hp} : ∀ (x : PV) (u : Value), ckV K x u = true → ∃ v, RelV v u ∧ Rp ⟨K, q, r⟩ A H x v
  | .non, u, h => by
    rw [ckV] at h; have := of_decide_eq_true h; subst this
    exact ⟨.non, rfl, .non⟩
  | .bl b, u, h => by
    rw [ckV] at h; have := of_decide_eq_true h; subst this
    exact ⟨.bl b, rfl, .bl b⟩
  | .int i, u, h => by
    cases u <;> first | (simp [ckV] at h; done) | skip
    simp [ckV] at h; subst h
    exact ⟨.int _, ⟨_, rfl⟩, .int _⟩
  | .str x, u, h => by
    cases u <;> first | (simp [ckV] at h; done) | skip
    simp [ckV] at h; subst h
    exact ⟨.str _, ⟨_, rfl⟩, .str _⟩
  | .tup xs, u, h => by
    cases u <;> first | (simp [ckV] at h; done) | skip
    obtain ⟨o, its, n, h1, h2, _, h3, h4, h5⟩ := ck_tup h
    obtain ⟨vs, hv, hr⟩ := ckL_ok xs its.toList h5
    exact ⟨.ref _, rfl, .tup (.inr ⟨o, its, n, h1, h2, h3, h4, hv⟩) hr⟩
  | .lst _, u, h => by simp [ckV] at h
  | .dK _, u, h => by simp [ckV] at h
  | .dT _, u, h => by simp [ckV] at h
  | .ins _ _, u, h => by simp [ckV] at h
  | .cls _, u, h => by simp [ckV] at h
  | .bag, u, h => by simp [ckV] at h
  | .ty _, u, h => by simp [ckV] at h
theorem ckL_ok {K : Fg} {q r : Addr} {A : Addr → Prop} {H : Hp} : ∀ (x : List PV) (u : List Value), ckL K x u = true → ∃ v, Vals v u ∧ RpL ⟨K, q, r⟩ A H x v
  | [], [], _ => ⟨[], .nil, .nil⟩
  | [], _ :: _, h => by rw [ckL] at h; cases h
  | _ :: _, [], h => by rw [ckL] at h; cases h
  | x :: xs, u :: us, h => by
    rw [ckL, Bool.and_eq_true] at h
    obtain ⟨v, h1, h2⟩ := ckV_ok x u h.1
    obtain ⟨vs, h3, h4⟩ := ckL_ok xs us h.2
    exact ⟨v :: vs, .cons h1 h3, .cons h2 h4⟩
end
/-- a written name's value: x at K's globals -/
def GV (K : Fg) (mg : Str → Option Value) (n : Str) (x : PV) : Prop := ∃ u, mg n = some u ∧ ckV K x u = true
theorem qe_g {n : Str} {x : PV} (h : GV X.K X.mg n x) (hg : Gl X n) (hd : (n == ("__debug__" : Str)) = false := by decide) : QE X ks true true (.Name n pos) (pC x) := by
  obtain ⟨u, h1, h2⟩ := h
  obtain ⟨v, hv, _⟩ := ckV_ok (q := 0) (r := 0) (A := fun _ => False) (H := fun _ => none) x u h2
  refine qe_c (v := v) (pe_glob hg h1 hv hd) fun q r A H => ?_
  obtain ⟨v', hv', hr⟩ := ckV_ok (q := q) (r := r) (A := A) (H := H) x u h2
  have : v = v' := by
    cases hr <;> cases u <;> first | (simp [ckV] at h2; done) | skip
    all_goals (cases v <;> first | (cases hv; done) | skip)
    all_goals (simp [RelV] at hv hv' <;> simp_all)
  rw [this]; exact hr
end
end Vl
namespace Vl
open PySem PySem.Spec L2 Lb
section
variable {E : Ac} {L L' : List Addr} {H H' : Hp} {ks : List Kd} {γ : G} {σ : St}
/-- a store to slot i, all else as it stands; the heap may have gone on -/
theorem Rel.put {i : Nat} {k : Kd} {x : PV} {v : V} {O' : List Addr} (R : Rel E L ks γ σ H) (f : Fw E.B L H L' H') (fl : ∀ a ∈ L, a ∉ O' → ∀ o, H a = some o → H' a = some o) (old : ∀ a o, E.H0 a = some o → a ≠ E.B.q → H' a = some o) (bag : BagOk E.B H')
    (ll : ∀ a ∈ L', a ∈ L ∨ E.H0 a = none) (ln : ∀ a ∈ L', H' a ≠ none) (lL : ∀ a ∈ L, a ∈ L')
    (hk : Kr E L' H' k x v O') (hO : ∀ a ∈ O', a ∈ L') (hn : O'.Nodup) (hd : ∀ (O : Nat → List Addr), (∀ j a, a ∈ O j → a ∈ L) → (∀ j j' a, a ∈ O j → a ∈ O j' → j = j') → (∀ j y, γ[j]? = some (some y) → ∃ w, σ[j]? = some (some w) ∧ Kr E L H (kd ks j) y w (O j)) → ∀ j a, j ≠ i → a ∈ O' → a ∉ O j)
    (hi : i < ks.length) : Rel E L' (ks.set i k) (γ.set i (some x)) (σ.set i (some v)) H' where
  old := old
  onn := fun a h => f.nn a (R.onn a h)
  bag := bag
  a0 := R.a0
  aq := R.aq
  ar := R.ar
  lf := fun a h => ⟨(ll a h).elim (fun z => (R.lf a z).1) id, ln a h⟩
  len := by simp [R.len]
  sl := by
    obtain ⟨O, h1, h2, h3, h4⟩ := R.sl
    have hd' := hd O h2 h3 h1
    refine ⟨fun j => if j = i then O' else O j, fun j y hy => ?_, fun j a m => ?_, fun j j' a m m' => ?_, fun j => ?_⟩
    · by_cases hj : j = i
      · subst hj
        have hl : j < γ.length := by
          have := (List.getElem?_eq_some_iff.mp hy).1; simpa using this
        rw [List.getElem?_set_self hl] at hy
        cases hy
        refine ⟨v, by rw [List.getElem?_set_self (by rw [← R.len]; exact hl)], ?_⟩
        show Kr E L' H' _ _ _ (if j = j then O' else O j)
        rw [if_pos rfl]
        have : kd (ks.set j k) j = k := by unfold kd; simp [List.getD, hi]
        rw [this]; exact hk
      · rw [List.getElem?_set_ne (fun z => hj z.symm)] at hy
        obtain ⟨w, hw, kw⟩ := h1 j y hy
        refine ⟨w, by rw [List.getElem?_set_ne (fun z => hj z.symm)]; exact hw, ?_⟩
        show Kr E L' H' _ _ _ (if j = i then O' else O j)
        rw [if_neg hj]
        have : kd (ks.set i k) j = kd ks j := by unfold kd; simp [List.getD, List.getElem?_set_ne (fun z => hj z.symm)]
        rw [this]
        exact kw.mv (fun a o e n nl => f.st a o e nl n) f.tp f.ls fun a m o e => fl a (h2 j a m) (fun z => hd' j a hj z m) o e
    · by_cases hj : j = i
      · simp only [if_pos hj] at m; exact hO a m
      · simp only [if_neg hj] at m; exact lL a (h2 j a m)
    · by_cases hj : j = i <;> by_cases hj' : j' = i
      · rw [hj, hj']
      · simp only [if_pos hj, if_neg hj'] at m m'; exact absurd m' (hd' j' a hj' m)
      · simp only [if_neg hj, if_pos hj'] at m m'; exact absurd m (hd' j a hj m')
      · simp only [if_neg hj, if_neg hj'] at m m'; exact h3 j j' a m m'
    · by_cases hj : j = i
      · simp only [if_pos hj]; exact hn
      · simp only [if_neg hj]; exact h4 j
/-- a plain value to a slot -/
theorem Rel.set {i : Nat} {k : Kd} {x : PV} {v : V} (R : Rel E L ks γ σ H) (hk : Kr E L H k x v []) (hi : i < ks.length) : Rel E L (ks.set i k) (γ.set i (some x)) (σ.set i (some v)) H :=
  R.put (.refl _ _ _) (fun _ _ _ _ h => h) R.old R.bag (fun _ h => .inl h) (fun a h => (R.lf a h).2) (fun _ h => h) hk (fun _ h => nomatch h) List.nodup_nil (fun _ _ _ _ _ _ _ h => nomatch h) hi
theorem set_same {ks : List Kd} {i : Nat} {k : Kd} (h : ks[i]? = some k) : ks.set i k = ks := by
  apply List.ext_getElem?
  intro j
  by_cases hj : i = j
  · subst hj; rw [List.getElem?_set_self (List.getElem?_eq_some_iff.mp h).1, h]
  · rw [List.getElem?_set_ne hj]
/-- slots forgotten -/
def wipeG (γ : G) : List Nat → G
  | [] => γ
  | v :: vs => (wipeG γ vs).set v none
theorem wipeG_some {γ : G} {i : Nat} {x : PV} : ∀ {vs : List Nat}, (wipeG γ vs)[i]? = some (some x) → γ[i]? = some (some x) ∧ i ∉ vs
  | [], h => ⟨h, by simp⟩
  | v :: vs, h => by
    unfold wipeG at h
    by_cases hi : v = i
    · subst hi
      by_cases hv : v < (wipeG γ vs).length
      · rw [List.getElem?_set_self hv] at h; cases h
      · rw [List.getElem?_eq_none (by simpa using hv)] at h; cases h
    · rw [List.getElem?_set_ne hi] at h
      obtain ⟨h1, h2⟩ := wipeG_some h
      exact ⟨h1, by simp only [List.mem_cons, not_or]; exact ⟨fun e => hi e.symm, h2⟩⟩
theorem wipeG_length (γ : G) : ∀ vs : List Nat, (wipeG γ vs).length = γ.length
  | [] => rfl
  | v :: vs => by unfold wipeG; rw [List.length_set, wipeG_length γ vs]
theorem wipe_at {σ : St} {i : Nat} : ∀ {vs : List Nat}, i ∉ vs → (wipe σ vs)[i]? = σ[i]?
  | [], _ => rfl
  | v :: vs, h => by
    simp only [List.mem_cons, not_or] at h
    unfold wipe
    rw [List.getElem?_set_ne (fun z => h.1 z.symm)]
    exact wipe_at h.2
theorem wipe_in {σ : St} {i : Nat} : ∀ {vs : List Nat}, i ∈ vs → i < σ.length → (wipe σ vs)[i]? = some none
  | [], h, _ => nomatch h
  | v :: vs, h, hl => by
    unfold wipe
    by_cases hi : v = i
    · subst hi; rw [List.getElem?_set_self (by rw [wipe_length]; exact hl)]
    · rw [List.getElem?_set_ne hi]
      exact wipe_in ((List.mem_cons.mp h).elim (fun z => absurd z.symm hi) id) hl
theorem Rel.wipe (R : Rel E L ks γ σ H) (vs : List Nat) : Rel E L ks (wipeG γ vs) (wipe σ vs) H where
  old := R.old
  onn := R.onn
  bag := R.bag
  a0 := R.a0
  aq := R.aq
  ar := R.ar
  lf := R.lf
  len := by rw [wipeG_length, wipe_length]; exact R.len
  sl := by
    obtain ⟨O, h1, h2, h3, h4⟩ := R.sl
    refine ⟨O, fun j y hy => ?_, h2, h3, h4⟩
    obtain ⟨e, n⟩ := wipeG_some hy
    obtain ⟨v, hv, k⟩ := h1 j y e
    exact ⟨v, by rw [wipe_at n]; exact hv, k⟩
def SameS (js : List Nat) (σ σ' : St) : Prop := σ'.length = σ.length ∧ ∀ i, i ∉ js → σ'[i]? = σ[i]?
theorem SameS.refl (js : List Nat) (σ : St) : SameS js σ σ := ⟨rfl, fun _ _ => rfl⟩
theorem SameS.trans {js : List Nat} {σ σ1 σ2 : St} (a : SameS js σ σ1) (b : SameS js σ1 σ2) : SameS js σ σ2 := ⟨b.1.trans a.1, fun i h => (b.2 i h).trans (a.2 i h)⟩
theorem SameS.set {js : List Nat} {σ : St} {i : Nat} {v : Option V} (h : i ∈ js) : SameS js σ (σ.set i v) := ⟨by simp, fun j n => List.getElem?_set_ne (fun z => n (by rw [← z]; exact h))⟩
theorem SameS.wipe {js vs : List Nat} {σ σ' : St} (h : SameS js (L2.wipe σ vs) σ') (s : ∀ j ∈ js, j ∈ vs) : L2.wipe σ' vs = L2.wipe σ vs := by
  have hl : σ'.length = σ.length := by rw [h.1, wipe_length]
  apply List.ext_getElem?
  intro i
  by_cases hi : i ∈ vs
  · by_cases hn : i < σ.length
    · rw [wipe_in hi hn, wipe_in hi (by omega)]
    · rw [List.getElem?_eq_none (by rw [wipe_length]; omega), List.getElem?_eq_none (by rw [wipe_length]; omega)]
  · rw [wipe_at hi, h.2 i (fun z => hi (s i z)), wipe_at hi]
end
abbrev GG := PV → G → (G → Prop) → Prop
abbrev GGs := List PV → G → (G → Prop) → Prop
def tG (K : Fg) (ks : List Kd) (a s : Bool) (js : List Nat) (g : GG) : TG := fun v σ H Q => ∃ (E : Ac) (L : List Addr) (γ : G) (x : PV) (Qp : G → Prop), E.B.K = K ∧ Rel E L ks γ σ H ∧ Rp E.B (av E L a s) H x v ∧ g x γ Qp ∧
  ∀ γ' σ', Qp γ' → Rel E L ks γ' σ' H → SameS js σ σ' → Q σ' H
def tGs (K : Fg) (ks : List Kd) (a s : Bool) (js : List Nat) (g : GGs) : TGs := fun v σ H Q => ∃ (E : Ac) (L : List Addr) (γ : G) (x : List PV) (Qp : G → Prop), E.B.K = K ∧ Rel E L ks γ σ H ∧ RpL E.B (av E L a s) H x v ∧ g x γ Qp ∧
  ∀ γ' σ', Qp γ' → Rel E L ks γ' σ' H → SameS js σ σ' → Q σ' H
def pgName (i : Nat) : GG := fun x γ Q => Q (γ.set i (some x))
def pgsNil : GGs := fun xs γ Q => match xs with | [] => Q γ | _ => False
def pgsCons (g : GG) (t : GGs) : GGs := fun xs γ Q => match xs with | x :: xs => g x γ fun γ1 => t xs γ1 Q | [] => False
def pgTup (t : GGs) : GG := fun x γ Q => match x with | .tup xs => t xs γ Q | _ => False
section
variable {X : Cx} {ks : List Kd} {a s : Bool} {js : List Nat} {tg e : Expr} {es : List Expr} {g : GG} {gs : GGs} {pos : Pos}
theorem PGi {t t' : TG} (h : PG X tg t) (i : ∀ v σ H Q, t' v σ H Q → t v σ H Q) : PG X tg t' := ⟨fun pins s σ H v u Q I r q => h.run pins s σ H v u Q I r (i _ _ _ _ q)⟩
theorem PGsi {t t' : TGs} (h : PGs X es t) (i : ∀ v σ H Q, t' v σ H Q → t v σ H Q) : PGs X es t' := ⟨fun pins s σ H v u Q I r q => h.run pins s σ H v u Q I r (i _ _ _ _ q)⟩
abbrev QG (X : Cx) (ks : List Kd) (a s : Bool) (js : List Nat) (tg : Expr) (g : GG) : Prop := PG X tg (tG X.K ks a s js g)
abbrev QGs (X : Cx) (ks : List Kd) (a s : Bool) (js : List Nat) (es : List Expr) (g : GGs) : Prop := PGs X es (tGs X.K ks a s js g)
/-- what a slot of a kind takes -/
def takes (k : Kd) (a s : Bool) : Bool := match k with
  | .sh => a && s
  | .bor => s
  | _ => false
theorem takes_ok {E : Ac} {L : List Addr} {H : Hp} {k : Kd} {x : PV} {v : V} (h : takes k a s = true) (r : Rp E.B (av E L a s) H x v) : Kr E L H k x v [] := by
  cases k with
  | sh => rw [takes, Bool.and_eq_true] at h; exact ⟨rfl, by rw [h.1, h.2] at r; exact r⟩
  | bor => have h : s = true := h; subst h; exact ⟨rfl, r.anti fun c z => av_mono (a' := false) (s' := true) (fun z => nomatch z) (fun _ => rfl) z⟩
  | _ => cases h
theorem getElem?_kd {ks : List Kd} {i : Nat} {k : Kd} (h : ks[i]? = some k) : kd ks i = k := by unfold kd; simp [List.getD, h]
theorem qg_name {i : Nat} {k : Kd} (hg : PG X tg (gName i)) (hk : ks[i]? = some k := by rfl) (ht : takes k a s = true := by rfl) (hj : i ∈ js := by decide) : QG X ks a s js tg (pgName i) :=
  PGi hg fun v σ H Q ⟨E, L, γ, x, Qp, hK, R, r, hp, q⟩ => q _ _ hp (by
    have := R.set (i := i) (takes_ok ht r) (List.getElem?_eq_some_iff.mp hk).1
    rw [set_same hk] at this; exact this) (.set hj)
theorem qgs_nil : QGs X ks a s js [] pgsNil :=
  PGsi pgs_nil fun v σ H Q ⟨E, L, γ, x, Qp, hK, R, r, hp, q⟩ => by
    cases r with
    | nil => exact ⟨rfl, q _ _ hp R (.refl _ _)⟩
    | cons _ _ => exact (hp : False).elim
theorem qgs_cons (h : QG X ks a s js e g) (t : QGs X ks a s js es gs) (hs : (assignEach (e :: es) X.env).map (·.2) = assign e X.env :: (assignEach es X.env).map (·.2) := by rfl) : QGs X ks a s js (e :: es) (pgsCons g gs) :=
  PGsi (pgs_cons h t hs) fun v σ H Q ⟨E, L, γ, x, Qp, hK, R, r, hp, q⟩ => by
    cases r with
    | nil => exact (hp : False).elim
    | cons r1 r2 => exact ⟨_, _, rfl, E, L, γ, _, _, hK, R, r1, hp, fun γ1 σ1 q1 R1 s1 => ⟨E, L, γ1, _, _, hK, R1, r2, q1, fun γ2 σ2 q2 R2 s2 => q _ _ q2 R2 (s1.trans s2)⟩⟩
theorem qg_tup {k : Nat} {n : Nat} (hc : X.calm = true) (h : QGs X ks a s js es gs) (hl : ∀ xs γ Q, gs xs γ Q → xs.length = n) (hn : (assignEach es X.env).length = n := by rfl) (hst : (assignEach es X.env).findIdx? (·.1) = none := by rfl) : QG X ks a s js (.Tuple es k pos) (pgTup gs) :=
  PGi (pg_tup hc h hn hst) fun v σ H Q ⟨E, L, γ, x, Qp, hK, R, r, hp, q⟩ => by
    cases r with
    | tup h1 r => exact ⟨_, _, rfl, hK ▸ h1.sq, by rw [← r.length]; exact hl _ _ _ hp, E, L, γ, _, Qp, hK, R, r, hp, q⟩
    | _ => exact (hp : False).elim
theorem gl0 : ∀ xs γ Q, pgsNil xs γ Q → xs.length = 0
  | [], _, _, _ => rfl
  | _ :: _, _, _, h => (h : False).elim
/-- a pure target asks for its continuation -/
def Mono (gs : GGs) (n : Nat) : Prop := ∀ xs γ Q, gs xs γ Q → xs.length = n
def MonoG (g : GG) : Prop := ∀ x γ (Q : G → Prop), g x γ Q → ∃ γ', Q γ'
theorem mg_name {i : Nat} : MonoG (pgName i) := fun _ _ _ h => ⟨_, h⟩
theorem ml_nil : Mono pgsNil 0 := gl0
theorem ml_cons {n : Nat} (h : MonoG g) (t : Mono gs n) : Mono (pgsCons g gs) (n + 1) := fun xs γ Q k => by
  cases xs with
  | nil => exact (k : False).elim
  | cons x xs =>
    obtain ⟨γ', q⟩ := h _ _ _ (show g x γ _ from k)
    simp [t _ _ _ q]
theorem mg_tup {n : Nat} (h : Mono gs n) (hh : ∀ xs γ (Q : G → Prop), gs xs γ Q → ∃ γ', Q γ') : MonoG (pgTup gs) := fun x γ Q k => by
  cases x <;> first | exact (k : False).elim | exact hh _ _ _ k
theorem me_nil : ∀ xs γ (Q : G → Prop), pgsNil xs γ Q → ∃ γ', Q γ'
  | [], γ, _, h => ⟨γ, h⟩
  | _ :: _, _, _, h => (h : False).elim
theorem me_cons (h : MonoG g) (t : ∀ xs γ (Q : G → Prop), gs xs γ Q → ∃ γ', Q γ') : ∀ xs γ (Q : G → Prop), pgsCons g gs xs γ Q → ∃ γ', Q γ'
  | [], _, _, k => (k : False).elim
  | x :: xs, γ, Q, k => by
    obtain ⟨γ1, q⟩ := h _ _ _ (show g x γ _ from k)
    exact t _ _ _ q
end
structure ItOk (E : Ac) (L : List Addr) (H : Hp) (a : Bool) (xs : List PV) (J : It) : Prop where
  ex : ∃ P : List Addr → Hp → Prop, P L H ∧ (∀ L H L' H', P L H → Fw E.B L H L' H' → P L' H') ∧
    (∀ i L H, P L H → i < xs.length → J.go i H ∧ ∀ v H', J.yld i H v H' → Ex E.B H H' ∧ ∃ x, xs[i]? = some x ∧ Rp E.B (av E L a true) H' x v) ∧ ∀ i L H, P L H → xs.length ≤ i → J.stop i H
def tI (K : Fg) (ks : List Kd) (a : Bool) (p : GA) : TI := fun σ H R => ∃ (E : Ac) (L : List Addr) (γ : G) (Qp : List PV → Prop), E.B.K = K ∧ Rel E L ks γ σ H ∧ p γ Qp ∧ ∀ xs J H', Qp xs → Ex E.B H H' → ItOk E L H' a xs J → R J H'
abbrev QI (X : Cx) (ks : List Kd) (a : Bool) (tg e : Expr) (p : GA) : Prop := PI X tg e (tI X.K ks a p)
section
variable {X : Cx} {ks : List Kd} {a s a1 a2 : Bool} {tg e e1 e2 : Expr} {es : List Expr} {p p1 p2 : GE} {pa : GA} {pos : Pos}
theorem PIi {t t' : TI} (h : PI X tg e t) (i : ∀ σ H R, t' σ H R → t σ H R) : PI X tg e t' := ⟨fun pins s σ H R I q => h.run pins s σ H R I (i _ _ _ q)⟩
def chars (z : Str) : List PV := z.cps.toList.map fun c => .str ⟨#[c]⟩
def pItS (p : GE) : GA := fun γ Q => p γ fun x => match x with | .str z => Q (chars z) | _ => False
def upTo (i : Int) (n : Nat) : List PV := (List.range n).map fun k => .int (i + (k : Nat))
def pRng (p : GE) : GA := fun γ Q => p γ fun x => match x with | .int j => (-(2 ^ 62) ≤ j ∧ j < 2 ^ 62) ∧ Q (upTo 0 j.toNat) | _ => False
/-- a list that is not changed meanwhile -/
def LstP (E : Ac) (a : Bool) (b : Addr) (xs : List PV) (vs : List V) : List Addr → Hp → Prop := fun L H => H b = some (.lst vs) ∧ b ∉ L ∧ b ≠ E.B.q ∧ RpL E.B (av E L a true) H xs vs
theorem LstP.fw {E : Ac} {a : Bool} {b : Addr} {xs : List PV} {vs : List V} {L L' : List Addr} {H H' : Hp} (h : LstP E a b xs vs L H) (f : Fw E.B L H L' H') : LstP E a b xs vs L' H' :=
  ⟨f.st _ _ h.1 h.2.1 h.2.2.1, fun z => (f.ls b z).elim h.2.1 (fun e => by rw [h.1] at e; cases e), h.2.2.1, h.2.2.2.fw f⟩
def TupP (E : Ac) (a : Bool) (b : Addr) (xs : List PV) (vs : List V) : List Addr → Hp → Prop := fun L H => STp E.B.K H b vs ∧ RpL E.B (av E L a true) H xs vs
theorem TupP.fw {E : Ac} {a : Bool} {b : Addr} {xs : List PV} {vs : List V} {L L' : List Addr} {H H' : Hp} (h : TupP E a b xs vs L H) (f : Fw E.B L H L' H') : TupP E a b xs vs L' H' :=
  ⟨h.1.elim (fun h => .inl (f.tp _ _ h)) .inr, h.2.fw f⟩
theorem qi_str (h : QE X ks a s e p) : QI X ks true tg e (pItS p) :=
  PIi (pi_str h) fun σ H R ⟨E, L, γ, Qp, hK, Rl, hp, k⟩ => by
    refine ⟨E, L, γ, _, hK, Rl, hp, fun x v H1 q1 x1 r1 => ?_⟩
    cases r1 <;> first | exact q1.elim | skip
    rename_i z
    have hl : (chars z).length = z.cps.size := by simp [chars]
    refine ⟨z, rfl, k _ _ H1 q1 x1 ⟨fun _ _ => True, trivial, fun _ _ _ _ _ _ => trivial, fun i L H _ hi => ⟨by show i < z.cps.size; omega, fun v H' ⟨e1, c, e2, e3⟩ => ?_⟩, fun i L H _ hi => by show z.cps.size ≤ i; omega⟩⟩
    subst e1; subst e3
    exact ⟨.refl _ _, .str ⟨#[c]⟩, by simp [chars, e2], .str _⟩
theorem qi_rng {q1 : Pos} (hg : Gl X "range") (hm : X.mg "range" = none) (h : QE X ks a s e p) (hs : starEach [e] X.env = [(false, eval e X.env)] := by rfl) : QI X ks true tg (.Call (.Name "range" q1) [e] [] pos) (pRng p) :=
  PIi (pi_range1 hg hm (pa_cons h pa_nil hs) hs) fun σ H R ⟨E, L, γ, Qp, hK, Rl, hp, k⟩ => by
    refine ⟨E, L, γ, _, hK, Rl, hp, fun x v H1 q1 x1 r1 => ?_⟩
    cases r1 <;> first | exact q1.elim | skip
    rename_i j
    have hl : (upTo 0 j.toNat).length = j.toNat := by simp [upTo]
    refine ⟨j, rfl, q1.1.1, q1.1.2, k _ _ H1 q1.2 x1 ⟨fun _ _ => True, trivial, fun _ _ _ _ _ _ => trivial, fun i L H _ hi => ⟨by show i < j.toNat; omega, fun v H' ⟨e1, e2⟩ => ?_⟩, fun i L H _ hi => by show j.toNat ≤ i; omega⟩⟩
    subst e1; subst e2
    exact ⟨.refl _ _, .int (0 + (i : Nat)), by simp [upTo, List.getElem?_map, List.getElem?_range (show i < j.toNat by omega)], .int _⟩
end
end Vl
namespace Vl
open PySem PySem.Spec L2 Lb
def pYes : GT := fun _ Q => Q true
def lcP (g : GG) (t : GT) (e : GE) (γ : G) : List PV → (List PV → Prop) → Prop
  | [], Q => Q []
  | x :: xs, Q => g x γ fun γ2 => t γ2 fun b => bfi b (e γ2 fun y => lcP g t e γ xs fun ys => Q (y :: ys)) (lcP g t e γ xs Q)
def pLc (vs : List Nat) (it : GA) (g : GG) (t : GT) (e : GE) : GE := fun γ Q => it γ fun xs => xs.length ≤ sizeLine ∧ lcP g t e (wipeG γ vs) xs fun ys => Q (.lst ys)
section
variable {X : Cx} {ks : List Kd} {a s a1 a2 : Bool} {tg e : Expr} {ifs : List Expr} {p : GE} {pa : GA} {g : GG} {pt : GT} {pos : Pos} {js vs : List Nat}
abbrev QTs (X : Cx) (ks : List Kd) (ifs : List Expr) (p : GT) : Prop := PTs X ifs (tT X.K ks p)
theorem qts_nil : QTs X ks [] pYes := ⟨fun pins s σ H Q I ⟨E, L, γ, Qp, hK, R, hp, k⟩ => pts_nil.run pins s σ H Q I (k true H hp (.refl _ _))⟩
/-- a new object's address joins the own ones -/
theorem Rel.more {E : Ac} {L : List Addr} {γ : G} {σ : St} {H H' : Hp} {D : Addr} (R : Rel E L ks γ σ H) (x : Ex E.B H H') (n : H D = none) (m : H' D ≠ none) : Rel E (D :: L) ks γ σ H' where
  old := (R.ex x).old
  onn := (R.ex x).onn
  bag := (R.ex x).bag
  a0 := R.a0
  aq := R.aq
  ar := R.ar
  lf := fun a h => by
    rcases List.mem_cons.mp h with rfl | h
    · refine ⟨?_, m⟩
      cases q : E.H0 a with
      | none => rfl
      | some o => exact absurd n (R.onn a (by rw [q]; exact nofun))
    · exact ⟨(R.lf a h).1, x.nn a (R.lf a h).2⟩
  len := R.len
  sl := by
    obtain ⟨O, h1, h2, h3, h4⟩ := R.sl
    refine ⟨O, fun i y hx => ?_, fun i a m => List.mem_cons_of_mem _ (h2 i a m), h3, h4⟩
    obtain ⟨v, hv, k⟩ := h1 i y hx
    exact ⟨v, hv, k.mv (fun a u e n _ => x.st a u e n) x.tp (fun a m => (List.mem_cons.mp m).elim (fun z => .inr (by rw [z]; exact n)) .inl) fun a m u e => x.st a u e (R.lq (h2 i a m))⟩
theorem Fw.more {B : Bg} {L : List Addr} {H H' : Hp} {D : Addr} (x : Ex B H H') (n : H D = none) : Fw B L H (D :: L) H' where
  st := fun a u e _ m => x.st a u e m
  tp := x.tp
  nn := x.nn
  ls := fun a m => (List.mem_cons.mp m).elim (fun z => .inr (by rw [z]; exact n)) .inl
theorem Ex.inner {B : Bg} {H H' : Hp} {D : Addr} {o : HO} (x : Ex B H H') (n : H D = none) (b : BagOk B H) : Ex B H (upd H' D o) := by
  have k : ∀ a u, H a = some u → a ≠ D := fun a u e => ne_of_none e n
  refine ⟨fun a u e m => by rw [upd_ne (k a u e)]; exact x.st a u e m, fun a u e => by rw [upd_ne (k a _ e)]; exact x.tp a u e, fun a h => ?_, fun _ => ?_⟩
  · by_cases z : a = D
    · rw [z, upd_same]; exact nofun
    · rw [upd_ne z]; exact x.nn a h
  · have hb := x.bg b
    obtain ⟨_, _, _, _, h1, h2, _⟩ := b
    exact hb.stay (fun u e => by rw [upd_ne (k _ _ h1)]; exact e) fun u e => by rw [upd_ne (k _ _ h2)]; exact e
theorem RpL.inner {E : Ac} {L : List Addr} {a : Bool} {H : Hp} {D : Addr} {o : HO} {x : List PV} {v : List V} (h : RpL E.B (av E (D :: L) a true) H x v) (nt : ∀ vs, H D ≠ some (.tup vs)) : RpL E.B (av E (D :: L) a true) (upd H D o) x v :=
  h.mv (fun b u e n => by rw [upd_ne (fun z => n (.inr (.inr ⟨rfl, by rw [z]; simp⟩)))]; exact e) (fun b u e => by rw [upd_ne (fun z => nt u (by rw [← z]; exact e))]; exact e) fun _ z _ => z
theorem Rp.inner {E : Ac} {L : List Addr} {a : Bool} {H : Hp} {D : Addr} {o : HO} {x : PV} {v : V} (h : Rp E.B (av E (D :: L) a true) H x v) (nt : ∀ vs, H D ≠ some (.tup vs)) : Rp E.B (av E (D :: L) a true) (upd H D o) x v :=
  h.mv (fun b u e n => by rw [upd_ne (fun z => n (.inr (.inr ⟨rfl, by rw [z]; simp⟩)))]; exact e) (fun b u e => by rw [upd_ne (fun z => nt u (by rw [← z]; exact e))]; exact e) fun _ z _ => z
/-- the loop of a list comprehension by plain values -/
theorem lc_ok {E : Ac} {L : List Addr} {γ : G} {σ : St} {H : Hp} {Q : VK} {Qp : PV → Prop} (hK : E.B.K = X.K) (R : Rel E L ks γ σ H) (hp : pLc vs pa g pt p γ Qp) (hj : ∀ j ∈ js, j ∈ vs)
    (k : ∀ ys acc D H', Qp (.lst ys) → Ex E.B H H' → H D = none → H' D = some (.lst acc) → RpL E.B (av E (D :: L) a true) H' ys acc → Q (.ref D) H') :
    tLc (tI X.K ks a1 pa) (tG X.K ks a1 true js g) (tT X.K ks pt) (tE X.K ks a true p) vs σ H Q := by
  refine ⟨E, L, γ, _, hK, R, hp, fun xs J H1 ⟨hz, hq⟩ x1 ⟨P, p0, pf, pg, ps⟩ D nD => ?_⟩
  have R1 := R.ex x1
  have nH : H D = none := x1.free nD
  refine ⟨fun i m H => m = xs.length - i ∧ ∃ acc ys Qk, Ex E.B H1 H ∧ H D = some (.lst acc) ∧ RpL E.B (av E (D :: L) a true) H ys acc ∧ ys.length ≤ i ∧ lcP g pt p (wipeG γ vs) (xs.drop i) Qk ∧ ∀ zs, Qk zs → Qp (.lst (ys ++ zs)), ⟨_, rfl, [], [], _, .new nD, upd_same, .nil, by simp, hq, fun zs q => q⟩, ?_⟩
  rintro i m H2 ⟨rfl, acc, ys, Qk, x2, hD, ra, hl, hk, hQ⟩
  have Rm : Rel E (D :: L) ks γ σ H2 := R1.more x2 nD (by rw [hD]; exact nofun)
  have f2 : Fw E.B L H1 (D :: L) H2 := .more x2 nD
  by_cases hi : i < xs.length
  · right
    obtain ⟨go, yl⟩ := pg i (D :: L) H2 (pf _ _ _ _ p0 f2) hi
    refine ⟨go, fun H' => ∃ m', m' < xs.length - i ∧ (m' = xs.length - (i + 1) ∧ ∃ acc ys Qk, Ex E.B H1 H' ∧ H' D = some (.lst acc) ∧ RpL E.B (av E (D :: L) a true) H' ys acc ∧ ys.length ≤ i + 1 ∧ lcP g pt p (wipeG γ vs) (xs.drop (i + 1)) Qk ∧ ∀ zs, Qk zs → Qp (.lst (ys ++ zs))), fun H' h => h, fun v H3 hy => ?_⟩
    obtain ⟨x3, y, hy, ry⟩ := yl v H3 hy
    have hd : xs.drop i = y :: xs.drop (i + 1) := by
      rw [List.drop_eq_getElem_cons hi]
      rw [List.getElem?_eq_getElem hi] at hy; cases hy; rfl
    rw [hd] at hk
    have R3 := (Rm.ex x3).wipe vs
    refine ⟨E, D :: L, wipeG γ vs, y, _, hK, R3, ry, hk, fun γ2 σ2 q2 R4 ss => ⟨ss.wipe hj, E, D :: L, γ2, _, hK, R4, q2, fun b H4 q4 x4 => ?_⟩⟩
    have hDl : D ∈ D :: L := by simp
    cases b with
    | false =>
      refine ⟨_, by omega, rfl, acc, ys, Qk, x2.trans (x3.trans x4), x4.st _ _ (x3.st _ _ hD (Rm.lq hDl)) (Rm.lq hDl), (ra.ex x3 av_q).ex x4 av_q, by omega, q4, hQ⟩
    | true =>
      show if true = true then _ else _
      rw [if_pos rfl]
      refine ⟨E, D :: L, γ2, _, hK, R4.ex x4, q4, fun z t H5 q5 x5 r5 => ?_⟩
      have x6 := x3.trans (x4.trans x5)
      have hD5 := x6.st _ _ hD (Rm.lq hDl)
      have nt : ∀ vs, H5 D ≠ some (.tup vs) := fun vs => by rw [hD5]; exact nofun
      have ra5 := ra.ex x6 av_q
      refine ⟨acc, hD5, by rw [← ra.length]; omega, _, by omega, rfl, acc ++ [t], ys ++ [z], _, (x2.trans x6).inner nD R1.bag, upd_same, (ra5.inner nt).append (.cons (r5.inner nt) .nil), by simp; omega, q5, fun zs q => by simpa using hQ _ q⟩
  · left
    have hi := Nat.not_lt.mp hi
    refine ⟨ps i (D :: L) H2 (pf _ _ _ _ p0 f2) hi, ?_⟩
    rw [List.drop_eq_nil_of_le hi] at hk
    exact k ys acc D H2 (by simpa using hQ [] hk) (x1.trans x2) nH hD ra
theorem av_cons {E : Ac} {L : List Addr} {a s : Bool} {D c : Addr} (h : av E L a s c) : av E (D :: L) a s c := by
  rcases h with h | h | ⟨h, m⟩
  · exact .inl h
  · exact .inr (.inl h)
  · exact .inr (.inr ⟨h, List.mem_cons_of_mem _ m⟩)
theorem qe_lc {elt iter : Expr} {scope : Scope} {own : List (Str × Nat)} (pe : ∀ {wi : TI} {g : TG} {tt : TT} {te : TE}, PI X tg iter wi → (∀ (s : Shared) (H : Hp) (C : Addr) (cl : List (Str × Addr)) (fp : List Addr), PG (X.blk s H scope (compEnvC scope cl C X.env) fp) tg g) →
      (∀ (s : Shared) (H : Hp) (C : Addr) (cl : List (Str × Addr)) (fp : List Addr), PTs (X.blk s H scope (compEnvC scope cl C X.env) fp) ifs tt) → (∀ (s : Shared) (H : Hp) (C : Addr) (cl : List (Str × Addr)) (fp : List Addr), PE (X.blk s H scope (compEnvC scope cl C X.env) fp) elt te) → PE X e (tLc wi g tt te (own.map (·.2))))
    (hi : QI X ks a1 tg iter pa) (hg : ∀ (s : Shared) (H : Hp) (C : Addr) (cl : List (Str × Addr)) (fp : List Addr), QG (X.blk s H scope (compEnvC scope cl C X.env) fp) ks a1 true (own.map (·.2)) tg g)
    (ht : ∀ (s : Shared) (H : Hp) (C : Addr) (cl : List (Str × Addr)) (fp : List Addr), QTs (X.blk s H scope (compEnvC scope cl C X.env) fp) ks ifs pt) (he : ∀ (s : Shared) (H : Hp) (C : Addr) (cl : List (Str × Addr)) (fp : List Addr), QE (X.blk s H scope (compEnvC scope cl C X.env) fp) ks a true elt p) :
    QE X ks a true e (pLc (own.map (·.2)) pa g pt p) :=
  PEi (pe hi hg ht he) fun σ H Q ⟨E, L, γ, Qp, hK, R, hp, k⟩ => lc_ok hK R hp (fun _ h => h) fun ys acc D H' q x n h r => k _ _ H' q x (.lst (fun z => av_nn R z n) h (r.anti fun c z => av_cons z))
end
end Vl
namespace Vl
open PySem PySem.Spec L2 Lb
def pNext : GS := fun D γ => D.nx γ
def pSeq (p q : GS) : GS := fun D γ => p { D with nx := q D } γ
def pRet (e : GE) : GS := fun D γ => e γ fun x => D.rt x γ
def pIf (t : GT) (p q : GS) : GS := fun D γ => t γ fun b => bfi b (p D γ) (q D γ)
def pSet (i : Nat) (e : GE) : GS := fun D γ => e γ fun x => D.nx (γ.set i (some x))
def pAsg (e : GE) (g : GG) : GS := fun D γ => e γ fun x => g x γ D.nx
def pPar (i j : Nat) (t : GA) : GS := fun D γ => t γ fun xs => match xs with | [x, y] => D.nx ((γ.set i (some x)).set j (some y)) | _ => False
def forP (g : GG) (b : GS) (D : GD) : List PV → G → Prop
  | [], γ => D.nx γ
  | x :: xs, γ => g x γ fun γ1 => b { D with nx := forP g b D xs, ct := forP g b D xs, bk := D.nx } γ1
def pFor (it : GA) (g : GG) (b : GS) : GS := fun D γ => it γ fun xs => forP g b D xs γ
def pApp (i : Nat) (e : GE) : GS := fun D γ => getS γ i fun x => match x with | .lst xs => e γ fun y => xs.length < sizeLine ∧ D.nx (γ.set i (some (.lst (xs ++ [y])))) | _ => False
def pSetIx (i : Nat) (k e : GE) : GS := fun D γ => e γ fun y => getS γ i fun x => k γ fun n => match x, n with
  | .lst xs, .int n => (match ixN xs.length n with | some j => D.nx (γ.set i (some (.lst (xs.set j y)))) | none => False)
  | _, _ => False
section
variable {X : Cx} {ks ks' ks1 kl : List Kd} {a s a1 s1 a2 s2 : Bool} {e e1 e2 tg : Expr} {es : List Expr} {st : Stmt} {sts sts' : List Stmt} {p p1 p2 : GE} {pa : GA} {pt : GT} {ps q : GS} {g g' : GG} {pos : Pos} {js js' : List Nat}
theorem qb_nil : QB X ks ks kl [] pNext := PSsi pss_nil fun D σ H ⟨E, L, γ, Dp, hK, R, hp, nx, rt, bk, ct⟩ => nx L γ σ H (.refl _ _ _) R hp
theorem qb_one (h : QS X ks ks' kl st ps) : QB X ks ks' kl [st] ps := pss_one h
theorem qb_cons (h1 : QS X ks ks1 kl st ps) (h2 : QB X ks1 ks' kl sts q) : QB X ks ks' kl (st :: sts) (pSeq ps q) :=
  PSsi (pss_cons h1 h2) fun D σ H ⟨E, L, γ, Dp, hK, R, hp, nx, rt, bk, ct⟩ =>
    ⟨E, L, γ, { Dp with nx := q Dp }, hK, R, hp, fun L1 γ1 σ1 H1 f1 R1 q1 => ⟨E, L1, γ1, Dp, hK, R1, q1, fun L2 γ2 σ2 H2 f2 R2 q2 => nx L2 γ2 σ2 H2 (f1.trans f2) R2 q2, rt, fun L2 γ2 σ2 H2 f2 R2 q2 => bk L2 γ2 σ2 H2 (f1.trans f2) R2 q2, fun L2 γ2 σ2 H2 f2 R2 q2 => ct L2 γ2 σ2 H2 (f1.trans f2) R2 q2⟩, rt, bk, ct⟩
/-- a block that never ends behind its last statement may stand for any kinds -/
theorem qs_ret (h : QE X ks true s e p) : QS X ks ks' kl (.Return (some e) pos) (pRet p) :=
  PSi (ps_ret h) fun D σ H ⟨E, L, γ, Dp, hK, R, hp, nx, rt, bk, ct⟩ => ⟨E, L, γ, _, hK, R, hp, fun x v H1 q1 x1 r1 =>
    rt x γ v H1 ⟨r1.anti fun c z => .inr (.inl ⟨rfl, z⟩), (R.ex x1).old, (R.ex x1).onn, (R.ex x1).bag⟩ q1⟩
theorem qs_if (ht : QT X ks e pt) (h1 : QB X ks ks' kl sts ps) (h2 : QB X ks ks' kl sts' q) : QS X ks ks' kl (.If e sts sts' pos) (pIf pt ps q) :=
  PSi (ps_if ht h1 h2) fun D σ H ⟨E, L, γ, Dp, hK, R, hp, nx, rt, bk, ct⟩ => by
    refine ⟨E, L, γ, _, hK, R, hp, fun b H1 q1 x1 => ?_⟩
    have f : ∀ {L' H'}, Fw E.B L H1 L' H' → Fw E.B L H L' H' := fun f => Fw.trans x1.fw f
    cases b with
    | true => show if true = true then _ else _; rw [if_pos rfl]; exact ⟨E, L, γ, Dp, hK, R.ex x1, q1, fun L2 γ2 σ2 H2 f2 R2 q2 => nx L2 γ2 σ2 H2 (f f2) R2 q2, rt, fun L2 γ2 σ2 H2 f2 R2 q2 => bk L2 γ2 σ2 H2 (f f2) R2 q2, fun L2 γ2 σ2 H2 f2 R2 q2 => ct L2 γ2 σ2 H2 (f f2) R2 q2⟩
    | false => exact ⟨E, L, γ, Dp, hK, R.ex x1, q1, fun L2 γ2 σ2 H2 f2 R2 q2 => nx L2 γ2 σ2 H2 (f f2) R2 q2, rt, fun L2 γ2 σ2 H2 f2 R2 q2 => bk L2 γ2 σ2 H2 (f f2) R2 q2, fun L2 γ2 σ2 H2 f2 R2 q2 => ct L2 γ2 σ2 H2 (f f2) R2 q2⟩
/-- x = e -/
theorem qs_setG {i : Nat} {k : Kd} (pe : ∀ {t : TE}, PE X e t → PS X st (tAsg t (gName i))) (h : QE X ks a s e p) (hk : ks[i]? = some k := by rfl) (ht : takes k a s = true := by rfl) : QS X ks ks kl st (pSet i p) :=
  PSi (pe h) fun D σ H ⟨E, L, γ, Dp, hK, R, hp, nx, rt, bk, ct⟩ => ⟨E, L, γ, _, hK, R, hp, fun x v H1 q1 x1 r1 => nx L _ _ H1 x1.fw (by
    have := (R.ex x1).set (i := i) (takes_ok ht r1) (List.getElem?_eq_some_iff.mp hk).1
    rw [set_same hk] at this; exact this) q1⟩
/-- x = a new list or dict of one's own -/
theorem qs_setN {i : Nat} (pe : ∀ {t : TE}, PE X e t → PS X st (tAsg t (gName i))) (h : QN X ks e p) (hi : i < ks.length := by decide) : QS X ks (ks.set i .own) kl st (pSet i p) :=
  PSi (pe h) fun D σ H ⟨E, L, γ, Dp, hK, R, hp, nx, rt, bk, ct⟩ => ⟨E, L, γ, _, hK, R, hp, fun x b H1 q1 x1 nb ob => by
    have hb : H1 b ≠ none := by cases x <;> first | exact (ob : False).elim | (obtain ⟨_, h, _⟩ := ob; rw [h]; exact nofun) | (obtain ⟨_, _, h, _⟩ := ob; rw [h]; exact nofun)
    have R1 := R.more x1 nb hb
    have nL : b ∉ L := fun z => (R.lf b z).2 nb
    refine nx (b :: L) _ _ H1 (.more x1 nb) (R.put (i := i) (k := .own) (x := x) (v := .ref b) (O' := [b]) (.more x1 nb) (fun c m _ o e => x1.st c o e (R.lq m)) R1.old R1.bag (fun c h => (List.mem_cons.mp h).elim (fun z => .inr (by rw [z]; exact (R1.lf b (by simp)).1)) .inl) (fun a h => (R1.lf a h).2) (fun _ h => List.mem_cons_of_mem _ h) ⟨b, rfl, rfl, ?_⟩ (fun c m => by simp at m; simp [m]) (by simp) ?_ hi) q1
    · exact ob.mv (fun _ _ h _ => h) (fun _ _ h => h) (fun c z _ => by
        rcases z with z | z | ⟨_, z⟩
        · exact .inl (.inl z)
        · exact .inl (.inr (.inl z))
        · exact (List.mem_cons.mp z).elim .inr fun z => .inl (.inr (.inr ⟨rfl, z⟩))) fun _ h => h
    · intro O h2 h3 h1 j c hj hc m
      simp at hc; subst hc
      exact nL (h2 j c m)⟩
/-- targets -/
theorem qs_asg (pe : ∀ {t : TE} {g : TG}, PE X e t → PG X tg g → PS X st (tAsg t g)) (h : QE X ks a s e p) (hg : QG X ks a s js tg g) : QS X ks ks kl st (pAsg p g) :=
  PSi (pe h hg) fun D σ H ⟨E, L, γ, Dp, hK, R, hp, nx, rt, bk, ct⟩ => ⟨E, L, γ, _, hK, R, hp, fun x v H1 q1 x1 r1 => ⟨E, L, γ, x, _, hK, R.ex x1, r1, q1, fun γ' σ' q' R' _ => nx L γ' σ' H1 x1.fw R' q'⟩⟩
theorem qs_par {i j : Nat} {k k' : Kd} (pe : ∀ {t : TA}, PA X es t → PS X st (tPar i j t)) (h : QA X ks a s es pa) (hk : ks[i]? = some k := by rfl) (ht : takes k a s = true := by rfl) (hk' : ks[j]? = some k' := by rfl) (ht' : takes k' a s = true := by rfl) : QS X ks ks kl st (pPar i j pa) :=
  PSi (pe h) fun D σ H ⟨E, L, γ, Dp, hK, R, hp, nx, rt, bk, ct⟩ => ⟨E, L, γ, _, hK, R, hp, fun xs vs H1 q1 x1 r1 _ => by
    match xs, vs, r1, q1 with
    | [x, y], _, .cons (v := v) r1 (.cons (v := w) r2 .nil), q1 =>
      refine ⟨v, w, rfl, nx L _ _ H1 x1.fw ?_ q1⟩
      have h1 := (R.ex x1).set (i := i) (takes_ok ht r1) (List.getElem?_eq_some_iff.mp hk).1
      rw [set_same hk] at h1
      have h2 := h1.set (i := j) (takes_ok ht' r2) (List.getElem?_eq_some_iff.mp hk').1
      rw [set_same hk'] at h2; exact h2⟩
theorem qs_for {iter : Expr} (pe : ∀ {wi : TI} {g : TG} {tb : TS}, PI X tg iter wi → PG X tg g → PSs X sts tb → PS X st (tFor wi g tb)) (hi : QI X ks a tg iter pa) (hg : QG X ks a true js tg g) (hb : QB X ks ks ks sts ps) : QS X ks ks kl st (pFor pa g ps) :=
  PSi (pe hi hg hb) fun D σ H ⟨E, L, γ, Dp, hK, R, hp, nx, rt, bk, ct⟩ => by
    refine ⟨E, L, γ, _, hK, R, hp, fun xs J H1 hq x1 ⟨P, p0, pf, pg, pst⟩ => ?_⟩
    refine ⟨fun i m σ H2 => m = xs.length - i ∧ ∃ L' γ', Fw E.B L H1 L' H2 ∧ Rel E L' ks γ' σ H2 ∧ forP g ps Dp (xs.drop i) γ', ⟨_, rfl, L, γ, .refl _ _ _, R.ex x1, hq⟩, ?_⟩
    rintro i m σ2 H2 ⟨rfl, L2, γ2, f2, R2, h2⟩
    by_cases hi : i < xs.length
    · right
      obtain ⟨go, yl⟩ := pg i L2 H2 (pf _ _ _ _ p0 f2) hi
      refine ⟨go, fun σ' H' => ∃ m', m' < xs.length - i ∧ (m' = xs.length - (i + 1) ∧ ∃ L' γ', Fw E.B L H1 L' H' ∧ Rel E L' ks γ' σ' H' ∧ forP g ps Dp (xs.drop (i + 1)) γ'), fun _ _ h => h, fun v H3 hy => ?_⟩
      obtain ⟨x3, y, hy, ry⟩ := yl v H3 hy
      have hd : xs.drop i = y :: xs.drop (i + 1) := by
        rw [List.drop_eq_getElem_cons hi]
        rw [List.getElem?_eq_getElem hi] at hy; cases hy; rfl
      rw [hd] at h2
      refine ⟨E, L2, γ2, y, _, hK, R2.ex x3, ry, h2, fun γ3 σ3 q3 R3 _ => ⟨E, L2, γ3, _, hK, R3, q3, ?_, rt, ?_, ?_⟩⟩
      · intro L4 γ4 σ4 H4 f4 R4 q4
        exact ⟨_, by omega, rfl, L4, γ4, f2.trans (Fw.trans x3.fw f4), R4, q4⟩
      · intro L4 γ4 σ4 H4 f4 R4 q4
        exact nx L4 γ4 σ4 H4 (Fw.trans x1.fw (f2.trans (Fw.trans x3.fw f4))) R4 q4
      · intro L4 γ4 σ4 H4 f4 R4 q4
        exact ⟨_, by omega, rfl, L4, γ4, f2.trans (Fw.trans x3.fw f4), R4, q4⟩
    · left
      have hi := Nat.not_lt.mp hi
      refine ⟨pst i L2 H2 (pf _ _ _ _ p0 f2) hi, ?_⟩
      rw [List.drop_eq_nil_of_le hi] at h2
      exact nx L2 γ2 σ2 H2 (Fw.trans x1.fw f2) R2 h2
theorem Ob.nt {B : Bg} {A : Addr → Prop} {H : Hp} {b : Addr} {x : PV} (h : Ob B A H b x) : ∀ vs, H b ≠ some (.tup vs) := fun vs z => by
  cases x <;> first | exact (h : False).elim | (obtain ⟨_, h, _⟩ := h; rw [h] at z; cases z) | (obtain ⟨_, _, h, _⟩ := h; rw [h] at z; cases z)
theorem Rp.upL {E : Ac} {L : List Addr} {c : Bool} {H : Hp} {D : Addr} {o : HO} {x : PV} {v : V} (h : Rp E.B (av E L c true) H x v) (m : D ∈ L) (nt : ∀ vs, H D ≠ some (.tup vs)) : Rp E.B (av E L c true) (upd H D o) x v :=
  h.mv (fun b u e n => by rw [upd_ne (fun z => n (.inr (.inr ⟨rfl, by rw [z]; exact m⟩)))]; exact e) (fun b u e => by rw [upd_ne (fun z => nt u (by rw [← z]; exact e))]; exact e) fun _ z _ => z
theorem RpL.upL {E : Ac} {L : List Addr} {c : Bool} {H : Hp} {D : Addr} {o : HO} {x : List PV} {v : List V} (h : RpL E.B (av E L c true) H x v) (m : D ∈ L) (nt : ∀ vs, H D ≠ some (.tup vs)) : RpL E.B (av E L c true) (upd H D o) x v :=
  h.mv (fun b u e n => by rw [upd_ne (fun z => n (.inr (.inr ⟨rfl, by rw [z]; exact m⟩)))]; exact e) (fun b u e => by rw [upd_ne (fun z => nt u (by rw [← z]; exact e))]; exact e) fun _ z _ => z
theorem set_self {α : Type} {l : List α} {i : Nat} {x : α} (h : l[i]? = some x) : l.set i x = l := by
  apply List.ext_getElem?
  intro j
  by_cases hj : i = j
  · subst hj; rw [List.getElem?_set_self (List.getElem?_eq_some_iff.mp h).1, h]
  · rw [List.getElem?_set_ne hj]
theorem Fw.upd {B : Bg} {L : List Addr} {H : Hp} {b : Addr} {o : HO} (m : b ∈ L) (nt : ∀ vs, H b ≠ some (.tup vs)) : Fw B L H L (L2.upd H b o) where
  st := fun c u e n _ => by rw [upd_ne (fun z => n (by rw [z]; exact m))]; exact e
  tp := fun c u e => by rw [upd_ne (fun z => nt u (by rw [← z]; exact e))]; exact e
  nn := fun c h => by
    by_cases z : c = b
    · rw [z, upd_same]; exact nofun
    · rw [upd_ne z]; exact h
  ls := fun c h => .inl h
/-- an own slot's object is changed -/
theorem Rel.upd1 {E : Ac} {L : List Addr} {γ : G} {σ : St} {H : Hp} {i : Nat} {x : PV} (R : Rel E L ks γ σ H) (hk : ks[i]? = some .own) (hx : γ[i]? = some (some x)) : ∃ b, σ[i]? = some (some (.ref b)) ∧ b ∈ L ∧ Ob E.B (av E L true true) H b x ∧
    ∀ o x', Ob E.B (av E L true true) (upd H b o) b x' → Rel E L ks (γ.set i (some x')) σ (upd H b o) := by
  obtain ⟨O, h1, h2, h3, h4⟩ := R.sl
  obtain ⟨v, hv, k⟩ := h1 i x hx
  rw [getElem?_kd hk] at k
  obtain ⟨b, rfl, ho, ob⟩ := k
  have hb : b ∈ L := h2 i b (by rw [ho]; simp)
  refine ⟨b, hv, hb, ob, fun o x' ob' => ?_⟩
  have hr : b ≠ E.B.r := fun z => R.ar (by rw [← z]; exact (R.lf b hb).1)
  have := R.put (i := i) (k := .own) (x := x') (v := .ref b) (O' := [b]) (.upd (o := o) hb ob.nt) (fun c m n u e => by rw [upd_ne (fun z => n (by simp [z]))]; exact e)
    (fun c u e n => by rw [upd_ne (fun z => by rw [z, (R.lf b hb).1] at e; cases e)]; exact R.old c u e n) (R.bag.stay (fun u e => by rw [upd_ne (R.lq hb).symm]; exact e) fun u e => by rw [upd_ne hr.symm]; exact e)
    (fun c m => .inl m) (fun c m => (Fw.upd (B := E.B) hb ob.nt).nn c (R.lf c m).2) (fun _ h => h) ⟨b, rfl, rfl, ob'⟩ (fun c m => by simp at m; rw [m]; exact hb) (by simp) (fun O' g2 g3 g1 j c hj hc m => by
      simp at hc; subst hc
      obtain ⟨w, hw, kw⟩ := g1 i x hx
      rw [hv] at hw; cases hw
      rw [getElem?_kd hk] at kw
      obtain ⟨d, e1, e2, _⟩ := kw
      cases e1
      exact hj (g3 j i c m (by rw [e2]; simp))) (List.getElem?_eq_some_iff.mp hk).1
  rw [set_same hk, set_self hv] at this
  exact this
theorem qs_app {i : Nat} (pe : ∀ {t : TE}, PE X e t → PS X st (tDrop (tBM X.K "list" rAppend (tVar i) (tCons t tNil)))) (h : QE X ks true true e p) (hk : ks[i]? = some .own := by rfl) : QS X ks ks kl st (pApp i p) :=
  PSi (pe h) fun D σ H ⟨E, L, γ, Dp, hK, R, hp, nx, rt, bk, ct⟩ => by
    obtain ⟨x, hx, q⟩ := getS_of hp
    obtain ⟨b, hv, hb, ob, _⟩ := R.upd1 hk hx
    cases x <;> first | exact (q : False).elim | skip
    rename_i xs
    obtain ⟨vs, h1, r1⟩ := ob
    refine ⟨.ref b, hv, .inl ⟨rfl, vs, .inl (.inl h1)⟩, E, L, γ, _, hK, R, q, fun y u H1 q1 x1 ry => ?_⟩
    have R1 := R.ex x1
    obtain ⟨b', hv', hb', ob', up⟩ := R1.upd1 hk hx
    rw [hv] at hv'; cases hv'
    obtain ⟨vs', h1', r1'⟩ := ob'
    have nt : ∀ vs, H1 b ≠ some (.tup vs) := fun z => by rw [h1']; exact nofun
    refine ⟨b, vs', u, rfl, rfl, h1', by rw [← r1'.length]; exact q1.1, nx L _ _ _ (Fw.trans x1.fw (.upd hb nt)) (up _ (.lst (xs ++ [y])) ⟨vs' ++ [u], upd_same, (r1'.upL hb nt).append (.cons (ry.upL hb nt) .nil)⟩) q1.2⟩
theorem qs_setIx {i : Nat} {e3 : Expr} {p3 : GE} (pe : ∀ {t t' : TE}, PE X e t → PE X e3 t' → PS X st (tAsg t (gSub (tVar i) t' rSetL))) (h : QE X ks true true e p) (h3 : QE X ks a s e3 p3) (hk : ks[i]? = some .own := by rfl) : QS X ks ks kl st (pSetIx i p3 p) :=
  PSi (pe h h3) fun D σ H ⟨E, L, γ, Dp, hK, R, hp, nx, rt, bk, ct⟩ => by
    refine ⟨E, L, γ, _, hK, R, hp, fun y u H1 q1 x1 ry => ?_⟩
    obtain ⟨x, hx, q⟩ := getS_of q1
    obtain ⟨b, hv, hb, -, -⟩ := (R.ex x1).upd1 hk hx
    refine ⟨.ref b, hv, E, L, γ, _, hK, R.ex x1, q, fun n w H2 q2 x2 rn => ?_⟩
    have R2 := (R.ex x1).ex x2
    obtain ⟨b', hv', hb', ob', up⟩ := R2.upd1 hk hx
    rw [hv] at hv'; cases hv'
    cases x <;> first | exact (q2 : False).elim | skip
    cases rn <;> first | exact (q2 : False).elim | skip
    rename_i xs i
    obtain ⟨vs, h1, r1⟩ := ob'
    have nt : ∀ vs, H2 b ≠ some (.tup vs) := fun z => by rw [h1]; exact nofun
    cases e : ixN xs.length i with
    | none => simp only [e] at q2
    | some j =>
      simp only [e] at q2
      refine ⟨b, vs, i, j, rfl, rfl, h1, by rw [← r1.length]; exact e, nx L _ _ _ (Fw.trans (x1.trans x2).fw (.upd hb nt)) (up _ (.lst (xs.set j y)) ⟨vs.set j u, upd_same, (r1.upL hb nt).set j ((ry.ex x2 av_q).upL hb nt)⟩) q2⟩
end
end Vl
namespace Vl
open PySem PySem.Spec L2 Lb
abbrev PW := List PV → (PV → Prop) → Prop
/-- .. : all that it tells is new, whatever was handed in -/
def spF (n : Nat) (w : Vl.PW) (K : Fg) : Sp := fun vs H Q _ => ∃ (q r : Addr) (xs : List PV) (Qp : PV → Prop), vs.length = n ∧ BagOk ⟨K, q, r⟩ H ∧ RpL ⟨K, q, r⟩ (fun a => a = q) H xs vs ∧ w xs Qp ∧
  ∀ x v H', Qp x → Ex ⟨K, q, r⟩ H H' → Rp ⟨K, q, r⟩ (fun a => H a ≠ none) H' x v → Q v H'
def startG (N : Nat) (xs : List PV) : G := xs.map some ++ List.replicate (N - xs.length) none
def wF (N : Nat) (p : GS) : Vl.PW := fun xs Q => p ⟨fun _ => Q .non, fun x _ => Q x, fun _ => False, fun _ => False⟩ (startG N xs)
theorem start_get {N : List Str} {xs : List PV} {i : Nat} {x : PV} (h : (startG N.length xs)[i]? = some (some x)) : xs[i]? = some x := by
  unfold startG at h
  by_cases hi : i < xs.length
  · rw [List.getElem?_append_left (by simpa using hi), List.getElem?_map] at h
    cases e : xs[i]? with
    | none => rw [e] at h; cases h
    | some y => rw [e] at h; simp at h; rw [h]
  · rw [List.getElem?_append_right (by simpa using hi)] at h
    have := List.mem_of_getElem? h
    simp at this
theorem start_at {N : List Str} {vs : List V} {i : Nat} {v : V} (h : vs[i]? = some v) : (start N vs)[i]? = some (some v) := by
  unfold L2.start
  rw [List.getElem?_append_left (by simpa using (List.getElem?_eq_some_iff.mp h).1), List.getElem?_map, h]; rfl
theorem start_len {N : List Str} {xs : List PV} {vs : List V} (h : xs.length = vs.length) : (startG N.length xs).length = (start N vs).length := by
  simp [startG, L2.start, h]
theorem rel_startF {B : Bg} {H : Hp} {N : List Str} {xs : List PV} {vs : List V} {ks : List Kd} (bg : BagOk B H) (r : RpL B (fun a => a = B.q) H xs vs) (hk : ∀ i, i < xs.length → kd ks i = .bor) (me : Addr) : Rel ⟨B, fun a => H a ≠ none, H, me⟩ [] ks (startG N.length xs) (start N vs) H where
  old := fun _ _ h _ => h
  onn := fun _ h => h
  bag := bg
  a0 := fun _ h => h
  aq := bg.q
  ar := by obtain ⟨_, _, _, _, _, h, _⟩ := bg; show H B.r ≠ none; rw [h]; exact nofun
  lf := fun _ h => nomatch h
  len := start_len r.length
  sl := by
    refine ⟨fun _ => [], fun i x h => ?_, by simp, by simp, by simp⟩
    have h1 := start_get h
    obtain ⟨v, hv, rv⟩ := r.get h1
    refine ⟨v, start_at hv, ?_⟩
    rw [hk i (List.getElem?_eq_some_iff.mp h1).1]
    exact ⟨rfl, rv.anti fun c z => by
      rcases z with z | ⟨z, _⟩ | ⟨_, z⟩
      · exact z
      · cases z
      · cases z⟩
theorem ex_of {B : Bg} {H H' : Hp} (bg : BagOk B H) (old : ∀ a o, H a = some o → a ≠ B.q → H' a = some o) (onn : ∀ a, H a ≠ none → H' a ≠ none) (bg' : BagOk B H') : Ex B H H' :=
  ⟨old, fun a vs h => old a _ h (fun z => by obtain ⟨_, _, _, _, hq, _⟩ := bg; rw [z, hq] at h; cases h), onn, fun _ => bg'⟩
theorem ksh {ks : List Kd} {n : Nat} {k : Kd} (h : (ks.take n).all (fun x => decide (x = k)) = true) (hn : n ≤ ks.length) : ∀ i, i < n → kd ks i = k := fun i hi => by
  have h1 : (ks.take n)[i]? = ks[i]? := by rw [List.getElem?_take, if_pos hi]
  have h2 : i < ks.length := by omega
  have := List.all_eq_true.mp h (ks[i]) (List.mem_of_getElem? (i := i) (by rw [h1, List.getElem?_eq_getElem h2]))
  unfold kd; simp [List.getD, List.getElem?_eq_getElem h2]; simpa using this
section
variable {X : Cx} {N : List Str} {ks ks' kl : List Kd} {sts : List Stmt} {p : GS} {n c : Nat} {vs : List V} {H : Hp} {Q : VK} {E : XK}
theorem body_F (h : QB X ks ks' kl sts p) (hk : (ks.take n).all (fun x => decide (x = Kd.bor)) = true) (hn : n ≤ ks.length) (hs : spF n (wF N.length p) X.K vs H Q E) : ∃ t, PSs X sts t ∧ t { nx := fun _ H' => Q .non H', rt := Q } (start N vs) H := by
  obtain ⟨q, r, xs, Qp, hl, bg, rx, w, k⟩ := hs
  refine ⟨_, h, ⟨⟨X.K, q, r⟩, fun a => H a ≠ none, H, 0⟩, [], startG N.length xs, _, rfl, rel_startF bg rx (fun i hi => ksh hk hn i (by rw [rx.length, hl] at hi; exact hi)) 0, w, ?_, ?_, fun _ _ _ _ _ _ z => z.elim, fun _ _ _ _ _ _ z => z.elim⟩
  · intro L' γ' σ' H' _ R q1
    exact k .non .non H' q1 (ex_of bg R.old R.onn R.bag) .non
  · intro x γ' v H' ⟨r1, r2, r3, r4⟩ q1
    exact k x v H' q1 (ex_of bg r2 r3 r4) r1
theorem len_F {w : Vl.PW} {K : Fg} (h : spF n w K vs H Q E) : vs.length = n := by obtain ⟨_, _, _, _, h, _⟩ := h; exact h
end
def pCall (w : Vl.PW) (ds : List PV) (t : GA) : GE := fun γ Q => t γ fun xs => w (xs ++ ds) Q
section
variable {X : Cx} {ks : List Kd} {a s a1 s1 a2 s2 : Bool} {e o : Expr} {es : List Expr} {kws : List Keyword} {p : GE} {pa pk : GA} {pos : Pos} {n c m : Nat} {w : Vl.PW} {ds : List PV} {dvs : List V} {x : Str} {sp : Sp} {t : TE} {f : Str}
/-- values that stand whatever the heap: defaults -/
def Dfl (K : Fg) (ds : List PV) (dvs : List V) : Prop := ∀ q r A H, RpL ⟨K, q, r⟩ A H ds dvs
theorem dfl_nil {K : Fg} : Dfl K [] [] := fun _ _ _ _ => .nil
theorem Dfl.b {K : Fg} (h : Dfl K ds dvs) {B : Bg} (hK : B.K = K) (A : Addr → Prop) (H : Hp) : RpL B A H ds dvs := by subst hK; exact h _ _ _ _
theorem call_F {E : Ac} {L : List Addr} {γ : G} {σ : St} {H : Hp} {Q : VK} {XE : XK} {Qp : PV → Prop} {xs : List PV} {vs : List V} (hK : E.B.K = X.K) (R : Rel E L ks γ σ H) (r : RpL E.B (av E L a s) H xs vs) (hl : vs.length = n) (hw : w xs Qp)
    (k : ∀ z t H', Qp z → Ex E.B H H' → Rp E.B (av E L true true) H' z t → Q t H') : spF n w X.K vs H Q XE := by
  obtain ⟨⟨K, q, r0⟩, A0, H0, me⟩ := E
  cases hK
  exact ⟨q, r0, xs, Qp, hl, R.bag, r.q, hw, fun z t H' qz x rz => k z t H' qz x (rz.anti fun b z => av_nn R z)⟩
theorem qe_callF {ps : List Str} (pe : ∀ {t : TA}, PA X es t → PE X e (tCall (spF n w X.K) dvs E0 t)) (hd : Dfl X.K ds dvs) (h : QA X ks a s es pa) (hn : es.length + dvs.length = n := by rfl) : QE X ks true true e (pCall w ds pa) :=
  PEi (pe h) fun σ H Q ⟨E, L, γ, Qp, hK, R, hp, k⟩ => by
    refine ⟨E, L, γ, _, hK, R, hp, fun xs vs H1 q1 x1 r1 l1 => ?_⟩
    exact call_F hK (R.ex x1) (r1.append (hd.b hK _ _)) (by rw [List.length_append, ← r1.length, l1]; exact hn) q1 fun z t H' qz x2 rz => k z t H' qz (x1.trans x2) rz
end
end Vl
namespace Vl
open PySem PySem.Spec L2 Lb
section
variable {X : Cx} {ks ks' kl : List Kd} {a s a1 s1 a2 s2 a3 s3 : Bool} {e e1 e2 e3 tg : Expr} {es : List Expr} {st : Stmt} {sts sts' : List Stmt} {p p1 p2 p3 : GE} {pa pb : GA} {pt : GT} {ps q : GS} {g g' : GG} {pos : Pos} {js js' : List Nat}
theorem qe_add (h1 : QE X ks a1 s1 e1 p1) (h2 : QE X ks a2 s2 e2 p2) (ha : a = (a1 && a2) := by rfl) (hb : s = (s1 && s2) := by rfl) : QE X ks a s (.BinOp e1 .Add e2 pos) (pOp oAdd p1 p2) := by
  subst ha hb
  exact qe_op2 add_ok (pe_op op_addV) h1 h2
theorem qe_mul (h1 : QE X ks a1 s1 e1 p1) (h2 : QE X ks a2 s2 e2 p2) (ha : a = (a1 && a2) := by rfl) (hb : s = (s1 && s2) := by rfl) : QE X ks a s (.BinOp e1 .Mult e2 pos) (pOp oMul p1 p2) := by
  subst ha hb
  exact qe_op2 mul_ok (pe_op op_mulV) h1 h2
theorem qe_eq (hu : X.A.units + 64 < cLine) (h1 : QE X ks a1 s1 e1 p1) (h2 : QE X ks a2 s2 e2 p2) : QE X ks true true (.Compare e1 [.Eq] [e2] pos) (pOp oEq p1 p2) := qe_opS eq_ok (fun x y => pe_cmpR (op_eqA hu) x y (nomark _)) h1 h2
theorem qt_eq (hu : X.A.units + 64 < cLine) (h1 : QE X ks a1 s1 e1 p1) (h2 : QE X ks a2 s2 e2 p2) : QT X ks (.Compare e1 [.Eq] [e2] pos) (pTest (pOp oEq p1 p2)) := qt_opS eq_ok (fun x y => pt_cmpR (op_eqA hu) x y (nomark _)) h1 h2
theorem qt_ne (hu : X.A.units + 64 < cLine) (h1 : QE X ks a1 s1 e1 p1) (h2 : QE X ks a2 s2 e2 p2) : QT X ks (.Compare e1 [.NotEq] [e2] pos) (pTest (pOp oNe p1 p2)) := qt_opS ne_ok (fun x y => pt_cmpR (op_neA hu) x y (nomark _)) h1 h2
theorem qt_lt (h1 : QE X ks a1 s1 e1 p1) (h2 : QE X ks a2 s2 e2 p2) : QT X ks (.Compare e1 [.Lt] [e2] pos) (pTest (pOp oLt p1 p2)) := qt_opS lt_ok (fun x y => pt_cmpR op_ltA x y (nomark _)) h1 h2
theorem qe_gt (h1 : QE X ks a1 s1 e1 p1) (h2 : QE X ks a2 s2 e2 p2) : QE X ks true true (.Compare e1 [.Gt] [e2] pos) (pOp oGt p1 p2) := qe_opS gt_ok (fun x y => pe_cmpR op_gtA x y (nomark _)) h1 h2
theorem qe_in (h1 : QE X ks a1 s1 e1 p1) (h2 : QE X ks a2 s2 e2 p2) (hm : behindInMarks .In e2 = false := by rfl) : QE X ks true true (.Compare e1 [.In] [e2] pos) (pOp (oIn false) p1 p2) := qe_opS in_ok (fun x y => pe_cmpR op_inA x y hm) h1 h2
theorem qe_ix (h1 : QE X ks a1 s1 e1 p1) (h2 : QE X ks a2 s2 e2 p2) (hs : PlainIx e2 := by intro _ _; rfl) (ha : a = (a1 && a2) := by rfl) (hb : s = (s1 && s2) := by rfl) : QE X ks a s (.Subscript e1 e2 pos) (pOp oIx p1 p2) := by
  subst ha hb
  exact qe_op2 ix_ok (fun x y => pe_ix ix_seq x y hs) h1 h2
variable {x : Str} {p0 : Pos}
theorem qe_cbS {id : String} {r : List V → Hp → VK → Prop} {o : PCl} (ho : CallS X.K r o) (hc : CallR X (.builtin id) r) (hm : X.mg x = none) (hg : Gl X x) (hv : bootBuiltins x = some (.builtin id)) (h : QA X ks a s (e :: es) pa) (hn : x ≠ "__name__" := by decide) (hdb : (x == ("__debug__" : Str)) = false := by decide)
    (he : starEach (e :: es) X.env = (false, eval e X.env) :: starEach es X.env := by rfl) (hpl : (backTo pos (starEach es X.env)).any (·.1) = false := by rfl) : QE X ks true true (.Call (.Name x p0) (e :: es) [] pos) (pCB o pa) := cbS ho (fun t => pe_callB hc hg hm hv t hn hdb he hpl) h
theorem qe_ctS {T : String} {r : List V → Hp → VK → Prop} {o : PCl} (ho : CallS X.K r o) (hc : CallR X (.type T) r) (hm : X.mg x = none) (hg : Gl X x) (hv : bootBuiltins x = some (.type T)) (h : QA X ks a s (e :: es) pa) (hn : x ≠ "__name__" := by decide) (hdb : (x == ("__debug__" : Str)) = false := by decide)
    (he : starEach (e :: es) X.env = (false, eval e X.env) :: starEach es X.env := by rfl) (hpl : (backTo pos (starEach es X.env)).any (·.1) = false := by rfl) : QE X ks true true (.Call (.Name x p0) (e :: es) [] pos) (pCB o pa) := cbS ho (fun t => pe_callTy hc hg hm hv t hn hdb he hpl) h
theorem qe_ty (T : Kn) (hm : X.mg x = none) (hg : Gl X x) (hv : bootBuiltins x = some (.type (knS T))) (hn : x ≠ "__name__" := by decide) (hdb : (x == ("__debug__" : Str)) = false := by decide) : QE X ks true true (.Name x p0) (pC (.ty T)) := qe_c (pe_bltn (v := .ty (knS T)) hg hm hv rfl hn hdb) fun _ _ _ _ => .ty T
variable {ps' : List Str} {k n c m : Nat} {w : Vl.PW} {ds : List PV} {dvs : List V} {kws : List Keyword} {kn : List Str} {o : Expr} {apos : Pos} {f : Str}
theorem qe_calF (cc : Cal X.prog X.w X.K X.mg X.base x k ps' (spF n w X.K) dvs) (hd : Dfl X.K ds dvs) (hr : Room k X.A) (hg : Gl X x) (h : QA X ks a s (e :: es) pa) (hn : (e :: es).length + dvs.length = n := by rfl) (hdb : (x == ("__debug__" : Str)) = false := by decide)
    (he : starEach (e :: es) X.env = (false, eval e X.env) :: starEach es X.env := by rfl) (hpl : (backTo pos (starEach es X.env)).any (·.1) = false := by rfl) : QE X ks true true (.Call (.Name x p0) (e :: es) [] pos) (pCall w ds pa) := qe_callF (ps := ps') (fun t => pe_cal cc hr hg t hdb he hpl) hd h hn
end
end Vl
namespace Vl
open PySem PySem.Spec L2 Lb
section
variable {X : Cx} {ks ks' kl : List Kd} {a s a1 s1 a2 s2 a3 s3 : Bool} {e e1 e2 e3 tg : Expr} {es ifs : List Expr} {st : Stmt} {sts sts' : List Stmt} {p p1 p2 p3 : GE} {pa pb : GA} {pt : GT} {ps q : GS} {g g' : GG} {pos : Pos} {js vs : List Nat}
theorem Obs.nn {B : Bg} {A : Addr → Prop} {H : Hp} : ∀ {xs : List PV} {as : List Addr}, Obs B A H xs as → ∀ b ∈ as, H b ≠ none
  | _, _, .nil, _, m => nomatch m
  | _, _, .cons h t, b, m => by
    rcases List.mem_cons.mp m with rfl | m
    · rename_i x _ _
      cases x <;> first | exact (h : False).elim | (obtain ⟨_, h, _⟩ := h; rw [h]; exact nofun) | (obtain ⟨_, _, h, _⟩ := h; rw [h]; exact nofun)
    · exact t.nn b m
theorem Obs.append {B : Bg} {A : Addr → Prop} {H : Hp} : ∀ {xs ys : List PV} {as bs : List Addr}, Obs B A H xs as → Obs B A H ys bs → Obs B A H (xs ++ ys) (as ++ bs)
  | _, _, _, _, .nil, t => t
  | _, _, _, _, .cons h r, t => .cons h (r.append t)
theorem Obs.get {B : Bg} {A : Addr → Prop} {H : Hp} : ∀ {xs : List PV} {as : List Addr}, Obs B A H xs as → ∀ {i : Nat} {x : PV}, xs[i]? = some x → ∃ b, as[i]? = some b ∧ Ob B A H b x
  | _, _, .nil, _, _, e => by simp at e
  | _, _, .cons h _, 0, _, e => by simp at e; subst e; exact ⟨_, rfl, h⟩
  | _, _, .cons _ t, i + 1, _, e => by simpa using t.get (by simpa using e)
theorem Obs.len {B : Bg} {A : Addr → Prop} {H : Hp} : ∀ {xs : List PV} {as : List Addr}, Obs B A H xs as → xs.length = as.length
  | _, _, .nil => rfl
  | _, _, .cons _ t => by simp [t.len]
theorem Obs.set {B : Bg} {A : Addr → Prop} {H H' : Hp} (f : ∀ c x, Ob B A H c x → ∀ o, H c = some o → H' c = some o → Ob B A H' c x) : ∀ {xs : List PV} {as : List Addr} {i : Nat} {b : Addr} {y : PV}, Obs B A H xs as → as[i]? = some b → as.Nodup → (∀ c, c ≠ b → c ∈ as → ∀ o, H c = some o → H' c = some o) → (∀ c ∈ as, ∃ o, H c = some o) → Ob B A H' b y → Obs B A H' (xs.set i y) as
  | _, _, _, _, _, .nil, e, _, _, _, _ => by simp at e
  | _, _, 0, b, y, .cons (a := c) (as := as) h t, e, nd, g, hh, hb => by
    simp at e; subst e
    rw [List.nodup_cons] at nd
    refine .cons hb ?_
    have : ∀ {xs : List PV} {as' : List Addr}, Obs B A H xs as' → (∀ d ∈ as', d ∈ as) → Obs B A H' xs as' := by
      intro xs as' o
      induction o with
      | nil => intro _; exact .nil
      | cons h0 t0 ih =>
        rename_i x0 xs0 d ds
        intro hm
        have hd : d ∈ as := hm d (by simp)
        obtain ⟨o0, ho⟩ := hh d (by simp [hd])
        exact .cons (f _ _ h0 o0 ho (g d (fun z => nd.1 (z ▸ hd)) (by simp [hd]) o0 ho)) (ih fun d' m => hm d' (by simp [m]))
    exact this t fun d m => m
  | _, _, i + 1, b, y, .cons (a := c) (as := as) h t, e, nd, g, hh, hb => by
    rw [List.nodup_cons] at nd
    have e' : as[i]? = some b := by simpa using e
    have hc : c ≠ b := fun z => nd.1 (by rw [z]; exact List.mem_of_getElem? e')
    obtain ⟨o0, ho⟩ := hh c (by simp)
    exact .cons (f _ _ h o0 ho (g c hc (by simp) o0 ho)) (t.set f e' nd.2 (fun d n m => g d n (by simp [m])) (fun d m => hh d (by simp [m])) hb)
end
end Vl
namespace Vl
open PySem PySem.Spec L2 Lb
abbrev bx (K : Fg) (i : Int) : TE := tOp (rIx K) (tVar 0) (tC (.int i))
abbrev ci (i : Int) : TE := tC (.int i)
/-- its second half -/
def t_tkB (K : Fg) : TS := tSeq (tIfS (tTest (tOp rGtA (bx K 0) (ci 0)))
    (tSeq (tAsg (tOp rModA (bx K 0) (tVar 1)) (gName 3))
    (tSeq (tAsg (tOp rDivA (bx K 0) (tVar 1)) (gSub (tVar 0) (ci 0) rSetL))
      (tRet (tVar 3)))) tNext)
  (tSeq (tAsg (tOp rModA (tOp rMulA (tOp rAddA (bx K 1) (ci 1)) (ci 39373)) (ci 1000000007)) (gName 4))
  (tSeq (tAsg (tOp rModA (tOp rMulA (tOp rModA (tOp rMulA (tVar 4) (tVar 4)) (ci 998244353)) (ci 30011)) (ci 998244353)) (gName 5))
  (tSeq (tIfS (tTest (tOp rGtA (tVar 1) (ci 1000000))) (tRet (tOp rModA (tOp rAddA (tOp rMulA (tVar 5) (ci 1000000007)) (tVar 4)) (tVar 1))) tNext)
    (tRet (tOp rModA (tOp rDivA (tVar 5) (ci 7)) (tVar 1))))))
def t_tkL (K : Fg) : TS := tAsg (tOp rModA (tOp rAddA (tOp rAddA (tOp rMulA (bx K 1) (ci 48271)) (tOp rModA (tVar 2) (ci 2147483647))) (tOp rMulA (ci 7919) (bx K 2))) (ci 2147483647)) (gSub (tVar 0) (ci 1) rSetL)
def t_tkM (K : Fg) : TS := tSeq (tIfS (tTest (tOp rGeA (tVar 2) (ci 1000000000000000000))) (tAsg (tVar 2) (gSub (tVar 0) (ci 0) rSetL)) tNext) (t_tkL K)
def t_tkN (K : Fg) : TS := tSeq (tAugS (tVar 0) (ci 2) (ci 1) (rGetL K) ipAddA rSetL) (t_tkM K)
def t_tkC (K : Fg) : TS := tSeq (tIfS (tTest (tOp rLtA (bx K 2) (tCB (rLen K) (tCons (bx K 3) tNil)))) (tAsg (tOp (rIx K) (bx K 3) (bx K 2)) (gName 2)) tNext) (t_tkN K)
def t_take (K : Fg) : TS := tSeq (tIfS (tTest (tOp (rEqA K) (bx K 0) (ci 0))) (tSeq (tAsg (ci 0) (gName 2)) (t_tkC K)) tNext) (t_tkB K)
def w_law_take : Vl.PW := fun xs Q => match xs with | [.bag, .int n] => (0 < n ∧ n < 2 ^ 62) ∧ ∀ v : Int, 0 ≤ v → v < n → Q (.int v) | _ => False
section
variable {K : Fg} {H : Hp} {Q : VK} {q r : Addr} {l : St} {a0 a1 a2 a3 : V}
theorem bx0 (h : H q = some (.lst [a0, a1, a2, a3])) (k : Q a0 H) : bx K 0 (some (.ref q) :: l) H Q := ⟨.ref q, rfl, .inl ⟨q, _, 0, a0, rfl, rfl, .inl (.inl h), rfl, k⟩⟩
theorem bx1 (h : H q = some (.lst [a0, a1, a2, a3])) (k : Q a1 H) : bx K 1 (some (.ref q) :: l) H Q := ⟨.ref q, rfl, .inl ⟨q, _, 1, a1, rfl, rfl, .inl (.inl h), rfl, k⟩⟩
theorem bx2 (h : H q = some (.lst [a0, a1, a2, a3])) (k : Q a2 H) : bx K 2 (some (.ref q) :: l) H Q := ⟨.ref q, rfl, .inl ⟨q, _, 2, a2, rfl, rfl, .inl (.inl h), rfl, k⟩⟩
theorem bx3 (h : H q = some (.lst [a0, a1, a2, a3])) (k : Q a3 H) : bx K 3 (some (.ref q) :: l) H Q := ⟨.ref q, rfl, .inl ⟨q, _, 3, a3, rfl, rfl, .inl (.inl h), rfl, k⟩⟩
theorem ifT {c : Bool} {A B : Prop} (h : c = true) (k : A) : if c = true then A else B := by rw [if_pos h]; exact k
theorem ifF {c : Bool} {A B : Prop} (h : c = false) (k : B) : if c = true then A else B := by rw [if_neg (by rw [h]; decide)]; exact k
/-- the last part of a draw -/
theorem take_end {n x y : Int} {z : Int} {cs : List Int} {v2 v3 v4 v5 : Option V} {D : Ends} (hn : 0 < n ∧ n < 2 ^ 62) (hq : H q = some (.lst [.int x, .int y, .int z, .ref r])) (hx : 0 ≤ x) (hy : 0 ≤ y)
    (k : ∀ v : Int, 0 ≤ v → v < n → ∀ x' H', 0 ≤ x' → H' = H ∨ H' = upd H q (.lst [.int x', .int y, .int z, .ref r]) → D.rt (.int v) H') :
    t_tkB K D [some (.ref q), some (.int n), v2, v3, v4, v5] H := by
  unfold t_tkB
  refine bx0 hq ⟨x, 0, rfl, rfl, _, rfl, ?_⟩
  by_cases hx0 : 0 < x
  · refine ifT (decide_eq_true hx0) ?_
    refine bx0 hq ⟨.int n, rfl, x, n, rfl, rfl, hn.1, ?_⟩
    refine bx0 hq ⟨.int n, rfl, x, n, rfl, rfl, ⟨hn.1, ?_⟩, ⟨.ref q, rfl, q, _, 0, 0, rfl, rfl, hq, rfl, ?_⟩⟩
    · have : n.natAbs < 2 ^ 62 := by omega
      have := (Nat.log2_lt (by omega)).mpr this
      omega
    · exact ⟨.int (x % n), rfl, k _ (Int.emod_nonneg _ (by omega)) (Int.emod_lt_of_pos _ hn.1) (x / n) _ (Int.ediv_nonneg hx (by omega)) (.inr rfl)⟩
  · refine ifF (decide_eq_false hx0) ?_
    have hf := Int.emod_nonneg ((y + 1) * 39373) (b := 1000000007) (by decide)
    have hf' := Int.emod_lt_of_pos ((y + 1) * 39373) (b := 1000000007) (by decide)
    have p1 : (0 : Int) < 1000000007 := by decide
    have p2 : (0 : Int) < 998244353 := by decide
    refine bx1 hq (.inl ⟨y, 1, rfl, rfl, .inl ⟨y + 1, 39373, rfl, rfl, .inr ⟨by decide, by decide⟩, (y + 1) * 39373, 1000000007, rfl, rfl, p1, ?_⟩⟩)
    obtain ⟨f, hfe⟩ : ∃ f, f = (y + 1) * 39373 % 1000000007 := ⟨_, rfl⟩
    rw [← hfe] at hf hf'
    show tSeq _ _ D [some (.ref q), some (.int n), v2, v3, some (.int ((y + 1) * 39373 % 1000000007)), v5] H
    rw [← hfe]
    refine ⟨.int f, rfl, .int f, rfl, .inl ⟨f, f, rfl, rfl, .inl ⟨by omega, by omega⟩, f * f, 998244353, rfl, rfl, p2, .inl ⟨f * f % 998244353, 30011, rfl, rfl, .inr ⟨by decide, by decide⟩, _, 998244353, rfl, rfl, p2, ?_⟩⟩⟩
    obtain ⟨g, hge⟩ : ∃ g, g = f * f % 998244353 * 30011 % 998244353 := ⟨_, rfl⟩
    show tSeq _ _ D [some (.ref q), some (.int n), v2, v3, some (.int f), some (.int (f * f % 998244353 * 30011 % 998244353))] H
    rw [← hge]
    refine ⟨.int n, rfl, n, 1000000, rfl, rfl, _, rfl, ?_⟩
    by_cases hb : 1000000 < n
    · refine ifT (decide_eq_true hb) ?_
      exact ⟨.int g, rfl, .inl ⟨g, 1000000007, rfl, rfl, .inr ⟨by decide, by decide⟩, .int f, rfl, .inl ⟨g * 1000000007, f, rfl, rfl, .int n, rfl, _, n, rfl, rfl, hn.1, k _ (Int.emod_nonneg _ (by omega)) (Int.emod_lt_of_pos _ hn.1) x _ hx (.inl rfl)⟩⟩⟩
    · refine ifF (decide_eq_false hb) ?_
      exact ⟨.int g, rfl, g, 7, rfl, rfl, ⟨by decide, by decide⟩, .int n, rfl, _, n, rfl, rfl, hn.1, k _ (Int.emod_nonneg _ (by omega)) (Int.emod_lt_of_pos _ hn.1) x _ hx (.inl rfl)⟩
theorem tkL_ok {x y z c : Int} {l : St} {v1 : Option V} {D : Ends} (hq : H q = some (.lst [.int x, .int y, .int z, .ref r])) (k : ∀ y' : Int, 0 ≤ y' → y' < 2147483647 → D.nx (some (.ref q) :: v1 :: some (.int c) :: l) (upd H q (.lst [.int x, .int y', .int z, .ref r]))) :
    t_tkL K D (some (.ref q) :: v1 :: some (.int c) :: l) H := by
  have p3 : (0 : Int) < 2147483647 := by decide
  refine bx1 hq (.inl ⟨y, 48271, rfl, rfl, .inr ⟨by decide, by decide⟩, .int c, rfl, c, 2147483647, rfl, rfl, p3, .inl ⟨_, _, rfl, rfl, bx2 hq (.inl ⟨7919, z, rfl, rfl, .inl ⟨by decide, by decide⟩, .inl ⟨_, _, rfl, rfl, _, 2147483647, rfl, rfl, p3, ?_⟩⟩)⟩⟩)
  exact ⟨.ref q, rfl, q, _, 1, 1, rfl, rfl, hq, rfl, k _ (Int.emod_nonneg _ (by decide)) (Int.emod_lt_of_pos _ p3)⟩
theorem tkM_ok {x y z c : Int} {l : St} {v1 : Option V} {D : Ends} (hc : 0 ≤ c) (hx : 0 ≤ x) (hq : H q = some (.lst [.int x, .int y, .int z, .ref r])) (k : ∀ x' y' : Int, 0 ≤ x' → 0 ≤ y' → y' < 2147483647 → D.nx (some (.ref q) :: v1 :: some (.int c) :: l) (upd H q (.lst [.int x', .int y', .int z, .ref r]))) :
    t_tkM K D (some (.ref q) :: v1 :: some (.int c) :: l) H := by
  refine ⟨.int c, rfl, c, 1000000000000000000, rfl, rfl, _, rfl, ?_⟩
  by_cases hb : 1000000000000000000 ≤ c
  · refine ifT (decide_eq_true hb) ⟨.int c, rfl, .ref q, rfl, q, _, 0, 0, rfl, rfl, hq, rfl, ?_⟩
    refine tkL_ok (H := upd H q (.lst [.int c, .int y, .int z, .ref r])) upd_same fun y' h0 h1 => ?_
    rw [upd_upd]; exact k c y' hc h0 h1
  · exact ifF (decide_eq_false hb) (tkL_ok hq fun y' h0 h1 => k x y' hx h0 h1)
theorem tkN_ok {x y c : Int} {z : Nat} {l : St} {v1 : Option V} {D : Ends} (hc : 0 ≤ c) (hx : 0 ≤ x) (hq : H q = some (.lst [.int x, .int y, .int (z : Nat), .ref r])) (k : ∀ x' y' : Int, 0 ≤ x' → 0 ≤ y' → y' < 2147483647 → D.nx (some (.ref q) :: v1 :: some (.int c) :: l) (upd H q (.lst [.int x', .int y', .int ((z + 1 : Nat) : Int), .ref r]))) :
    t_tkN K D (some (.ref q) :: v1 :: some (.int c) :: l) H := by
  refine ⟨.ref q, rfl, q, _, 2, .int (z : Nat), rfl, rfl, .inl (.inl hq), rfl, .inl ⟨(z : Int), 1, rfl, rfl, q, _, 2, 2, rfl, rfl, hq, rfl, ?_⟩⟩
  have hz1 : ((z + 1 : Nat) : Int) = (z : Int) + 1 := by omega
  refine tkM_ok (H := upd H q (.lst [.int x, .int y, .int ((z : Int) + 1), .ref r])) hc hx upd_same fun x' y' h1 h2 h3 => ?_
  rw [upd_upd, ← hz1]; exact k x' y' h1 h2 h3
theorem tkC_ok {x y : Int} {z : Nat} {cs : List Int} {l : St} {v1 : Option V} {D : Ends} (hcs : ∀ c ∈ cs, 0 ≤ c) (hx : 0 ≤ x) (hq : H q = some (.lst [.int x, .int y, .int (z : Nat), .ref r])) (hr : H r = some (.lst (cs.map V.int)))
    (k : ∀ c x' y' : Int, 0 ≤ x' → 0 ≤ y' → y' < 2147483647 → D.nx (some (.ref q) :: v1 :: some (.int c) :: l) (upd H q (.lst [.int x', .int y', .int ((z + 1 : Nat) : Int), .ref r]))) :
    t_tkC K D (some (.ref q) :: v1 :: some (.int 0) :: l) H := by
  refine bx2 hq (bx3 hq ⟨.ref r, cs.length, rfl, .inl ⟨_, .inl (.inl hr), by simp⟩, .inl ⟨(z : Int), (cs.length : Int), rfl, rfl, _, rfl, ?_⟩⟩)
  by_cases hz : (z : Int) < (cs.length : Int)
  · have hz' : z < cs.length := by omega
    refine ifT (decide_eq_true hz) (bx3 hq (bx2 hq (.inl ⟨r, _, z, .int cs[z], rfl, rfl, .inl (.inl hr), ?_, ?_⟩)))
    · unfold atI ixN
      rw [List.length_map, if_pos (by omega), if_pos hz]; simp [hz']
    · exact tkN_ok (c := cs[z]) (hcs _ (List.getElem_mem hz')) hx hq fun x' y' h1 h2 h3 => k _ x' y' h1 h2 h3
  · exact ifF (decide_eq_false hz) (tkN_ok (c := 0) (Int.le_refl 0) hx hq fun x' y' h1 h2 h3 => k _ x' y' h1 h2 h3)
theorem pure_take {vs : List V} {E : XK} (h : spF 2 w_law_take K vs H Q E) : t_take K ⟨fun _ H' => Q .non H', Q, fun _ _ => False, fun _ _ => False⟩ (start ["_law_bag_here", "_law_many", "_law_cell", "_law_value", "_law_first", "_law_second"] vs) H := by
  obtain ⟨q, r, xs, Qp, hl, bg, rx, w, k⟩ := h
  match xs, rx, w with
  | [_, _], .cons r1 (.cons r2 .nil), w =>
    cases r1 <;> first | exact (w : False).elim | skip
    cases r2 <;> first | exact (w : False).elim | skip
    rename_i n
    obtain ⟨hn, w⟩ := w
    obtain ⟨x, y, z, cs, hq, hr, nrq, hx, hy, hy2, hcs⟩ := bg
    have fin : ∀ (x' y' : Int) (z' : Nat) (H' : Hp), (∀ a o, a ≠ q → H a = some o → H' a = some o) → (∀ a, H a ≠ none → H' a ≠ none) → H' q = some (.lst [.int x', .int y', .int z', .ref r]) → 0 ≤ x' → 0 ≤ y' → y' < 2147483647 → ∀ v : Int, 0 ≤ v → v < n → Q (.int v) H' := fun x' y' z' H' st nn hq' hx' hy' hy2' v h0 h1 =>
      k (.int v) _ H' (w v h0 h1) ⟨fun a o e m => st a o m e, fun a u e => st a _ (fun z => by rw [z] at e; rw [hq] at e; cases e) e, nn, fun _ => ⟨x', y', z', cs, hq', st _ _ nrq hr, nrq, hx', hy', hy2', hcs⟩⟩ (.int v)
    have nu : ∀ {H1 : Hp} {o : HO}, (∀ a, H a ≠ none → H1 a ≠ none) → ∀ a, H a ≠ none → upd H1 q o a ≠ none := fun {H1 o} nn a m => by
      by_cases z : a = q
      · rw [z, upd_same]; exact nofun
      · rw [upd_ne z]; exact nn a m
    have half : ∀ (x' y' : Int) (z' : Nat) (H' : Hp) (v2 : Option V), (∀ a o, a ≠ q → H a = some o → H' a = some o) → (∀ a, H a ≠ none → H' a ≠ none) → H' q = some (.lst [.int x', .int y', .int z', .ref r]) → 0 ≤ x' → 0 ≤ y' → y' < 2147483647 →
        t_tkB K ⟨fun _ H' => Q .non H', Q, fun _ _ => False, fun _ _ => False⟩ [some (.ref q), some (.int n), v2, none, none, none] H' := fun x' y' z' H' v2 st nn hq' hx' hy' hy2' =>
      take_end (cs := cs) hn hq' hx' hy' fun v h0 h1 x2 H2 hx2 e => by
        rcases e with rfl | rfl
        · exact fin x' y' z' _ st nn hq' hx' hy' hy2' v h0 h1
        · exact fin x2 y' z' _ (fun a o m e => by rw [upd_ne m]; exact st a o m e) (nu nn) upd_same hx2 hy' hy2' v h0 h1
    show t_take K _ [some (.ref q), some (.int n), none, none, none, none] H
    unfold t_take
    refine bx0 hq (.inl ⟨rfl, ⟨_, rfl, ?_⟩⟩)
    by_cases h0 : x = 0
    · refine ifT (decide_eq_true (by rw [h0])) ?_
      refine tkC_ok (D := ⟨t_tkB K ⟨fun _ H' => Q .non H', Q, fun _ _ => False, fun _ _ => False⟩, Q, fun _ _ => False, fun _ _ => False⟩) (l := [none, none, none]) (v1 := some (.int n)) hcs hx hq hr fun c x' y' h1 h2 h3 => ?_
      exact half x' y' (z + 1) _ (some (.int c)) (fun a o m e => by rw [upd_ne m]; exact e) (nu fun a m => m) upd_same h1 h2 h3
    · refine ifF (decide_eq_false (fun z => h0 (V.int.inj z))) ?_
      exact half x y z H none (fun a o _ e => e) (fun a m => m) hq hx hy hy2
  | [], _, w => exact (w : False).elim
  | [_], .cons r1 .nil, w => cases r1 <;> exact (w : False).elim
  | _ :: _ :: _ :: _, .cons r1 (.cons r2 _), w => cases r1 <;> cases r2 <;> exact (w : False).elim
end
end Vl
namespace Vl
open PySem PySem.Spec L2 Lb
def t_bag (K : Fg) : TS := tRet (tLst (tCons (ci 0) (tCons (ci 1234567891) (tCons (ci 0) (tCons (tLc (iList K (tSl (rSlL K) (tVar 0) tNoPart (tPart (ci 63)))) (gName 1) tYes (tCB rAbs (tCons (tVar 1) tNil)) [1]) tNil)))))
def spBag (K : Fg) : Sp := fun vs H Q _ => ∃ (a : Addr) (ns : List Int), vs = [.ref a] ∧ SqL K H a (ns.map V.int) ∧ ns.length ≤ sizeLine ∧ ∀ (q r : Addr) (cs : List Int) (H' : Hp), (∀ b o, H b = some o → H' b = some o) → BagOk ⟨K, q, r⟩ H' → H' q = some (.lst [.int 0, .int 1234567891, .int 0, .ref r]) → H' r = some (.lst (cs.map V.int)) → Q (.ref q) H'
section
variable {K : Fg} {H : Hp} {Q : VK}
def absI (i : Int) : Int := if i < 0 then -i else i
theorem absI_nn (i : Int) : 0 ≤ absI i := by unfold absI; split <;> omega
theorem yesT {σ : St} {A B : Hp → Prop} (k : A H) : tYes σ H fun b H' => if b = true then A H' else B H' := by
  show if true = true then A H else B H
  rw [if_pos rfl]; exact k
theorem pure_bag {vs : List V} {E : XK} (h : spBag K vs H Q E) : t_bag K ⟨fun _ H' => Q .non H', Q, fun _ _ => False, fun _ _ => False⟩ (start ["_law_script", "_law_cell"] vs) H := by
  obtain ⟨a, ns, rfl, hs, hn, k⟩ := h
  show t_bag K _ [some (.ref a), none] H
  refine ⟨.ref a, rfl, 63, rfl, a, _, rfl, hs, fun p np => ?_⟩
  obtain ⟨ms, hms, hml⟩ : ∃ ms : List Int, cutV (ns.map V.int) none (some 63) = ms.map V.int ∧ ms.length ≤ sizeLine := by
    refine ⟨(ns.drop (HT.sIx (ns.map V.int).length 0 none)).take (HT.sIx (ns.map V.int).length (ns.map V.int).length (some 63) - HT.sIx (ns.map V.int).length 0 none), ?_, ?_⟩
    · unfold cutV; rw [List.map_take, List.map_drop]
    · exact Nat.le_trans (by rw [List.length_take, List.length_drop]; omega) hn
  rw [hms]
  refine ⟨p, rfl, ⟨_, .inl (.inl upd_same)⟩, fun D nD => ?_⟩
  have pD : p ≠ D := fun z => by rw [← z, upd_same] at nD; cases nD
  have st0 : ∀ b o, H b = some o → upd (upd H p (.lst (ms.map V.int))) D (.lst []) b = some o := fun b o e => by
    have bp : b ≠ p := ne_of_none e np
    rw [upd_ne (fun z => by rw [← z, upd_ne bp, e] at nD; cases nD), upd_ne bp]; exact e
  refine ⟨fun i m H2 => m = ms.length - i ∧ i ≤ ms.length ∧ (∀ b o, H b = some o → H2 b = some o) ∧ H2 p = some (.lst (ms.map V.int)) ∧ H2 D = some (.lst (((ms.take i).map absI).map V.int)), ⟨_, rfl, by simp, st0, by rw [upd_ne pD, upd_same], by rw [upd_same]; simp⟩, ?_⟩
  rintro i m H2 ⟨rfl, hi0, st, hp, hD⟩
  by_cases hi : i < ms.length
  · right
    refine ⟨⟨ms.map V.int, .int ms[i], .inl (.inl hp), by simp [hi]⟩, fun H' => H' p = some (.lst (ms.map V.int)) ∧ H' D = some (.lst (((ms.take (i + 1)).map absI).map V.int)) ∧ ∀ b o, H b = some o → H' b = some o, fun H' ⟨h1, h2, h3⟩ => ⟨_, by omega, rfl, by omega, h3, h1, h2⟩, ?_⟩
    rintro v H3 ⟨rfl, hv⟩
    have := hv _ (.inl (.inl hp))
    have e : v = .int ms[i] := by
      rw [List.getElem?_map, List.getElem?_eq_getElem hi] at this; simpa using this.symm
    subst e
    refine ⟨rfl, ?_⟩
    refine yesT ⟨.int ms[i], rfl, ms[i], rfl, _, hD, ?_, ?_⟩
    · simp; omega
    · refine ⟨by rw [upd_ne pD]; exact hp, ?_, fun b o e => ?_⟩
      · rw [upd_same, List.take_add_one, List.getElem?_eq_getElem hi]
        simp only [Option.toList_some, List.map_append, List.map_cons, List.map_nil]; rfl
      · by_cases z : b = D
        · rw [z] at e
          rw [upd_ne (fun z => pD z.symm), e] at nD; cases nD
        · rw [upd_ne z]; exact st b o e
  · left
    have hi : ms.length ≤ i := Nat.not_lt.mp hi
    refine ⟨⟨_, .inl (.inl hp), by simpa using hi⟩, few (n := 4) (by decide), fun q nq => ?_⟩
    have qD : D ≠ q := fun z => by rw [← z, hD] at nq; cases nq
    refine k q D ((ms.take i).map absI) _ (fun b o e => by rw [upd_ne (fun z => by rw [z] at e; have := st q o e; rw [nq] at this; cases this)]; exact st b o e) ⟨0, 1234567891, 0, (ms.take i).map absI, upd_same, by rw [upd_ne qD]; exact hD, qD, by decide, by decide, by decide, fun c m => ?_⟩ upd_same (by rw [upd_ne qD]; exact hD)
    obtain ⟨x, _, rfl⟩ := List.mem_map.mp m
    exact absI_nn x
/-- the rest of the law, when the bag is there -/
def spLaw (K : Fg) : Sp := fun vs H Q _ => ∃ (a : Addr) (ns : List Int), vs = [.ref a] ∧ SqL K H a (ns.map V.int) ∧ ns.length ≤ sizeLine ∧ ∀ H', Q (.bl true) H'
def lawG (N : Nat) : G := none :: some .bag :: List.replicate (N - 2) none
def lawD : GD := ⟨fun _ => False, fun x _ => x = .bl true, fun _ => False, fun _ => False⟩
theorem body_law {X : Cx} {N : List Str} {ks ks' kl : List Kd} {st : Stmt} {sts : List Stmt} {p : GS} {vs : List V} {E : XK} (h0 : PS X st (tAsg (tCall (spBag X.K) [] E0 (tCons (tVar 0) tNil)) (gName 1))) (h : QB X ks ks' kl sts p) (hk : kd ks 1 = .sh) (hN : 2 ≤ N.length) (hp : p lawD (lawG N.length)) (hs : spLaw X.K vs H Q E) :
    ∃ t, PSs X (st :: sts) t ∧ t { nx := fun _ H' => Q .non H', rt := Q } (start N vs) H := by
  obtain ⟨a, ns, rfl, hS, hn, k⟩ := hs
  refine ⟨_, pss_cons h0 h, ?_⟩
  obtain ⟨n, hn2⟩ : ∃ n, N.length = n + 2 := ⟨N.length - 2, by omega⟩
  have es : start N [.ref a] = some (.ref a) :: none :: List.replicate n none := by
    simp [L2.start, hn2, List.replicate_succ]
  rw [es]
  refine ⟨.ref a, rfl, a, ns, rfl, hS, hn, fun q r cs H' st0 bg hq hr => ?_⟩
  have R : Rel ⟨⟨X.K, q, r⟩, fun b => b = q, H', 0⟩ [] ks (lawG N.length) (some (.ref a) :: some (.ref q) :: List.replicate n none) H' := by
    refine ⟨fun _ _ h _ => h, fun _ h => h, bg, fun b z => by have z : b = q := z; rw [z]; exact bg.q, rfl, by show H' r ≠ none; rw [hr]; exact nofun, by simp, by simp [lawG, hn2], ?_⟩
    refine ⟨fun _ => [], fun i x h => ?_, by simp, by simp, by simp⟩
    rcases i with _ | _ | i
    · simp [lawG] at h
    · simp [lawG] at h; subst h
      refine ⟨.ref q, rfl, ?_⟩
      rw [hk]; exact ⟨rfl, .bag⟩
    · simp only [lawG, List.getElem?_cons_succ] at h
      have := List.mem_of_getElem? h
      simp at this
  refine ⟨⟨⟨X.K, q, r⟩, fun b => b = q, H', 0⟩, [], lawG N.length, lawD, rfl, R, hp, fun _ _ _ _ _ _ z => z.elim, fun x _ v H2 ⟨r1, _⟩ q1 => ?_, fun _ _ _ _ _ _ z => z.elim, fun _ _ _ _ _ _ z => z.elim⟩
  have q1 : x = .bl true := q1
  subst q1
  cases r1
  exact k H2
end
end Vl
namespace Vl
open PySem PySem.Spec L2 Lb
def gvB (K : Fg) (n : Str) (x : PV) : Bool := match PySem.W.nsIn K mainGlobals n with
  | some (some u) => ckV K x u
  | _ => false
theorem gvB_ok {K : Fg} {h : Heap} {mg : Str → Option Value} {n : Str} {x : PV} (X : K.In h) (G : h.Ns mainGlobals mg) (c : gvB K n x = true) : GV K mg n x := by
  unfold gvB at c
  cases e : PySem.W.nsIn K mainGlobals n with
  | none => rw [e] at c; cases c
  | some o =>
    rw [e] at c
    cases o with
    | none => cases c
    | some u => exact ⟨u, PySem.W.mg_of X G e, c⟩
theorem all_at {K : Fg} : ∀ {l : List (Fg → Bool)} (i : Nat) {f : Fg → Bool}, (l.all fun f => f K) = true → l[i]? = some f → f K = true := fun {l} i {f} h e => List.all_eq_true.mp h f (List.mem_of_getElem? e)
end Vl
namespace Vl
open PySem PySem.Spec L2 Lb
def setS (γ : G) : Nat → Option PV → (G → Prop) → Prop :=
  List.rec (motive := fun _ => Nat → Option PV → (G → Prop) → Prop) (fun _ _ K => K [])
    (fun a l ih i x K => Nat.rec (motive := fun _ => Prop) (K (x :: l)) (fun i _ => ih i x fun l' => K (a :: l')) i) γ
theorem setS_eq : ∀ (γ : G) (i : Nat) (x : Option PV) (K : G → Prop), setS γ i x K = K (γ.set i x)
  | [], _, _, _ => rfl
  | _ :: _, 0, _, _ => rfl
  | a :: l, i + 1, x, K => setS_eq l i x fun l' => K (a :: l')
def wipeS (γ : G) (vs : List Nat) : (G → Prop) → Prop :=
  List.rec (motive := fun _ => (G → Prop) → Prop) (fun K => K γ) (fun v _ ih K => ih fun γ1 => setS γ1 v none K) vs
theorem wipeS_eq (γ : G) : ∀ (vs : List Nat) (K : G → Prop), wipeS γ vs K = K (wipeG γ vs)
  | [], _ => rfl
  | v :: vs, K => (wipeS_eq γ vs fun γ1 => setS γ1 v none K).trans (setS_eq _ _ _ _)
def noneS (n : Nat) : (G → Prop) → Prop := Nat.rec (motive := fun _ => (G → Prop) → Prop) (fun K => K []) (fun _ ih K => ih fun l => K (none :: l)) n
theorem noneS_eq : ∀ (n : Nat) (K : G → Prop), noneS n K = K (List.replicate n none)
  | 0, _ => rfl
  | n + 1, K => by rw [List.replicate_succ]; exact noneS_eq n fun l => K (none :: l)
def startS (xs : List PV) : Nat → (G → Prop) → Prop :=
  List.rec (motive := fun _ => Nat → (G → Prop) → Prop) (fun N K => noneS N K) (fun x _ ih N K => ih (N - 1) fun l => K (some x :: l)) xs
theorem startS_eq : ∀ (xs : List PV) (N : Nat) (K : G → Prop), startS xs N K = K (startG N xs)
  | [], N, K => by show noneS N K = _; rw [noneS_eq]; simp [startG]
  | x :: xs, N, K => by
    show startS xs (N - 1) (fun l => K (some x :: l)) = _
    rw [startS_eq xs]
    simp only [startG, List.map_cons, List.length_cons, List.cons_append]
    rw [show N - 1 - xs.length = N - (xs.length + 1) by omega]
def xF (N : Nat) (p : GS) : Vl.PW := fun xs Q => startS xs N fun γ => p ⟨fun _ => Q .non, fun x _ => Q x, fun _ => False, fun _ => False⟩ γ
theorem xF_eq (N : Nat) (p : GS) : xF N p = wF N p := by funext xs Q; rw [xF, startS_eq]; rfl
def xgName (i : Nat) : GG := fun x γ Q => setS γ i (some x) Q
theorem xgName_eq (i : Nat) : xgName i = pgName i := by funext x γ Q; rw [xgName, setS_eq]; rfl
theorem xmg_name {i : Nat} : MonoG (xgName i) := by rw [xgName_eq]; exact mg_name
def xLc (vs : List Nat) (it : GA) (g : GG) (t : GT) (e : GE) : GE := fun γ Q => it γ fun xs => xs.length ≤ sizeLine ∧ wipeS γ vs fun γw => lcP g t e γw xs fun ys => Q (.lst ys)
theorem xLc_eq (vs : List Nat) (it : GA) (g : GG) (t : GT) (e : GE) : xLc vs it g t e = pLc vs it g t e := by
  funext γ Q
  show (it γ fun xs => _ ∧ _) = (it γ fun xs => _ ∧ _)
  congr; funext xs; rw [wipeS_eq]
def xSet (i : Nat) (e : GE) : GS := fun D γ => e γ fun x => setS γ i (some x) D.nx
theorem xSet_eq (i : Nat) (e : GE) : xSet i e = pSet i e := by funext D γ; show e γ _ = e γ _; congr; funext x; rw [setS_eq]
def xPar (i j : Nat) (t : GA) : GS := fun D γ => t γ fun xs => match xs with | [x, y] => setS γ i (some x) fun γ1 => setS γ1 j (some y) D.nx | _ => False
theorem xPar_eq (i j : Nat) (t : GA) : xPar i j t = pPar i j t := by
  funext D γ; show t γ _ = t γ _; congr; funext xs
  match xs with
  | [] => rfl
  | [_] => rfl
  | [_, _] => simp only [setS_eq]
  | _ :: _ :: _ :: _ => rfl
def xApp (i : Nat) (e : GE) : GS := fun D γ => getS γ i fun x => match x with | .lst xs => e γ fun y => xs.length < sizeLine ∧ setS γ i (some (.lst (xs ++ [y]))) D.nx | _ => False
theorem xApp_eq (i : Nat) (e : GE) : xApp i e = pApp i e := by
  funext D γ; show getS γ i _ = getS γ i _; congr; funext x
  cases x <;> first | rfl | (show e γ _ = e γ _; congr; funext y; rw [setS_eq])
def xSetIx (i : Nat) (k e : GE) : GS := fun D γ => e γ fun y => getS γ i fun x => k γ fun n => match x, n with
  | .lst xs, .int n => (match ixN xs.length n with | some j => setS γ i (some (.lst (xs.set j y))) D.nx | none => False)
  | _, _ => False
theorem xSetIx_eq (i : Nat) (k e : GE) : xSetIx i k e = pSetIx i k e := by
  funext D γ; show e γ _ = e γ _; congr; funext y; congr; funext x; congr; funext n
  cases x <;> cases n <;> first | rfl | skip
  rename_i xs n
  show (match ixN xs.length n with | some j => _ | none => False) = (match ixN xs.length n with | some j => _ | none => False)
  cases ixN xs.length n <;> simp only [setS_eq]
section
variable {X : Cx} {ks ks' kl : List Kd} {a s a1 s1 a2 s2 a3 s3 : Bool} {e e1 e2 e3 tg : Expr} {es ifs : List Expr} {st : Stmt} {sts sts' : List Stmt} {p p1 p2 p3 : GE} {pa pb : GA} {pt : GT} {ps q : GS} {g g' : GG} {pos : Pos} {js vs : List Nat} {i j l : Nat}
theorem xq_name {k : Kd} (hg : PG X tg (gName i)) (hk : ks[i]? = some k := by rfl) (ht : takes k a s = true := by rfl) (hj : i ∈ js := by decide) : QG X ks a s js tg (xgName i) := by rw [xgName_eq]; exact qg_name hg hk ht hj
theorem xs_setG {k : Kd} (pe : ∀ {t : TE}, PE X e t → PS X st (tAsg t (gName i))) (h : QE X ks a s e p) (hk : ks[i]? = some k := by rfl) (ht : takes k a s = true := by rfl) : QS X ks ks kl st (xSet i p) := by rw [xSet_eq]; exact qs_setG pe h hk ht
theorem xs_setN (pe : ∀ {t : TE}, PE X e t → PS X st (tAsg t (gName i))) (h : QN X ks e p) (hi : i < ks.length := by decide) : QS X ks (ks.set i .own) kl st (xSet i p) := by rw [xSet_eq]; exact qs_setN pe h hi
theorem xs_par {k k' : Kd} (pe : ∀ {t : TA}, PA X es t → PS X st (tPar i j t)) (h : QA X ks a s es pa) (hk : ks[i]? = some k := by rfl) (ht : takes k a s = true := by rfl) (hk' : ks[j]? = some k' := by rfl) (ht' : takes k' a s = true := by rfl) : QS X ks ks kl st (xPar i j pa) := by rw [xPar_eq]; exact qs_par pe h hk ht hk' ht'
theorem xs_app (pe : ∀ {t : TE}, PE X e t → PS X st (tDrop (tBM X.K "list" rAppend (tVar i) (tCons t tNil)))) (h : QE X ks true true e p) (hk : ks[i]? = some .own := by rfl) : QS X ks ks kl st (xApp i p) := by rw [xApp_eq]; exact qs_app pe h hk
theorem xs_setIx (pe : ∀ {t t' : TE}, PE X e t → PE X e3 t' → PS X st (tAsg t (gSub (tVar i) t' rSetL))) (h : QE X ks true true e p) (h3 : QE X ks a s e3 p3) (hk : ks[i]? = some .own := by rfl) : QS X ks ks kl st (xSetIx i p3 p) := by rw [xSetIx_eq]; exact qs_setIx pe h h3 hk
variable {elt iter : Expr} {scope : Scope} {own : List (Str × Nat)}
theorem xe_lc (pe : ∀ {wi : TI} {g : TG} {tt : TT} {te : TE}, PI X tg iter wi → (∀ (s : Shared) (H : Hp) (C : Addr) (cl : List (Str × Addr)) (fp : List Addr), PG (X.blk s H scope (compEnvC scope cl C X.env) fp) tg g) →
      (∀ (s : Shared) (H : Hp) (C : Addr) (cl : List (Str × Addr)) (fp : List Addr), PTs (X.blk s H scope (compEnvC scope cl C X.env) fp) ifs tt) → (∀ (s : Shared) (H : Hp) (C : Addr) (cl : List (Str × Addr)) (fp : List Addr), PE (X.blk s H scope (compEnvC scope cl C X.env) fp) elt te) → PE X e (tLc wi g tt te (own.map (·.2))))
    (hi : QI X ks a1 tg iter pa) (hg : ∀ (s : Shared) (H : Hp) (C : Addr) (cl : List (Str × Addr)) (fp : List Addr), QG (X.blk s H scope (compEnvC scope cl C X.env) fp) ks a1 true (own.map (·.2)) tg g)
    (ht : ∀ (s : Shared) (H : Hp) (C : Addr) (cl : List (Str × Addr)) (fp : List Addr), QTs (X.blk s H scope (compEnvC scope cl C X.env) fp) ks ifs pt) (he : ∀ (s : Shared) (H : Hp) (C : Addr) (cl : List (Str × Addr)) (fp : List Addr), QE (X.blk s H scope (compEnvC scope cl C X.env) fp) ks a true elt p) :
    QE X ks a true e (xLc (own.map (·.2)) pa g pt p) := by rw [xLc_eq]; exact qe_lc pe hi hg ht he
end
end Vl
namespace Vl
open PySem PySem.Spec L2 Lb
section
variable {X : Cx}
def rRepr (K : Fg) : List V → Hp → VK → Prop := fun xs H Q => ∃ x d, xs = [x] ∧ Dp K H x d ∧ d.showable = true ∧ d.hasDict = false ∧ d.depth ≤ 30 ∧ d.shown.length ≤ sizeLine ∧ (∀ i, d = .int i → i.natAbs.log2 < 1920) ∧ Q (.str d.shown) H
theorem call_reprG (hg : X.A.guards = some []) (hu : X.A.units + 64 < cLine) : CallR X (.builtin "repr") (rRepr X.K) := by
  intro pins s σ H xs us Q I r h
  obtain ⟨x, d, rfl, hd, hs, hD, hdp, hz, hi, q⟩ := h
  obtain ⟨u, rfl, ru⟩ := vals1 r
  cases hd with
  | non => cases ru; exact PySem.P.repr_of_none ⟨.str _, H, I.tok _, ⟨_, rfl⟩, q⟩
  | bl b => cases ru; exact PySem.P.repr_of_bool ⟨.str _, H, I.tok _, ⟨_, rfl⟩, q⟩
  | int i => obtain ⟨t, rfl⟩ := ru; exact PySem.P.repr_of_int (hi i rfl) ⟨.str _, H, I.tok _, ⟨_, rfl⟩, q⟩
  | str y => obtain ⟨t, rfl⟩ := ru; exact PySem.P.repr_of_str ⟨.str _, H, I.tok _, ⟨_, rfl⟩, q⟩ hz
  | lst h1 h2 =>
    obtain ⟨as, rd⟩ := Dp.reads I _ _ _ (.lst h1 h2) ru
    cases ru
    exact repr_of_reads' rd hs (fun e => by rw [hD] at e; cases e) hg (by omega) (fun _ _ e => e) (fun h' u tk k => ⟨.str _, H, I.kept k, ⟨_, rfl⟩, q⟩) hz
  | tup h1 h2 =>
    obtain ⟨as, rd⟩ := Dp.reads I _ _ _ (.tup h1 h2) ru
    cases ru
    exact repr_of_reads' rd hs (fun e => by rw [hD] at e; cases e) hg (by omega) (fun _ _ e => e) (fun h' u tk k => ⟨.str _, H, I.kept k, ⟨_, rfl⟩, q⟩) hz
end
end Vl
namespace Vl
open PySem PySem.Spec L2 Lb PyProof.Rows
structure FnG (P : Program) (w : World) (K : Fg) (mg : Str → Option Value) (base : Heap) (k : Nat) (f : Addr) (fd : FuncData) (ps : List Str) (sp : Sp) : Prop where
  n : ∀ vs H Q E, sp vs H Q E → vs.length = ps.length
  go : ∀ (A : Around) (o : List Env) (s : Shared) (H : Hp) (args : Args) (us : List Value) (vs : List V) (Q : VK) (E : XK), A.guards = some [] → Room k A →
    Env0 P w K mg base A o s H → BindsTo s fd args (ps.zip us) → Vals vs us → sp vs H Q E → codeAny (model P w) A (.call (.ref f) args) (CR CX0 o P w H s Q E) s
section
variable {P : Program} {w : World} {K : Fg} {mg : Str → Option Value} {base : Heap} {k : Nat} {f : Addr} {fd : FuncData} {ps : List Str} {sp : Sp}
theorem FnG.mono {j : Nat} (F : FnG P w K mg base j f fd ps sp) (h : j ≤ k) : FnG P w K mg base k f fd ps sp := ⟨F.n, fun A o s H args us vs Q E g r => F.go A o s H args us vs Q E g (r.mono h)⟩
theorem fnG_of {nm qual : Str} {pr : Arguments} {bd : List Stmt} {sc : Scope} {dV kV doc pm cdv ct oc : Value} {an od : Option Addr} {osl : Array (Option Value)} {N : List Str}
    (lk : K.lookup f = some ⟨oc, od, .func (PySem.W.fnOf nm qual pr bd sc dV kV doc pm an cdv ct), osl⟩) (hcd : PySem.W.codeIn K cdv qual = true) (S : FnScope N ps sc) (hn : ∀ vs H Q E, sp vs H Q E → vs.length = ps.length)
    (hb : ∀ (A : Around) (o : List Env) (s : Shared) (H : Hp) (vs : List V) (Q : VK) (E : XK), A.guards = some [] → Room k (A.deeper (envOfC qual sc s.heap.objs.size f cdv)) → sp vs H Q E →
      ∃ t, PSs (cxOf CX0 P w K mg base N qual sc f cdv A o s H E) bd t ∧ t { nx := fun _ H' => Q .non H', rt := Q } (start N vs) H) :
    FnG P w K mg base (k + 1) f (PySem.W.fnOf nm qual pr bd sc dV kV doc pm an cdv ct) ps sp := by
  constructor
  · exact hn
  intro A o s H args us vs Q E g hr e0 bnd rv hsp
  have old : ∀ b u, base.get? b = some u → s.heap.get? b = some u := fun b u e => (e0.bs b u e).1
  have inK : K.In s.heap := e0.mod.kin.keeps old
  have kinds : ∀ y ∈ ps.zip us, sc.names.lookup y.1 = some .local ∨ (sc.names.lookup y.1 = some .cell ∧ ((cellsFrom (s.heap.objs.size + 1) sc.names []).lookup y.1).isSome = true) := by
    rintro ⟨a, b⟩ m
    exact (S.par a (List.of_mem_zip m).1).imp id fun z => ⟨z, PySem.W.cellsFrom_some _ _ _ (.inl z)⟩
  apply codeAny_call_function hr.depth (inK _ _ lk) rfl S.co S.gen rfl (PySem.W.codeRec_of inK hcd)
  apply bnd
  apply wpAny_newFunctionEnv_cells S.kind kinds
  rintro _ rfl s1 x
  constructor
  · exact (e0.mod.nolimit.keeps old).keeps x.toInCall.keep
  apply codeAny_func
  obtain ⟨t, h1, h2⟩ := hb A o s H vs Q E g (hr.deeper _) hsp
  have J := h1.run [] s1 (start N vs) H _ (inv_start S hr.hd e0 (hn _ _ _ _ hsp) rv x) h2
  refine wpAny_mono J (fun fl s' z => ?_) fun _ _ z => z
  match fl, z with
  | .ret u, ⟨v, _, H', J, r, q⟩ => exact ⟨v, H', J.os, J.bare, J.base, J.hok, r, q⟩
  | .next, ⟨_, H', J, q⟩ => exact ⟨.non, H', J.os, J.bare, J.base, J.hok, rfl, q⟩
  | .brk, ⟨_, _, _, q⟩ => exact q.elim
  | .cont, ⟨_, _, _, q⟩ => exact q.elim
end
section
variable {X : Cx} {k : Nat} {f : Addr} {fd : FuncData} {ps : List Str} {sp : Sp} {dvs : List V} {ds : List Value} {x : Str} {p pos : Pos} {e : Expr} {es : List Expr} {t : TA}
theorem runG {pins : List (Addr × Obj)} {σ : L2.St} {H : Hp} {s : Shared} {Q : VK} {us : List Value} {vs : List V} (F : FnG X.prog X.w X.K X.mg X.base k f fd ps sp) (g : X.A.guards = some []) (hr : Room k X.A)
    (hb : Binds X.K fd ps ds) (hd : Vals dvs ds) (I : Inv X pins σ H s) (r : Vals vs us) (h : sp (vs ++ dvs) H Q E0) : wpAny (model X.prog X.w) X.A (call (.ref f) us) (EP X pins σ Q) X.xe s := by
  have all := r.append hd
  have n : (us ++ ds).length = ps.length := all.length.symm.trans (F.n _ _ _ _ h)
  apply wpAny_call
  refine codeAny_mono (F.go X.A X.stack s H ⟨us, []⟩ _ _ Q E0 g hr I.env0 (hb s us I.kIn n) all h) fun z s' q => ?_
  match z, q with
  | .error v, q => exact pass0 pins σ H s v s' I q
  | .ok (.ret u), q => exact I.after q
  | .ok .next, q => exact (q : False).elim
  | .ok .brk, q => exact (q : False).elim
  | .ok .cont, q => exact (q : False).elim
/-- a def that may be called by its name where nothing is being shown -/
structure CalG (P : Program) (w : World) (K : Fg) (mg : Str → Option Value) (base : Heap) (k : Nat) (x : Str) (sp : Sp) (dvs : List V) : Prop where
  ex : ∃ (f : Addr) (fd : FuncData) (ps : List Str) (ds : List Value), FnG P w K mg base k f fd ps sp ∧ mg x = some (.ref f) ∧ PySem.W.keepIn K (.ref f) = true ∧ Binds K fd ps ds ∧ Vals dvs ds
theorem pe_cG {j : Nat} (c : CalG X.prog X.w X.K X.mg X.base k x sp dvs) (g : X.A.guards = some []) (hr : Room j X.A) (hk : k ≤ j) (hg : Gl X x) (ha : PA X (e :: es) t)
    (hdb : (x == ("__debug__" : Str)) = false := by decide) (h1 : starEach (e :: es) X.env = (false, eval e X.env) :: starEach es X.env := by rfl) (h2 : (backTo pos (starEach es X.env)).any (·.1) = false := by rfl) :
    PE X (.Call (.Name x p) (e :: es) [] pos) (tCall sp dvs E0 t) := by
  obtain ⟨f, fd, ps, ds, F, hm, kp, b, d⟩ := c.ex
  constructor
  intro pins s σ H Q I h
  apply wpAny_Call_Name_kw
  refine ld_glob I hg hm (PySem.W.callWith_K (h₀ := X.base) I.ok.mod.kin kp (thn (ha.run pos pins s σ H _ I h) fun us s1 z => ?_) h1 h2) hdb
  obtain ⟨vs, H1, I1, r, q⟩ := z
  exact ⟨I1.kIn, runG F g (hr.mono hk) b d I1 r q⟩
end
end Vl
namespace Vl
open PySem PySem.Spec L2 Lb PyProof.Rows
section
variable {P : Program} {w : World} {K : Fg} {mg mb : Str → Option Value} {k : Nat} {fa a : Addr} {fd : FuncData} {x : Str} {sp : Sp} {s₁ : Shared} {vs : List Value} {ns : List Int}
theorem endG0 (KX : K.In s₁.heap) (h1 : s₁.heap.Ns mainGlobals mg) (h2 : s₁.heap.Ns builtinsNs mb) (h3 : ∀ x : Str, x ≠ "__name__" → mb x = bootBuiltins x) (h4 : s₁.heap.NoLimit) (h5 : s₁.gens = #[])
    (ha : s₁.heap.get? a = some { cls := .type "list", data := .seq vs.toArray }) (hr : Room k callerA)
    (F : ∀ base : Heap, K.In base → base.Ns mainGlobals mg → FnG P w K mg base k fa fd [x] sp) (hb : ∀ (s : Shared) (u : Value), BindsTo s fd ⟨[u], []⟩ [(x, u)])
    {H : Hp} (hO : Only H) (hok : HOk P w H s₁.heap) (hA : ∀ b, H b ≠ none → b = a) (hK : H a ≠ none → K.lookup a = none) (hs : sp [.ref a] H (fun v _ => v = .bl true) fun _ _ _ => False) (hE : ∀ e s', ¬ CX0 [] H s₁ (fun _ _ _ => False) e s') :
    codeAny (model P w) callerA (.call (.ref fa) ⟨[.ref a], []⟩) (fun r s' => r = .ok (.ret (.bool true)) ∧ OldK s₁.heap s'.heap ∧ s'.os = s₁.os ∧ AllBare s'.gens) s₁ := by
  have nd : ∀ {b : Addr} {o : Obj}, s₁.heap.get? b = some o → (b = a → False) → (hidT s₁.heap H).get? b = some o := fun {b o} e n => hidT_get e (Classical.byContradiction fun z => n (hA b z))
  have nsK : ∀ {b : Addr} {m : Str → Option Value}, s₁.heap.Ns b m → (hidT s₁.heap H).Ns b m := by
    rintro b m ⟨o, es, ep, e, d, r⟩
    refine ⟨o, es, ep, nd e fun z => ?_, d, r⟩
    subst z
    rw [ha] at e
    cases e
    cases (d : Data.seq vs.toArray _ = Data.dict es ep)
  have inK : K.In (hidT s₁.heap H) := by
    intro b o e
    refine hidT_get (KX b o e) (Classical.byContradiction fun z => ?_)
    have e' := hA b z
    subst e'
    rw [hK z] at e
    cases e
  obtain ⟨mc, l1, l2⟩ := h4
  have e0 : Env0 P w K mg (hidT s₁.heap H) callerA [] s₁ H :=
    ⟨rfl, ⟨inK, nsK h1, ⟨mb, nsK h2, h3⟩, ⟨mc, nsK l1, l2⟩⟩, fun b o e => of_hidT e, Nat.le_of_eq (hidT_size _ _), trivial, fun b z => absurd (show b ∈ ([] : List Addr) from z) (by simp), hok, .of_eq h5⟩
  have run := (F _ inK (nsK h1)).go callerA [] s₁ H ⟨[.ref a], []⟩ [.ref a] [.ref a] _ _ rfl hr e0 (hb s₁ (.ref a)) (.cons rfl .nil) hs
  refine codeAny_mono run fun r s' h => ?_
  match r, h with
  | .error e, h => exact (hE e s' h).elim
  | .ok .next, h => exact (h : False).elim
  | .ok .brk, h => exact (h : False).elim
  | .ok .cont, h => exact (h : False).elim
  | .ok (.ret u), ⟨v, H', os, bare, un, hok', r', q⟩ =>
    obtain rfl : v = .bl true := q
    obtain rfl : u = Value.bool true := r'
    refine ⟨rfl, OldK.of_keep fun b o e => ?_, os, bare⟩
    rcases hO b with z | ⟨ob, xs, z⟩
    · exact un.keep b o e z (fun m => absurd (show b ∈ ([] : List Addr) from m) (by simp)) (by simp)
    · have e1 := (hok b _ z).1
      rw [e] at e1
      cases e1
      exact (hok' b _ (un.frzs b _ _ z)).1
theorem endG (KX : K.In s₁.heap) (h1 : s₁.heap.Ns mainGlobals mg) (h2 : s₁.heap.Ns builtinsNs mb) (h3 : ∀ x : Str, x ≠ "__name__" → mb x = bootBuiltins x) (h4 : s₁.heap.NoLimit) (h5 : s₁.gens = #[])
    (ha : s₁.heap.get? a = some { cls := .type "list", data := .seq vs.toArray }) (hi : IntsAre vs ns) (hl : ns.length ≤ sizeLine) (hr : Room k callerA)
    (F : ∀ base : Heap, K.In base → base.Ns mainGlobals mg → FnG P w K mg base k fa fd [x] sp) (hb : ∀ (s : Shared) (u : Value), BindsTo s fd ⟨[u], []⟩ [(x, u)])
    (hs : ∀ H : Hp, Only H → SqL K H a (ns.map V.int) → sp [.ref a] H (fun v _ => v = .bl true) fun _ _ _ => False) (hE : ∀ H e s', ¬ CX0 [] H s₁ (fun _ _ _ => False) e s') :
    codeAny (model P w) callerA (.call (.ref fa) ⟨[.ref a], []⟩) (fun r s' => r = .ok (.ret (.bool true)) ∧ OldK s₁.heap s'.heap ∧ s'.os = s₁.os ∧ AllBare s'.gens) s₁ := by
  have rv := vals_ints hi
  have le : vs.toArray.size ≤ sizeLine := by rw [List.size_toArray, ← show ns.length = vs.length from hi.length.symm]; exact hl
  cases hk : K.lookup a with
  | some o =>
    have e := KX a o hk
    rw [ha] at e
    cases e
    have O : Only (fun _ => none) := fun _ => .inl rfl
    exact endG0 KX h1 h2 h3 h4 h5 ha hr F hb O (fun b u z => by cases (z : (none : Option HO) = some u)) (fun b z => absurd rfl z) (fun z => absurd rfl z) (hs _ O (.inr ⟨_, vs.toArray, _, hk, rfl, rfl, rfl, le, by simpa using rv⟩)) (hE _)
  | none =>
    let H : Hp := fun b => if b = a then some (.frz { cls := .type "list", data := .seq vs.toArray } (.lst (ns.map V.int))) else none
    have at_a : H a = some (.frz { cls := .type "list", data := .seq vs.toArray } (.lst (ns.map V.int))) := if_pos rfl
    have off : ∀ b, b ≠ a → H b = none := fun b n => if_neg n
    have O : Only H := fun b => by
      by_cases z : b = a
      · subst z; exact .inr ⟨_, _, at_a⟩
      · exact .inl (off b z)
    refine endG0 KX h1 h2 h3 h4 h5 ha hr F hb O (fun b u z => ?_) (fun b z => Classical.byContradiction fun n => z (off b n)) (fun _ => hk) (hs H O (.inl (.inr ⟨_, at_a⟩))) (hE _)
    by_cases n : b = a
    · subst n
      rw [at_a] at z
      cases z
      exact ⟨ha, by rw [List.length_map]; exact hl, vs, _, rv, ha⟩
    · rw [off b n] at z
      cases z
end
theorem walkG {l : PySem.W.OpenLaw} {n k : Nat} {q : Program} {loose : List Str} {XP : (Str → Option Value) → Heap → Prop} {YP : World → Heap → Prop} {d : DefRec} {x : Str}
    (hn : l.most = some n) (hn2 : n ≤ sizeLine) (hdf : d.params.defaults = []) (hr : Room k callerA)
    (F : ∀ (w : World) (mg : Str → Option Value) (fa : Addr) (h : Heap), YP w h → h.Ns mainGlobals mg → mg d.name = some (.ref fa) →
      ∃ (K : Fg) (fd : FuncData) (sp : Sp), K.In h ∧ (∀ (s : Shared) (u : Value), BindsTo s fd ⟨[u], []⟩ [(x, u)]) ∧
        (∀ (H : Hp) (a : Addr) (ns : List Int), ns.length ≤ n → Only H → SqL K H a (ns.map V.int) → sp [.ref a] H (fun v _ => v = .bl true) fun _ _ _ => False) ∧
        ∀ base : Heap, K.In base → base.Ns mainGlobals mg → FnG l.prog w K mg base k fa fd [x] sp) :
    PySem.W.WalkO q loose XP YP l.row.toRowW d [] (fun f vs => PySem.call f vs) := by
  apply Att.attach_call hn hdf
  intro w s₀ s₁ mg mb fa o pm cd doc a vs ns G Y ho hd hcd hmg hobj hints hlen hg
  obtain ⟨K, fd, sp, KX, hb, hsp, hF⟩ := F w mg fa _ Y G.T.g hmg
  exact endG KX G.T.g G.T.b G.T.builtins G.T.nolimit hg hobj hints (Nat.le_trans hlen hn2) hr hF hb (fun H hO hS => hsp H a ns hlen hO hS) fun _ _ _ z => z
end Vl
namespace Vl
open PySem PySem.Spec L2 Lb
def shw (x : PV) : Prop := dat 8 x = true ∧ (toD x).showable = true ∧ (toD x).hasDict = false ∧ (toD x).depth ≤ 30 ∧ (toD x).shown.length ≤ sizeLine ∧ ∀ i, toD x = .int i → i.natAbs.log2 < 1920
def bRepr : PCl
  | [x], Q => shw x ∧ Q (.str (toD x).shown)
  | _, _ => False
theorem repr_ok {K : Fg} : CallS K (rRepr K) bRepr := by
  intro B H xs vs Q Qp hK r h k
  subst hK
  match xs, r, h with
  | [x], .cons r .nil, h => exact ⟨_, _, rfl, dat_dp 8 r h.1.1, h.1.2.1, h.1.2.2.1, h.1.2.2.2.1, h.1.2.2.2.2.1, h.1.2.2.2.2.2, k _ _ H h.2 (.refl _ _) fun A _ _ => .str _⟩
  | [], _, h => exact (h : False).elim
  | _ :: _ :: _, _, h => exact (h : False).elim
section
variable {X : Cx} {ks : List Kd} {a s : Bool} {e : Expr} {es : List Expr} {pa : GA} {w : PW} {k j n : Nat} {x : Str} {dvs : List V} {ds : List PV} {p0 pos : Pos}
theorem qe_calGF (cc : CalG X.prog X.w X.K X.mg X.base k x (spF n w X.K) dvs) (hd : Dfl X.K ds dvs) (g : X.A.guards = some []) (hr : Room j X.A) (hk : k ≤ j) (hg : Gl X x) (h : QA X ks a s (e :: es) pa) (hn : (e :: es).length + dvs.length = n := by rfl)
    (hdb : (x == ("__debug__" : Str)) = false := by decide) (h1 : starEach (e :: es) X.env = (false, eval e X.env) :: starEach es X.env := by rfl) (h2 : (backTo pos (starEach es X.env)).any (·.1) = false := by rfl) :
    QE X ks true true (.Call (.Name x p0) (e :: es) [] pos) (pCall w ds pa) := qe_callF (ps := []) (fun t => pe_cG cc g hr hk hg t hdb h1 h2) hd h hn
theorem qe_repr (hm : X.mg "repr" = none) (hg : Gl X "repr") (g : X.A.guards = some []) (hu : X.A.units + 64 < cLine) (h : QA X ks a s [e] pa) (h1 : starEach [e] X.env = (false, eval e X.env) :: starEach [] X.env := by rfl) (h2 : (backTo pos (starEach [] X.env)).any (·.1) = false := by rfl) :
    QE X ks true true (.Call (.Name "repr" p0) [e] [] pos) (pCB bRepr pa) := qe_cbS repr_ok (call_reprG g hu) hm hg (by rfl) h (he := h1) (hpl := h2)
end
section
open PyProof.Rows
variable {P : Program} {w : World} {K : Fg} {mg : Str → Option Value} {base : Heap} {x qual : Str} {pr : Arguments} {bd : List Stmt} {sc : Scope} {dvs : List V} {kws : List (Str × V)} {f : Addr} {fd : FuncData}
theorem okG {N ps : List Str} {k : Nat} {sp : Sp} (F : FunD K x qual pr bd sc dvs kws f fd) (S : FnScope N ps sc) (hn : ∀ vs H Q E, sp vs H Q E → vs.length = ps.length)
    (hb : ∀ (cdv : Value) (A : Around) (o : List Env) (s : Shared) (H : Hp) (vs : List V) (Q : VK) (E : XK), A.guards = some [] → Room k (A.deeper (envOfC qual sc s.heap.objs.size f cdv)) → sp vs H Q E →
      ∃ t, PSs (cxOf CX0 P w K mg base N qual sc f cdv A o s H E) bd t ∧ t { nx := fun _ H' => Q .non H', rt := Q } (start N vs) H) : FnG P w K mg base (k + 1) f fd ps sp := by
  obtain ⟨oc, od, dV, kV, doc, pm, an, cdv, ct, osl, e, lk, hcd, z⟩ := F.ex
  subst e
  exact fnG_of lk hcd S hn (hb cdv)
end
end Vl
namespace Vl
open PySem PySem.Spec L2 Lb
def enumL : Nat → List PV → List PV
  | _, [] => []
  | n, x :: xs => .tup [.int n, x] :: enumL (n + 1) xs
theorem enumL_len : ∀ (n : Nat) (xs : List PV), (enumL n xs).length = xs.length
  | _, [] => rfl
  | n, x :: xs => by simp [enumL, enumL_len (n + 1) xs]
theorem enumL_at : ∀ (n : Nat) (xs : List PV) (i : Nat) {x : PV}, xs[i]? = some x → (enumL n xs)[i]? = some (.tup [.int ((n + i : Nat) : Int), x])
  | _, [], _, _, h => by simp at h
  | n, y :: xs, 0, x, h => by simp at h; subst h; rfl
  | n, y :: xs, i + 1, x, h => by
    have := enumL_at (n + 1) xs i (by simpa using h)
    simp only [enumL, List.getElem?_cons_succ]
    rw [this]
    congr 4; omega
def zipL : List PV → List PV → List PV
  | x :: xs, y :: ys => .tup [x, y] :: zipL xs ys
  | _, _ => []
theorem zipL_len : ∀ (xs ys : List PV), (zipL xs ys).length = min xs.length ys.length
  | [], _ => by simp [zipL]
  | _ :: _, [] => by simp [zipL]
  | x :: xs, y :: ys => by simp [zipL, zipL_len xs ys]
theorem zipL_at : ∀ (xs ys : List PV) (i : Nat) {x y : PV}, xs[i]? = some x → ys[i]? = some y → (zipL xs ys)[i]? = some (.tup [x, y])
  | [], _, _, _, _, h, _ => by simp at h
  | _ :: _, [], _, _, _, _, h => by simp at h
  | x :: xs, y :: ys, 0, _, _, h, h' => by simp at h h'; subst h; subst h'; rfl
  | x :: xs, y :: ys, i + 1, _, _, h, h' => by simpa [zipL] using zipL_at xs ys i (by simpa using h) (by simpa using h')
end Vl
namespace Vl
open PySem PySem.Spec L2 Lb
end Vl
namespace Vl
open PySem PySem.Spec L2 Lb
def oEqS : PO2
  | .str a, .str b, Q => Q (.bl (decide (a = b)))
  | _, _, _ => False
theorem dec_strV (a b : Str) : decide (V.str a = V.str b) = decide (a = b) := by
  by_cases h : a = b
  · simp [h]
  · rw [decide_eq_false h, decide_eq_false (fun z => h (V.str.inj z))]
theorem eqS_ok {K : Fg} : OpS K (rEqA K) oEqS := by
  intro B H x y v u Q Qp hK rx ry h k
  cases rx <;> cases ry <;> first | exact (h : False).elim | skip
  refine .inl ⟨rfl, ?_⟩
  rw [dec_strV]; exact k _ _ H h (.refl _ _) fun A => .bl _
section
variable {X : Cx} {ks : List Kd} {a s a1 s1 a2 s2 : Bool} {e e1 e2 : Expr} {p p1 p2 : GE} {pos : Pos}
theorem qe_eqS (hu : X.A.units + 64 < cLine) (h1 : QE X ks a1 s1 e1 p1) (h2 : QE X ks a2 s2 e2 p2) : QE X ks true true (.Compare e1 [.Eq] [e2] pos) (pOp oEqS p1 p2) := qe_opS eqS_ok (fun x y => pe_cmpR (op_eqA hu) x y (nomark _)) h1 h2
end
mutual
/-- small: ints below 10 ^ 18, texts of small signs, no dicts; w: how heavy -/
def smp : PV → Bool
  | .non => true
  | .bl _ => true
  | .int i => decide (i.natAbs < 10 ^ 18)
  | .str x => x.cps.all (· < 0x110000)
  | .lst xs => smps xs
  | .tup xs => smps xs
  | _ => false
def smps : List PV → Bool
  | [] => true
  | x :: xs => smp x && smps xs
def wgt : PV → Nat
  | .str x => x.cps.size
  | .lst xs => wgts xs
  | .tup xs => wgts xs
  | _ => 0
def wgts : List PV → Nat
  | [] => 0
  | x :: xs => wgt x + 61 + wgts xs
end
theorem int_shown {i : Int} (h : i.natAbs < 10 ^ 18) : (PyData.shown (.int i)).length ≤ 19 := by
  have e := int_text_length_le10 (k := 18) (by decide) h
  show (Str.ofString (toString i)).length ≤ 19
  rw [ofString_length]; exact e
theorem log_lt {n k : Nat} (h : n < 2 ^ k) (hk : 0 < k) : n.log2 < k := by
  by_cases z : n = 0
  · subst z; simpa using hk
  · exact (Nat.log2_lt z).mpr h
mutual
theorem smp_short : ∀ x : PV, smp x = true → PyData.leavesShort 19 (toD x) = true ∧ PyData.showable (toD x) = true ∧ PyData.weight (toD x) ≤ wgt x + 60 ∧ PyData.hasDict (toD x) = false
  | .non, _ => by simp [toD, PyData.leavesShort, PyData.showable, PyData.weight, PyData.hasDict]
  | .bl b, _ => by simp [toD, PyData.leavesShort, PyData.showable, PyData.weight, PyData.hasDict]
  | .int i, h => by
    have h : i.natAbs < 10 ^ 18 := by simpa [smp] using h
    have h2 : i.natAbs.log2 < 60 := log_lt (Nat.lt_of_lt_of_le h (by decide)) (by decide)
    refine ⟨by simp only [toD, PyData.leavesShort, decide_eq_true_eq]; exact int_shown h, by simp only [toD, PyData.showable, decide_eq_true_eq]; omega, ?_, by simp [toD, PyData.hasDict]⟩
    simp only [toD, PyData.weight]
    split <;> omega
  | .str x, h => by
    have h : x.cps.all (· < 0x110000) = true := by simpa only [smp] using h
    refine ⟨?_, by simp [toD, PyData.showable], by simp [toD, PyData.weight, wgt], by simp [toD, PyData.hasDict]⟩
    simp only [toD, PyData.leavesShort, List.all_eq_true, decide_eq_true_eq]
    intro c hc
    have h0 : x.cps.toList.all (· < 0x110000) = true := by rw [Array.all_toList]; exact h
    have := List.all_eq_true.mp h0 c hc
    simp at this
    omega
  | .lst xs, h => by
    have := smps_short xs (by simpa only [smp] using h)
    simp only [toD, PyData.leavesShort, PyData.showable, PyData.weight, PyData.hasDict, wgt]
    exact ⟨this.1, this.2.1, by omega, this.2.2.2⟩
  | .tup xs, h => by
    have := smps_short xs (by simpa only [smp] using h)
    simp only [toD, PyData.leavesShort, PyData.showable, PyData.weight, PyData.hasDict, wgt]
    exact ⟨this.1, this.2.1, by omega, this.2.2.2⟩
  | .ty _, h => by simp [smp] at h
  | .dK _, h => by simp [smp] at h
  | .dT _, h => by simp [smp] at h
  | .ins _ _, h => by simp [smp] at h
  | .cls _, h => by simp [smp] at h
  | .bag, h => by simp [smp] at h
theorem smps_short : ∀ xs : List PV, smps xs = true → PyData.leavesShortAll 19 (toDs xs) = true ∧ PyData.showableAll (toDs xs) = true ∧ PyData.weightAll (toDs xs) ≤ wgts xs ∧ PyData.hasDictAll (toDs xs) = false
  | [], _ => by simp [toDs, PyData.leavesShortAll, PyData.showableAll, PyData.weightAll, PyData.hasDictAll]
  | x :: xs, h => by
    rw [smps, Bool.and_eq_true] at h
    have h1 := smp_short x h.1
    have h2 := smps_short xs h.2
    simp only [toDs, PyData.leavesShortAll, PyData.showableAll, PyData.weightAll, PyData.hasDictAll, wgts, h1.1, h2.1, h1.2.1, h2.2.1, h1.2.2.2, h2.2.2.2, Bool.and_self, Bool.or_self]
    exact ⟨trivial, trivial, by omega, trivial⟩
end
theorem shw_of {x : PV} (hd : dat 8 x = true) (hs : smp x = true) (hw : wgt x ≤ 700000) : shw x := by
  obtain ⟨h1, h2, h3, h4⟩ := smp_short x hs
  have h5 := (dat_lay 8 x hd).2
  refine ⟨hd, h2, h4, by omega, ?_, fun i e => ?_⟩
  · have := PyData.shown_le 19 (by decide) _ h1
    rw [sizeLine_eq]; omega
  · rw [e] at h2
    simpa [PyData.showable] using h2
mutual
theorem eqv_refl : ∀ (n : Nat) (x : PV), dat n x = true → PyData.eqv (toD x) (toD x) = true
  | _, .non, _ => by simp [toD, PyData.eqv]
  | _, .bl b, _ => by simp [toD, PyData.eqv]
  | _, .int i, _ => by simp [toD, PyData.eqv]
  | _, .str x, _ => by simp [toD, PyData.eqv]
  | n + 1, .lst xs, h => by simp only [toD, PyData.eqv]; exact eqvs_refl n xs (by simpa only [dat] using h)
  | n + 1, .tup xs, h => by simp only [toD, PyData.eqv]; exact eqvs_refl n xs (by simpa only [dat] using h)
  | 0, .lst _, h => by simp [dat] at h
  | 0, .tup _, h => by simp [dat] at h
  | n, .ty _, e => by cases n <;> simp [dat] at e
  | n, .dK _, e => by cases n <;> simp [dat] at e
  | n, .dT _, e => by cases n <;> simp [dat] at e
  | n, .ins _ _, e => by cases n <;> simp [dat] at e
  | n, .cls _, e => by cases n <;> simp [dat] at e
  | n, .bag, e => by cases n <;> simp [dat] at e
theorem eqvs_refl : ∀ (n : Nat) (xs : List PV), dats n xs = true → PyData.eqvAll (toDs xs) (toDs xs) = true
  | _, [], _ => by simp [toDs, PyData.eqvAll]
  | n, x :: xs, h => by
    rw [dats, Bool.and_eq_true] at h
    simp only [toDs, PyData.eqvAll, eqv_refl n x h.1, eqvs_refl n xs h.2, Bool.and_self]
end
theorem peq_refl {x : PV} (h : dat 8 x = true) : peq x x = true := eqv_refl 8 x h
end Vl
namespace Vl
open PySem PySem.Spec L2 Lb
end Vl
namespace Vl
open PySem PySem.Spec L2 Lb PyProof.Rows
theorem drawsEndS {prog : Program} {w : World} {A : Around} (hh : A.handled = none) (it : Addr) (x : Str) (t : Tok) (i : Nat) (hi : x.cps.size ≤ i) :
    Draws prog w A it [it] i (fun _ _ => False) (fun j h => h.IsStrIter it (strIterType x) x t j ∧ j = i) where
  live := fun _ _ st => let ⟨o, ho, _⟩ := st.1; ⟨o, ho⟩
  frame := fun _ _ _ st hk => ⟨let ⟨o, ho, r⟩ := st.1; ⟨o, hk it (by simp) o ho, r⟩, st.2⟩
  item := fun j s Q E hj st hQ => absurd st.2 (Nat.ne_of_lt hj)
  done := fun s Q E st hE => by
    have st1 := st.1
    cases ha : x.cps.all (· < 128)
    · simp only [strIterType, ha, Bool.false_eq_true, if_false] at st1
      exact wpAny_nextOf_wide_end hh st1 (Array.getElem?_eq_none hi) hE
    · simp only [strIterType, ha, if_true] at st1
      exact wpAny_nextOf_ascii_end hh st1 (Array.getElem?_eq_none hi) hE
end Vl
namespace Vl
open PySem PySem.Spec L2 Lb
section
variable {X : Cx} {ks : List Kd} {a s a1 s1 : Bool} {e : Expr} {es : List Expr} {pa : GA} {w : Vl.PW} {k n : Nat} {x : Str} {ps' : List Str} {dvs : List V} {ds : List PV} {p : GE} {p0 pos : Pos}
theorem Ob.rpA {B : Bg} {A A' : Addr → Prop} {H : Hp} {b : Addr} {x : PV} (h : Ob B A H b x) (n : ¬ A' b) (g : ∀ c, A' c → A c) : Rp B A' H x (.ref b) := by
  cases x with
  | lst xs => obtain ⟨vs, h1, h2⟩ := h; exact .lst n h1 (h2.anti g)
  | dT kvs => obtain ⟨ws, h1, h2, h3⟩ := h; exact .dT n h1 h2 rfl rfl rfl (h3.anti g)
  | dK kvs => obtain ⟨ws, h1, h2, h3⟩ := h; exact .dK n h1 h2 rfl rfl rfl (h3.anti g)
  | ins c fs => obtain ⟨dx, ws, h1, h2, h3⟩ := h; exact .ins n h1 h2 rfl (h3.anti g)
  | _ => exact h.elim
theorem qe_new (h : QN X ks e p) : QE X ks true true e p :=
  PEi h fun σ H Q ⟨E, L, γ, Qp, hK, R, hp, k⟩ => ⟨E, L, γ, Qp, hK, R, hp, fun x b H' qx x1 nb ob => k x (.ref b) H' qx x1 (ob.rpA (fun z => av_nn R z nb) fun c z => .inl z)⟩
end
end Vl
namespace Vl
open PySem PySem.Spec L2 Lb
theorem Obs.atI {B : Bg} {A : Addr → Prop} {H : Hp} {xs : List PV} {as : List Addr} {n : Int} {x : PV} (o : Obs B A H xs as) (h : L2.atI xs n = some x) : ∃ c, L2.atI (as.map V.ref) n = some (.ref c) ∧ Ob B A H c x := by
  unfold L2.atI at h ⊢
  rw [List.length_map, ← o.len]
  cases e : ixN xs.length n with
  | none => rw [e] at h; cases h
  | some j =>
    rw [e] at h
    obtain ⟨c, h1, h2⟩ := o.get h
    refine ⟨c, ?_, h2⟩
    show (as.map V.ref)[j]? = some (.ref c)
    rw [List.getElem?_map, h1]; rfl
section
variable {X : Cx} {ks ks' kl : List Kd} {a s a1 s1 a2 s2 : Bool} {e e1 e2 : Expr} {es : List Expr} {st : Stmt} {p p1 p2 : GE} {gs : GGs} {pos tpos : Pos} {i n kk : Nat} {js : List Nat}
theorem qe_ixO (i : Nat) (hi : PE X e1 (tVar i)) (h2 : QE X ks a2 s2 e2 p2) (hk : ks[i]? = some .own := by rfl) (hs : PlainIx e2 := by intro _ _; rfl) : QE X ks true true (.Subscript e1 e2 pos) (pOp oIx (pVar i) p2) :=
  PEi (pe_ix ix_list hi h2 hs) fun σ H Q ⟨E, L, γ, Qp, hK, R, hp, k⟩ => by
    obtain ⟨x, hx, q⟩ := getS_of hp
    obtain ⟨b, hv, hb, _, _⟩ := R.upd1 hk hx
    refine ⟨.ref b, hv, E, L, γ, _, hK, R, q, fun y u H2 q2 x2 r2 => ?_⟩
    obtain ⟨b', hv', _, ob, _⟩ := (R.ex x2).upd1 hk hx
    rw [hv] at hv'; cases hv'
    match x, hx, q2, ob with
    | .lst xs, hx, q2, ⟨vs, g1, g2⟩ =>
      cases r2 with
      | int j =>
        have q3 : (match atI xs j with | some x => Qp x | none => False) := q2
        cases e : atI xs j with
        | none => rw [e] at q3; exact q3.elim
        | some c =>
          rw [e] at q3
          obtain ⟨u, hu, ru⟩ := g2.atI e
          exact ⟨b, vs, j, u, rfl, rfl, .inl (.inl g1), hu, k _ _ H2 q3 x2 ru⟩
      | _ => exact (q2 : False).elim
    | .dT _, _, q2, _ => cases r2 <;> exact (q2 : False).elim
    | .dK _, _, q2, _ => cases r2 <;> exact (q2 : False).elim
    | .ins _ _, _, q2, _ => cases r2 <;> exact (q2 : False).elim
end
end Vl
namespace Vl
open PySem PySem.Spec L2
@[irreducible] def yForP (g : GG) (b : GS) (D : GD) (xs : List PV) (γ : G) : Prop := forP g b D xs γ
theorem yForP_eq (g : GG) (b : GS) (D : GD) (xs : List PV) (γ : G) : yForP g b D xs γ = forP g b D xs γ := by unfold yForP; rfl
def yFor (it : GA) (g : GG) (b : GS) : GS := fun D γ => it γ fun xs => yForP g b D xs γ
theorem yFor_eq (it : GA) (g : GG) (b : GS) : yFor it g b = pFor it g b := by
  funext D γ
  show (it γ fun xs => yForP g b D xs γ) = it γ fun xs => forP g b D xs γ
  congr 1
  funext xs
  exact yForP_eq g b D xs γ
@[irreducible] def yLcP (g : GG) (t : GT) (e : GE) (γ : G) (xs : List PV) (Q : List PV → Prop) : Prop := lcP g t e γ xs Q
theorem yLcP_eq (g : GG) (t : GT) (e : GE) (γ : G) (xs : List PV) (Q : List PV → Prop) : yLcP g t e γ xs Q = lcP g t e γ xs Q := by unfold yLcP; rfl
def yLc (vs : List Nat) (it : GA) (g : GG) (t : GT) (e : GE) : GE := fun γ Q => it γ fun xs => xs.length ≤ sizeLine ∧ wipeS γ vs fun γw => yLcP g t e γw xs fun ys => Q (.lst ys)
theorem yLc_eq (vs : List Nat) (it : GA) (g : GG) (t : GT) (e : GE) : yLc vs it g t e = xLc vs it g t e := by
  funext γ Q
  show (it γ fun xs => xs.length ≤ sizeLine ∧ wipeS γ vs fun γw => yLcP g t e γw xs fun ys => Q (.lst ys)) = it γ fun xs => xs.length ≤ sizeLine ∧ wipeS γ vs fun γw => lcP g t e γw xs fun ys => Q (.lst ys)
  congr 1
  funext xs
  congr 2
  funext γw
  exact yLcP_eq g t e γw xs _
theorem yq_for {X : Cx} {ks kl : List Kd} {st : Stmt} {it : GA} {g : GG} {b : GS} (h : QS X ks ks kl st (pFor it g b)) : QS X ks ks kl st (yFor it g b) := by rw [yFor_eq]; exact h
theorem yq_lc {X : Cx} {ks : List Kd} {a s : Bool} {e : Expr} {vs : List Nat} {it : GA} {g : GG} {t : GT} {p : GE} (h : QE X ks a s e (xLc vs it g t p)) : QE X ks a s e (yLc vs it g t p) := by rw [yLc_eq]; exact h
theorem yfor_nil {g : GG} {b : GS} {D : GD} {γ : G} (k : D.nx γ) : yForP g b D [] γ := by rw [yForP_eq]; exact k
theorem yfor_cons {g : GG} {b : GS} {D : GD} {x : PV} {xs : List PV} {γ : G} (k : g x γ fun γ1 => b { D with nx := yForP g b D xs, ct := yForP g b D xs, bk := D.nx } γ1) : yForP g b D (x :: xs) γ := by
  rw [yForP_eq]
  have e : yForP g b D xs = forP g b D xs := funext fun γ => yForP_eq g b D xs γ
  rw [e] at k
  exact k
theorem ylc_nil {g : GG} {t : GT} {e : GE} {γ : G} {Q : List PV → Prop} (k : Q []) : yLcP g t e γ [] Q := by rw [yLcP_eq]; exact k
theorem ylc_cons {g : GG} {t : GT} {e : GE} {γ : G} {x : PV} {xs : List PV} {Q : List PV → Prop} (k : g x γ fun γ2 => t γ2 fun b => bfi b (e γ2 fun y => yLcP g t e γ xs fun ys => Q (y :: ys)) (yLcP g t e γ xs Q)) : yLcP g t e γ (x :: xs) Q := by
  rw [yLcP_eq]
  have h : yLcP g t e γ xs = lcP g t e γ xs := funext fun Q => yLcP_eq g t e γ xs Q
  rw [h] at k
  exact k
/-- a loop by an invariant over what is left -/
theorem yforI {α : Type} {g : GG} {b : GS} {D : GD} {h : α → PV} (I : List α → G → Prop) : ∀ {l : List α} {γ : G}, I l γ → (∀ a l γ, I (a :: l) γ → ∀ K : G → Prop, (∀ γ', I l γ' → K γ') → g (h a) γ fun γ1 => b { D with nx := K, ct := K, bk := D.nx } γ1) → (∀ γ, I [] γ → D.nx γ) → yForP g b D (l.map h) γ
  | [], _, i, _, k => yfor_nil (k _ i)
  | a :: l, γ, i, hs, k => yfor_cons (hs a l γ i _ fun γ' i' => yforI I i' hs k)
/-- range(n), the turn's number in the invariant -/
theorem yforR {g : GG} {b : GS} {D : GD} (I : Nat → G → Prop) {n : Nat} {γ : G} (i : I 0 γ) (hs : ∀ (m : Nat) γ, m < n → I m γ → ∀ K : G → Prop, (∀ γ', I (m + 1) γ' → K γ') → g (.int m) γ fun γ1 => b { D with nx := K, ct := K, bk := D.nx } γ1) (k : ∀ γ, I n γ → D.nx γ) : yForP g b D (Vl.upTo 0 n) γ := by
  unfold Vl.upTo
  rw [List.range_eq_range']
  suffices ∀ (c s : Nat) γ, s + c = n → I s γ → yForP g b D ((List.range' s c).map fun k : Nat => PV.int (0 + (k : Nat))) γ from this n 0 γ (by omega) i
  intro c
  induction c with
  | zero => intro s γ h i; exact yfor_nil (k _ (by rwa [show s = n by omega] at i))
  | succ c ih =>
    intro s γ h i
    rw [List.range'_succ, List.map_cons]
    refine yfor_cons ?_
    rw [Int.zero_add]
    exact hs s γ (by omega) i _ fun γ' i' => ih (s + 1) γ' (by omega) i'
/-- .. any value with a property -/
theorem ylcD {α : Type} {g : GG} {e : GE} {γ : G} {h : α → PV} {P : PV → Prop} : ∀ {l : List α} {Q : List PV → Prop}, (∀ a ∈ l, ∀ Q : PV → Prop, (∀ y, P y → Q y) → g (h a) γ fun γ2 => e γ2 Q) → (∀ ys, ys.length = l.length → (∀ y ∈ ys, P y) → Q ys) → yLcP g pYes e γ (l.map h) Q
  | [], _, _, k => ylc_nil (k [] rfl (by simp))
  | a :: l, Q, hf, k => ylc_cons (hf a (by simp) _ fun y hy => ylcD (fun b m => hf b (by simp [m])) fun ys hl hp => k (y :: ys) (by simp [hl]) fun z m => (List.mem_cons.mp m).elim (fun e => e ▸ hy) (hp z))
theorem bift {c : Prop} [Decidable c] {A B : Prop} (h : c) (k : A) : bfi (decide c) A B := by rw [decide_eq_true h]; exact k
theorem biff {c : Prop} [Decidable c] {A B : Prop} (h : ¬ c) (k : B) : bfi (decide c) A B := by rw [decide_eq_false h]; exact k
theorem nbift {c : Prop} [Decidable c] {A B : Prop} (h : c) (k : B) : bfi (!decide c) A B := by rw [decide_eq_true h]; exact k
theorem nbiff {c : Prop} [Decidable c] {A B : Prop} (h : ¬ c) (k : A) : bfi (!decide c) A B := by rw [decide_eq_false h]; exact k
@[irreducible] def jSeq (p q : GS) : GS := pSeq p q
theorem jSeq_eq (p q : GS) : jSeq p q = pSeq p q := by unfold jSeq; rfl
theorem jq {X : Cx} {ks ks' kl : List Kd} {sts : List Stmt} {p q : GS} (h : QB X ks ks' kl sts (pSeq p q)) : QB X ks ks' kl sts (jSeq p q) := by rw [jSeq_eq]; exact h
theorem j_by {p q : GS} {D : GD} {γ : G} (I : G → Prop) (h1 : ∀ K : G → Prop, (∀ γ', I γ' → K γ') → p { D with nx := K } γ) (h2 : ∀ γ', I γ' → q D γ') : jSeq p q D γ := by rw [jSeq_eq]; exact h1 (q D) h2
theorem j_go {p q : GS} {D : GD} {γ : G} (h : p { D with nx := q D } γ) : jSeq p q D γ := by rw [jSeq_eq]; exact h
end Vl
namespace Vl
open PySem PySem.Spec L2 Lb PyProof.Rows
section
variable {X : Cx} {ks : List Kd} {a s : Bool} {e : Expr} {p : GE} {pos : Pos}
/-- a dict written with texts for keys -/
def pDisp : List (Str × GE) → G → (List (Key × PV) → Prop) → Prop
  | [], _, Q => Q []
  | (x, p) :: t, γ, Q => p γ fun y => pDisp t γ fun r => Q ((.inr x, y) :: r)
inductive QPs (X : Cx) (ks : List Kd) (a s : Bool) : List (Option Expr) → List Expr → List (Str × GE) → List (TE × TE) → Prop
  | nil : QPs X ks a s [] [] [] []
  | cons {n : Nat} {q : Pos} {x : Str} {v : Expr} {p : GE} {ks' : List (Option Expr)} {vs : List Expr} {l : List (Str × GE)} {t : List (TE × TE)} : QE X ks a s v p → QPs X ks a s ks' vs l t → QPs X ks a s (some (.Constant (.str x) n q) :: ks') (v :: vs) ((x, p) :: l) ((tC (.str x), tE X.K ks a s p) :: t)
theorem QPs.len {ks' : List (Option Expr)} {vs : List Expr} {l : List (Str × GE)} {t : List (TE × TE)} (h : QPs X ks a s ks' vs l t) : ks'.length = vs.length ∧ ks'.all (·.isSome) = true ∧ l.length = vs.length := by
  induction h with
  | nil => exact ⟨rfl, rfl, rfl⟩
  | cons _ _ ih => exact ⟨by simp [ih.1], by simpa using ih.2.1, by simp [ih.2.2]⟩
theorem QPs.run {E : Ac} {L : List Addr} {γ : G} {σ : L2.St} {ks' : List (Option Expr)} {vs : List Expr} {l : List (Str × GE)} {t : List (TE × TE)} (h : QPs X ks a s ks' vs l t) (hK : E.B.K = X.K) : ∀ {H : Hp} {Q : List (V × V) → Hp → Prop} {Qp : List (Key × PV) → Prop}, Rel E L ks γ σ H → pDisp l γ Qp →
    (∀ (kvs : List (Key × PV)) (ws : List (Key × V)) H', Qp kvs → Ex E.B H H' → kvs.map (·.1) = ws.map (·.1) → kvs.map (·.1) = l.map (fun y => Sum.inr y.1) → RpL E.B (av E L a s) H' (kvs.map (·.2)) (ws.map (·.2)) → Q (ws.map fun kv => (kV kv.1, kv.2)) H') → tPairs t σ H Q := by
  induction h with
  | nil => intro H Q Qp R hp k; exact k [] [] H hp (.refl _ _) rfl rfl .nil
  | @cons n q x v p ks' vs l t hv ht ih =>
    intro H Q Qp R hp k
    show tPairs ((tC (.str x), tE X.K ks a s p) :: t) σ H Q
    show tE X.K ks a s p σ H fun y H2 => tPairs t σ H2 fun ps H3 => Q ((.str x, y) :: ps) H3
    refine ⟨E, L, γ, _, hK, R, hp, fun y u H1 q1 x1 r1 => ih (R.ex x1) q1 fun kvs ws H2 q2 x2 e1 e2 r2 => ?_⟩
    exact k ((.inr x, y) :: kvs) ((.inr x, u) :: ws) H2 q2 (x1.trans x2) (by simp [e1]) (by simp [e2]) (.cons (r1.ex x2 av_q) r2)
end
end Vl
namespace Vl
open PySem PySem.Spec L2 Lb
section
variable {X : Cx} {ks kl : List Kd} {a s a1 s1 a2 s2 : Bool} {e e1 e2 o : Expr} {es : List Expr} {p p1 p2 : GE} {pa : GA} {pos tpos : Pos} {st : Stmt} {x1 : Nat}
theorem qn_dK : QN X ks (.Dict [] [] pos) (pC (.dK [])) :=
  PEi pe_dnewK fun σ H Q ⟨E, L, γ, Qp, hK, R, hp, k⟩ => fun b nb => k _ b _ hp (.new nb) nb ⟨[], upd_same, rfl, .nil⟩
end
end Vl
namespace Vl
open PySem PySem.Spec L2 Lb
end Vl
namespace Vl
open PySem PySem.Spec L2 Lb
end Vl
namespace Vl
open PySem PySem.Spec L2 Lb
end Vl
namespace Vl
open PySem PySem.Spec L2 Lb
end Vl
namespace Vl
open PySem PySem.Spec L2 Lb
end Vl
namespace Vl
open PySem PySem.Spec L2 Lb
end Vl
namespace Vl
open PySem PySem.Spec L2 Lb
end Vl
namespace Vl
open PySem PySem.Spec L2 Lb
end Vl
namespace Vl
open PySem PySem.Spec L2 Lb
end Vl
namespace Vl
open PySem PySem.Spec L2 Lb PySem.Builtin PySem.Builtin.Str
end Vl
namespace Vl
open PySem PySem.Spec L2 Lb
end Vl
namespace Vl
open PySem PySem.Spec L2 Lb
end Vl
namespace Vl
open PySem PySem.Spec L2 Lb
end Vl
namespace Vl
open PySem PySem.Spec L2 Lb
end Vl
namespace Vl
open PySem PySem.Spec PyProof.Rows L2 Lb
end Vl
namespace Vl
open PySem PySem.Spec L2 Lb
abbrev KVs := List (List Key × PV)
/-- the new dict at D as it goes -/
def DsT (E : Ac) (L : List Addr) (D : Addr) (H1 : Hp) (d : KVs) (H : Hp) : Prop := Ex E.B H1 H ∧ ∃ ws, H D = some (.dT ws) ∧ d.map (·.1) = ws.map (·.1) ∧ RpL E.B (av E (D :: L) true true) H (d.map (·.2)) (ws.map (·.2))
theorem DsT.ex {E : Ac} {L : List Addr} {D : Addr} {H1 H H' : Hp} {d : KVs} (h : DsT E L D H1 d H) (x : Ex E.B H H') (nq : D ≠ E.B.q) : DsT E L D H1 d H' := by
  obtain ⟨x1, ws, h1, h2, h3⟩ := h
  exact ⟨x1.trans x, ws, x.st _ _ h1 nq, h2, h3.ex x av_q⟩
end Vl
namespace Vl
open PySem PySem.Spec L2 Lb
section
variable {X : Cx} {ks : List Kd} {a s a1 : Bool} {e o kx vx tg : Expr} {ifs : List Expr} {p : GE} {g : GG} {pt : GT} {pos apos cpos : Pos} {js vs : List Nat}
/-- at work with nothing but the bag -/
def Ac.bare (E : Ac) (H : Hp) : Ac := ⟨E.B, fun b => b = E.B.q, fun b => if b = E.B.q then H b else if b = E.B.r then H b else none, E.me⟩
theorem Rel.bare {E : Ac} {L : List Addr} {γ γ' : G} {σ : St} {H H' : Hp} (R : Rel E L ks γ σ H) (hq : H' E.B.q = H E.B.q) (hr : H' E.B.r = H E.B.r) (hl : γ'.length = γ.length) (hn : ∀ (i : Nat) (x : PV), γ'[i]? ≠ some (some x)) : Rel (E.bare H') [] ks γ' σ H' := by
  obtain ⟨x, y, z, cs, h1, h2, h3, h4⟩ := R.bag
  have bag' : BagOk E.B H' := ⟨x, y, z, cs, hq.trans h1, hr.trans h2, h3, h4⟩
  refine ⟨fun a o h n => ?_, fun a h => ?_, bag', fun a h => ?_, rfl, ?_, (fun _ z => nomatch z), hl.trans R.len, ⟨fun _ => [], (fun i x h => absurd h (hn i x)), (fun _ _ z => nomatch z), (fun _ _ _ z => nomatch z), fun _ => List.nodup_nil⟩⟩
  · have h : (if a = E.B.q then H' a else if a = E.B.r then H' a else none) = some o := h
    have n : a ≠ E.B.q := n
    rw [if_neg n] at h
    by_cases e : a = E.B.r
    · rw [if_pos e] at h; exact h
    · rw [if_neg e] at h; cases h
  · have h : (if a = E.B.q then H' a else if a = E.B.r then H' a else none) ≠ none := h
    by_cases e : a = E.B.q
    · rw [if_pos e] at h; exact h
    · rw [if_neg e] at h
      by_cases e : a = E.B.r
      · rw [if_pos e] at h; exact h
      · rw [if_neg e] at h; exact absurd rfl h
  · have h : a = E.B.q := h
    show (if a = E.B.q then H' a else if a = E.B.r then H' a else none) ≠ none
    rw [if_pos h, h, hq, h1]; exact nofun
  · show (if E.B.r = E.B.q then H' E.B.r else if E.B.r = E.B.r then H' E.B.r else none) ≠ none
    rw [if_neg h3, if_pos rfl, hr, h2]; exact nofun
end
end Vl
namespace Vl
end Vl
namespace Vl
open PySem PySem.Spec L2 Lb
end Vl
namespace Vl
open PySem PySem.Spec L2 Lb PyProof.Rows
end Vl
namespace Vl
open PySem PySem.Spec L2 Lb
end Vl
namespace Vl
open PySem PySem.Spec L2 Lb PyProof.Rows
end Vl
namespace Vl
open PySem PySem.Spec PyProof.Rows L2 Lb
end Vl
namespace Vl
open PySem PySem.Spec PyProof.Rows L2 Lb
def enSt (x : Str) (t : Tok) (e it : Addr) (i : Nat) (h : Heap) : Prop := (∃ old, IsEnum h e it ((i : Nat) : Int) old) ∧ h.IsStrIter it (strIterType x) x t i ∧ e ≠ it ∧ i ≤ x.cps.size
theorem enSt.at {x : Str} {t : Tok} {e it : Addr} {i : Nat} {h h' : Heap} (st : enSt x t e it i h) (k : ∀ b ∈ [e, it], ∀ o, h.get? b = some o → h'.get? b = some o) : enSt x t e it i h' := by
  obtain ⟨⟨old, he⟩, ⟨o, ho, r⟩, ne⟩ := st
  exact ⟨⟨old, k e (by simp) _ he⟩, ⟨o, k it (by simp) _ ho, r⟩, ne⟩
end Vl
namespace Vl
open PySem PySem.Spec L2 Lb
end Vl
namespace Vl
open PySem PySem.Spec L2 Lb
end Vl
namespace Vl
open PySem PySem.Spec L2 Lb
mutual
theorem RpO.any {B : Bg} {A A' : Addr → Prop} {H : Hp} : ∀ {x : PV} {v : V} {O : List Addr}, RpO B A H x v O → RpO B A' H x v O
  | _, _, _, .imm e r => .imm e (r.im e)
  | _, _, _, .lst h r => .lst h (RpOL.any r)
  | _, _, _, .tup h r => .tup h (RpOL.any r)
theorem RpOL.any {B : Bg} {A A' : Addr → Prop} {H : Hp} : ∀ {x : List PV} {v : List V} {O : List Addr}, RpOL B A H x v O → RpOL B A' H x v O
  | _, _, _, .nil => .nil
  | _, _, _, .cons h r => .cons (RpO.any h) (RpOL.any r)
end
section
variable {X : Cx} {ks ks' kl : List Kd} {a s : Bool} {e e1 tg : Expr} {p p1 p2 : GE} {st : Stmt} {pos : Pos} {i : Nat}
theorem vis_kd {ks : List Kd} (hs : ks.all Kd.vis = true) (i : Nat) : (kd ks i).vis = true := by
  unfold kd
  by_cases h : i < ks.length
  · simp only [List.getD, List.getElem?_eq_getElem h, Option.getD_some]
    exact List.all_eq_true.mp hs _ (List.getElem_mem h)
  · simp only [List.getD, List.getElem?_eq_none (Nat.not_lt.mp h), Option.getD_none]
    rfl
theorem Rel.bor {E : Ac} {L : List Addr} {γ : G} {σ : L2.St} {H : Hp} (R : Rel E L ks γ σ H) (hs : ks.all Kd.vis = true) {n : Nat} (hn : γ.length ≤ n) : Rel ⟨E.B, fun a => H a ≠ none, H, E.me⟩ [] (List.replicate n .bor) γ σ H := by
  refine ⟨fun _ _ h _ => h, fun _ h => h, R.bag, fun _ h => h, R.bag.q, R.onn _ R.ar, (fun _ m => nomatch m), R.len, fun _ => [], fun i x hx => ?_, (fun _ _ m => nomatch m), (fun _ _ _ m => nomatch m), fun _ => List.nodup_nil⟩
  obtain ⟨v, hv, r⟩ := R.read hx (vis_kd hs i)
  have hi : i < n := Nat.lt_of_lt_of_le (List.getElem?_eq_some_iff.mp hx).1 hn
  refine ⟨v, hv, ?_⟩
  have : kd (List.replicate n Kd.bor) i = .bor := by unfold kd; simp [List.getD, List.getElem?_replicate, hi]
  rw [this]
  refine ⟨rfl, r.anti fun c z => ?_⟩
  rcases z with z | ⟨z, _⟩ | ⟨_, z⟩
  · exact .inl z
  · cases z
  · cases z
theorem RpOL.len {B : Bg} {A : Addr → Prop} {H : Hp} : ∀ {xs : List PV} {vs : List V} {O : List Addr}, RpOL B A H xs vs O → xs.length = vs.length
  | _, _, _, .nil => rfl
  | _, _, _, .cons _ t => by simp [RpOL.len t]
end
end Vl
namespace Vl
open PySem PySem.Spec L2 Lb
end Vl
namespace Vl
open PySem PySem.Spec PyProof.Rows L2 Lb
def ItSS (x y : Str) : It :=
  ⟨fun i _ => i < x.cps.size ∧ i < y.cps.size, fun i H u H' => ∃ (T : Addr) (c d : Nat), u = .ref T ∧ H T = none ∧ H' = upd H T (.tup [.str ⟨#[c]⟩, .str ⟨#[d]⟩]) ∧ x.cps[i]? = some c ∧ y.cps[i]? = some d, fun i _ => x.cps.size ≤ i ∨ y.cps.size ≤ i⟩
theorem turn_zipSS {P : Program} {w : World} {K : Fg} {elts : List Expr} {kk : Nat} {tpos : Pos} {z TI TO i1 i2 : Addr} {x y : Str} {t t' : Tok} (S : ZipSep2 z TI TO i1 i2 [i1] [i2]) :
    Turn P w K (.Tuple elts kk tpos) (ItSS x y) [z, TI, TO, i1, i2] z (fun i h => IsZip h z TI TO .none ∧ IsTupOf2 h TI (.ref i1) (.ref i2) ∧ (∃ u v, IsTupOf2 h TO u v) ∧ h.IsStrIter i1 (strIterType x) x t i ∧ h.IsStrIter i2 (strIterType y) y t' i) where
  mem := by simp
  obj := fun i h st c hc => by
    obtain ⟨hz, hTI, ⟨u, v, hTO⟩, ⟨o1, e1, _, d1⟩, ⟨o2, e2, _, d2⟩⟩ := st
    have e' : c = z ∨ c = TI ∨ c = TO ∨ c = i1 ∨ c = i2 := by simpa using hc
    rcases e' with q | q | q | q | q
    · rw [q]; exact ⟨_, hz, fun v q => nomatch q⟩
    · rw [q]; exact ⟨_, hTI, fun v q => nomatch q⟩
    · rw [q]; exact ⟨_, hTO, fun v q => nomatch q⟩
    · rw [q]; exact ⟨o1, e1, fun v q => by rw [d1] at q; cases q⟩
    · rw [q]; exact ⟨o2, e2, fun v q => by rw [d2] at q; cases q⟩
  keep := fun i h h' st k => by
    obtain ⟨hz, hTI, ⟨u, v, hTO⟩, ⟨o1, e1, r1⟩, ⟨o2, e2, r2⟩⟩ := st
    exact ⟨k z (by simp) _ hz, k TI (by simp) _ hTI, ⟨u, v, k TO (by simp) _ hTO⟩, ⟨o1, k i1 (by simp) _ e1, r1⟩, ⟨o2, k i2 (by simp) _ e2, r2⟩⟩
  item := by
    intro X hP hw hK hc i pins s σ H E I hf st hg
    subst hP hw hK
    obtain ⟨hz, hTI, ⟨x0, y0, hTO⟩, h1, h2⟩ := st
    obtain ⟨l1, l2⟩ := hg
    have hzl : z < s.heap.objs.size := Heap.lt_size hz
    have hd : X.A.in1.handled = none := I.ok.hd hc
    refine wpAny_pyNext_zipD2_item S (Draws.text hd i1 x t) (Draws.text hd i2 y t') hz hTI hTO h1 h2 l1 l2 fun x1 x2 h' tk y1 y2 b1 b2 d1 d2 b5 b6 hk => ?_
    refine ⟨_, rfl, wpAny_letOwnedTupleGo_zip (s := { s with heap := h', toks := tk }) b1 fun h'' z'' sb => ?_⟩
    obtain ⟨c, u1, hcx, rfl⟩ := y1
    obtain ⟨d, u2, hdx, rfl⟩ := y2
    have hT2 : h''.get? s.heap.objs.size = some { cls := .type "tuple", data := .seq #[.str ⟨#[c]⟩ u1, .str ⟨#[d]⟩ u2] } := (sb.2 _ (Nat.ne_of_gt hzl)).trans b5
    have new : ObjOk X.prog X.w (upd H s.heap.objs.size (.tup [.str ⟨#[c]⟩, .str ⟨#[d]⟩])) h'' s.heap.objs.size (.tup [.str ⟨#[c]⟩, .str ⟨#[d]⟩]) :=
      ⟨by show 2 ≤ sizeLine; decide, [.str ⟨#[c]⟩ u1, .str ⟨#[d]⟩ u2], .cons ⟨_, rfl⟩ (.cons ⟨_, rfl⟩ .nil), ⟨_, hT2, rfl, _, rfl⟩⟩
    have I1 : Inv X pins σ (upd H s.heap.objs.size (.tup [.str ⟨#[c]⟩, .str ⟨#[d]⟩])) { s with heap := h'', toks := tk } :=
      I.turnedNew (t' := tk) (ch := [z, TI, TO, i1, i2]) (fun c o hb q => (sb.2 c (fun q' => hb (by simp [q']))).trans (hk c o (fun q' => hb (by simp [q'])) (fun q' => hb (by simp [q'])) (fun q' => hb (by simp [q'])) (fun q' => hb (by simp [q'])) q)) hf (Nat.le_refl _) new
    refine ⟨.ref s.heap.objs.size, _, I1, rfl, ⟨_, c, d, rfl, I.hok.fresh (Nat.le_refl _), rfl, hcx, hdx⟩, ⟨z'', ?_, ⟨.str ⟨#[c]⟩ u1, .str ⟨#[d]⟩ u2, ?_⟩, ?_, ?_⟩, fun c hcm => ?_⟩
    · exact (sb.2 _ S.TIz).trans (hk _ _ S.TIz S.TITO S.TIi1 S.TIi2 hTI)
    · exact (sb.2 _ S.TOz).trans b2
    · obtain ⟨o1, e1, r1⟩ := d1
      exact ⟨o1, (sb.2 _ (Ne.symm S.zi1)).trans e1, r1⟩
    · obtain ⟨o2, e2, r2⟩ := d2
      exact ⟨o2, (sb.2 _ (Ne.symm S.zi2)).trans e2, r2⟩
    · have hlt : c < s.heap.objs.size := by
        have e' : c = z ∨ c = TI ∨ c = TO ∨ c = i1 ∨ c = i2 := by simpa using hcm
        rcases e' with q | q | q | q | q
        · rw [q]; exact hzl
        · rw [q]; exact Heap.lt_size hTI
        · rw [q]; exact Heap.lt_size hTO
        · rw [q]; obtain ⟨_, e1, _⟩ := h1; exact Heap.lt_size e1
        · rw [q]; obtain ⟨_, e2, _⟩ := h2; exact Heap.lt_size e2
      rw [upd_ne (Nat.ne_of_lt hlt)]
      exact (hf c hcm).1
  done := by
    intro X hP hw hK hc i pins s σ H E I hf st hg
    subst hP hw hK
    obtain ⟨hz, hTI, ⟨x0, y0, hTO⟩, h1, h2⟩ := st
    have hd : X.A.in1.handled = none := I.ok.hd hc
    have fin : ∀ (h' : Heap) (tk : Nat), (∀ c o, c ≠ z → c ≠ TO → c ≠ i1 → c ≠ i2 → s.heap.get? c = some o → h'.get? c = some o) → (none : Option Value) = none ∧ Inv X pins σ H { s with heap := h', toks := tk } := fun h' tk hk =>
      ⟨rfl, I.turnedL (t' := tk) (ch := [z, TI, TO, i1, i2]) (fun c o hb q => hk c o (fun q' => hb (by simp [q'])) (fun q' => hb (by simp [q'])) (fun q' => hb (by simp [q'])) (fun q' => hb (by simp [q'])) q) hf⟩
    by_cases c1 : x.cps.size ≤ i
    · by_cases c2 : y.cps.size ≤ i
      · exact wpAny_pyNext_zipD2_end S (drawsEndS hd i1 x t i c1) (drawsEndS hd i2 y t' i c2) hz hTI hTO ⟨h1, rfl⟩ ⟨h2, rfl⟩ (Nat.le_refl _) (Nat.le_refl _) (.inl rfl) fin
      · exact wpAny_pyNext_zipD2_end S (drawsEndS hd i1 x t i c1) (Draws.text hd i2 y t') hz hTI hTO ⟨h1, rfl⟩ h2 (Nat.le_refl _) (by omega) (.inl rfl) fin
    · have c2 : y.cps.size ≤ i := hg.resolve_left c1
      exact wpAny_pyNext_zipD2_end S (Draws.text hd i1 x t) (drawsEndS hd i2 y t' i c2) hz hTI hTO h1 ⟨h2, rfl⟩ (by omega) (Nat.le_refl _) (.inr rfl) fin
  self := fun A i s Q E st h => wpAny_pyIter_zip st.1 h
def iZipSS (ta : TA) : TI := fun σ H R => ta σ H fun vs H1 => ∃ x y, vs = [.str x, .str y] ∧ R (ItSS x y) H1
theorem pi_zipSS {X : Cx} {e e2 : Expr} {ta : TA} {p pos tpos : Pos} {elts : List Expr} {kk : Nat} (hg : Gl X "zip") (hm : X.mg "zip" = none) (ha : PA X [e, e2] ta)
    (hs : starEach [e, e2] X.env = (false, eval e X.env) :: starEach [e2] X.env := by rfl) (hpl : (backTo pos (starEach [e2] X.env)).any (·.1) = false := by rfl) :
    PI X (.Tuple elts kk tpos) (.Call (.Name "zip" p) [e, e2] [] pos) (iZipSS ta) := by
  refine ⟨fun pins s σ H R I h => ?_⟩
  refine Call_ (ld_blt I hg hm PyProof.Rows.boot_zip (PyProof.Rows.callWith_type1 (thn (ha.run pos pins s σ H _ I h) fun us s1 ⟨vs, H1, I1, r1, q1⟩ => ?_) hs hpl))
  obtain ⟨x, y, ex, q⟩ := q1
  subst ex
  cases r1 with
  | cons r rr =>
    cases rr with
    | cons r' rr =>
      cases rr
      obtain ⟨t, rfl⟩ := r
      obtain ⟨t', rfl⟩ := r'
      refine zip_begins2 (begins_text x t) (begins_text y t') trivial trivial fun h' hz hTI hTO g1 g2 hsz hk => wpAny_pyIter_zip hz ?_
      have I2 : Inv X pins σ H1 { s1 with heap := h' } := I1.kept (t' := s1.toks) hk
      have S := zip_sep2 (N := s1.heap.objs.size) (fp1 := []) (fp2 := []) (by simp) (by simp)
      refine ⟨s1.heap.objs.size + 4, [s1.heap.objs.size + 4, s1.heap.objs.size + 2, s1.heap.objs.size + 3, s1.heap.objs.size, s1.heap.objs.size + 1], _, _, H1, rfl, I2, turn_zipSS (t := t) (t' := t') S, ⟨hz, hTI, ⟨_, _, hTO⟩, ⟨_, g1, rfl, rfl⟩, ⟨_, g2, rfl, rfl⟩⟩, fun c hcm => ?_, q⟩
      have e' : c = s1.heap.objs.size + 4 ∨ c = s1.heap.objs.size + 2 ∨ c = s1.heap.objs.size + 3 ∨ c = s1.heap.objs.size ∨ c = s1.heap.objs.size + 1 := by simpa using hcm
      have hle : s1.heap.objs.size ≤ c := by
        rcases e' with z | z | z | z | z
        · rw [z]; exact Nat.le_add_right _ _
        · rw [z]; exact Nat.le_add_right _ _
        · rw [z]; exact Nat.le_add_right _ _
        · rw [z]; exact Nat.le_refl _
        · rw [z]; exact Nat.le_add_right _ _
      exact I1.fpOk hle (I1.hok.fresh hle)
def pZipSS (t : GA) : GA := fun γ Q => t γ fun xs => match xs with
  | [.str x, .str y] => Q (zipL (chars x) (chars y))
  | _ => False
section
variable {X : Cx} {ks : List Kd} {a s a1 a2 : Bool} {tg e e1 e2 : Expr} {es elts : List Expr} {kk : Nat} {p p1 p2 : GE} {pa : GA} {pos p0 tpos : Pos}
theorem qi_zipSS (hg : Gl X "zip") (hm : X.mg "zip" = none) (h : QA X ks a s [e1, e2] pa) (hs : starEach [e1, e2] X.env = (false, eval e1 X.env) :: starEach [e2] X.env := by rfl) (hpl : (backTo pos (starEach [e2] X.env)).any (·.1) = false := by rfl) :
    QI X ks true (.Tuple elts kk tpos) (.Call (.Name "zip" p0) [e1, e2] [] pos) (pZipSS pa) :=
  PIi (pi_zipSS hg hm h hs hpl) fun σ H R ⟨E, L, γ, Qp, hK, Rl, hp, k⟩ => by
    refine ⟨E, L, γ, _, hK, Rl, hp, fun xs vs H1 q1 x1 r1 l1 => ?_⟩
    match xs, r1, l1, q1 with
    | [_, _], .cons r1 (.cons r2 .nil), l0, q1 =>
      cases r1 <;> cases r2 <;> first | exact q1.elim | skip
      rename_i x y
      have hx : (chars x).length = x.cps.size := by simp [chars]
      have hy : (chars y).length = y.cps.size := by simp [chars]
      refine ⟨x, y, rfl, k _ _ H1 q1 x1 ⟨fun _ _ => True, trivial, fun _ _ _ _ _ _ => trivial, fun i L H h hi => ?_, fun i L H h hi => ?_⟩⟩
      · rw [zipL_len, hx, hy] at hi
        refine ⟨⟨by omega, by omega⟩, fun v H' ⟨T, c, d, e1, nT, e2, e3, e4⟩ => ?_⟩
        subst e1; subst e2
        exact ⟨.new nT, _, zipL_at (chars x) (chars y) i (x := .str ⟨#[c]⟩) (y := .str ⟨#[d]⟩) (by simp [chars, e3]) (by simp [chars, e4]), Rp.newT (.cons (.str _) (.cons (.str _) .nil)) av_q nT⟩
      · rw [zipL_len, hx, hy] at hi
        show x.cps.size ≤ i ∨ y.cps.size ≤ i
        omega
    | [], _, l, _ => simp at l
    | [_], _, l, _ => simp at l
    | _ :: _ :: _ :: _, _, l, _ => simp at l
end
end Vl
namespace Vl
open PySem PySem.Spec L2 Lb
structure XP where
  c : Str
  f : Option PV
/-- the field that a class's maker sets -/
def exF (c : Str) : Str :=
  ([("Wrong", "at"), ("NoLetter", "letter"), ("NoNumber", "number"), ("NoPlace", "at"), ("TooLong", "most"), ("TooMany", "most"), ("Bare", "at"), ("NoRow", "at"), ("NoName", "name"), ("There", "name"), ("NotOne", "name"), ("NoLog", "at")] : List (Str × Str)).lookup c |>.getD ""
/-- an exception of the class cls with the dict d is this one -/
def XpIs (B : Bg) (H : Hp) (cls : Value) (d : Option Addr) (xp : XP) : Prop :=
  cls = .ref (He.ga B.K xp.c) ∧ match xp.f with
  | none => d = none
  | some x => imm x = true ∧ ∃ b u, d = some b ∧ H b = some (.xd [(exF xp.c, u)]) ∧ Rp B (fun _ => False) H x u
/-- ends, one of them for what is raised -/
structure GX extends GD where
  xc : XP → G → Prop
abbrev GSX := GX → G → Prop
abbrev GEX := G → (PV → Prop) → (XP → Prop) → Prop
abbrev GAX := G → (List PV → Prop) → (XP → Prop) → Prop
abbrev PWX := List PV → (PV → Prop) → (XP → Prop) → Prop
def XcOk (W : WX) (kx : Option (List Kd)) (E : Ac) (L : List Addr) (H : Hp) (xc : XP → G → Prop) : Prop :=
  ∀ xp cls d L' k' γ' σ' H', (∀ k, kx = some k → k' = k) → Fw E.B L H L' H' → Rel E L' k' γ' σ' H' → XpIs E.B H' cls d xp → (∀ b, d = some b → b ∉ L' ∧ E.H0 b = none) → xc xp γ' → W cls d σ' H'
theorem XcOk.fw {W : WX} {kx : Option (List Kd)} {E : Ac} {L L' : List Addr} {H H' : Hp} {xc : XP → G → Prop} (h : XcOk W kx E L H xc) (f : Fw E.B L H L' H') : XcOk W kx E L' H' xc :=
  fun xp cls d L2 k' γ' σ' H2 hk f2 R x n q => h xp cls d L2 k' γ' σ' H2 hk (f.trans f2) R x n q
def tX (K : Fg) (W : WX) (kx : Option (List Kd)) (ks ks' kl : List Kd) (p : GSX) : TS := fun D σ H => ∃ (E : Ac) (L : List Addr) (γ : G) (Dp : GX), E.B.K = K ∧ Rel E L ks γ σ H ∧ p Dp γ ∧
  (∀ L' γ' σ' H', Fw E.B L H L' H' → Rel E L' ks' γ' σ' H' → Dp.nx γ' → D.nx σ' H') ∧ (∀ x γ' v H', RtOk E x v H' → Dp.rt x γ' → D.rt v H') ∧
  (∀ L' γ' σ' H', Fw E.B L H L' H' → Rel E L' kl γ' σ' H' → Dp.bk γ' → D.bk σ' H') ∧ (∀ L' γ' σ' H', Fw E.B L H L' H' → Rel E L' kl γ' σ' H' → Dp.ct γ' → D.ct σ' H') ∧ XcOk W kx E L H Dp.xc
def tEX (K : Fg) (W : WX) (ks : List Kd) (a s : Bool) (p : GEX) : TE := fun σ H Q => ∃ (E : Ac) (L : List Addr) (γ : G) (Qp : PV → Prop) (Xp : XP → Prop), E.B.K = K ∧ Rel E L ks γ σ H ∧ p γ Qp Xp ∧
  (∀ x v H', Qp x → Ex E.B H H' → Rp E.B (av E L a s) H' x v → Q v H') ∧ (∀ xp cls d H', Xp xp → Ex E.B H H' → XpIs E.B H' cls d xp → (∀ b, d = some b → H b = none) → W cls d σ H')
def tAX (K : Fg) (W : WX) (ks : List Kd) (a s : Bool) (n : Nat) (p : GAX) : TA := fun σ H Q => ∃ (E : Ac) (L : List Addr) (γ : G) (Qp : List PV → Prop) (Xp : XP → Prop), E.B.K = K ∧ Rel E L ks γ σ H ∧ p γ Qp Xp ∧
  (∀ x v H', Qp x → Ex E.B H H' → RpL E.B (av E L a s) H' x v → x.length = n → Q v H') ∧ (∀ xp cls d H', Xp xp → Ex E.B H H' → XpIs E.B H' cls d xp → (∀ b, d = some b → H b = none) → W cls d σ H')
abbrev QSX (X : Cx) (W : WX) (kx : Option (List Kd)) (ks ks' kl : List Kd) (st : Stmt) (p : GSX) : Prop := PS X st (tX X.K W kx ks ks' kl p)
abbrev QBX (X : Cx) (W : WX) (kx : Option (List Kd)) (ks ks' kl : List Kd) (sts : List Stmt) (p : GSX) : Prop := PSs X sts (tX X.K W kx ks ks' kl p)
abbrev QEX (X : Cx) (W : WX) (ks : List Kd) (a s : Bool) (e : Expr) (p : GEX) : Prop := PE X e (tEX X.K W ks a s p)
abbrev QAX (X : Cx) (W : WX) (ks : List Kd) (a s : Bool) (es : List Expr) (p : GAX) : Prop := PA X es (tAX X.K W ks a s es.length p)
def oX (p : GS) : GSX := fun D γ => p D.toGD γ
def sNext : GSX := fun D γ => D.nx γ
def sSeq (p q : GSX) : GSX := fun D γ => p { D with nx := q D } γ
def sIf (t : GT) (p q : GSX) : GSX := fun D γ => t γ fun b => bfi b (p D γ) (q D γ)
def sRet (p : GEX) : GSX := fun D γ => p γ (fun x => D.rt x γ) fun xp => D.xc xp γ
def sRaise (c : Str) (e : GE) : GSX := fun D γ => e γ fun x => imm x = true ∧ D.xc ⟨c, some x⟩ γ
def sRaise0 (c : Str) : GSX := fun D γ => D.xc ⟨c, none⟩ γ
def eX (p : GE) : GEX := fun γ Q _ => p γ Q
def aXNil : GAX := fun _ Q _ => Q []
def aXCons (a : GEX) (t : GAX) : GAX := fun γ Q E => a γ (fun x => t γ (fun xs => Q (x :: xs)) E) E
def eXTup (t : GAX) : GEX := fun γ Q E => t γ (fun xs => Q (.tup xs)) E
def eXCall (w : PWX) (ds : List PV) (t : GA) : GEX := fun γ Q E => t γ fun xs => w (xs ++ ds) Q E
section
variable {X : Cx} {W : WX} {kx : Option (List Kd)} {ks ks' ks1 kl : List Kd} {a s a1 s1 a2 s2 : Bool} {e e1 e2 tg : Expr} {es : List Expr} {st : Stmt} {sts sts' : List Stmt} {p : GE} {px : GEX} {pa : GA} {pax : GAX} {pt : GT} {q : GS} {ps qs : GSX} {pos : Pos}
theorem qx_of (h : QS X ks ks' kl st q) : QSX X W kx ks ks' kl st (oX q) :=
  PSi h fun D σ H ⟨E, L, γ, Dp, hK, R, hp, nx, rt, bk, ct, xc⟩ => ⟨E, L, γ, Dp.toGD, hK, R, hp, nx, rt, bk, ct⟩
theorem qbx_nil : QBX X W kx ks ks kl [] sNext := PSsi pss_nil fun D σ H ⟨E, L, γ, Dp, hK, R, hp, nx, rt, bk, ct, xc⟩ => nx L γ σ H (.refl _ _ _) R hp
theorem qbx_one (h : QSX X W kx ks ks' kl st ps) : QBX X W kx ks ks' kl [st] ps := pss_one h
theorem qbx_cons (h1 : QSX X W kx ks ks1 kl st ps) (h2 : QBX X W kx ks1 ks' kl sts qs) : QBX X W kx ks ks' kl (st :: sts) (sSeq ps qs) :=
  PSsi (pss_cons h1 h2) fun D σ H ⟨E, L, γ, Dp, hK, R, hp, nx, rt, bk, ct, xc⟩ =>
    ⟨E, L, γ, { Dp with nx := qs Dp }, hK, R, hp, fun L1 γ1 σ1 H1 f1 R1 q1 => ⟨E, L1, γ1, Dp, hK, R1, q1, fun L2 γ2 σ2 H2 f2 R2 q2 => nx L2 γ2 σ2 H2 (f1.trans f2) R2 q2, rt, fun L2 γ2 σ2 H2 f2 R2 q2 => bk L2 γ2 σ2 H2 (f1.trans f2) R2 q2, fun L2 γ2 σ2 H2 f2 R2 q2 => ct L2 γ2 σ2 H2 (f1.trans f2) R2 q2, xc.fw f1⟩, rt, bk, ct, xc⟩
theorem qsx_if (ht : QT X ks e pt) (h1 : QBX X W kx ks ks' kl sts ps) (h2 : QBX X W kx ks ks' kl sts' qs) : QSX X W kx ks ks' kl (.If e sts sts' pos) (sIf pt ps qs) :=
  PSi (ps_if ht h1 h2) fun D σ H ⟨E, L, γ, Dp, hK, R, hp, nx, rt, bk, ct, xc⟩ => by
    refine ⟨E, L, γ, _, hK, R, hp, fun b H1 q1 x1 => ?_⟩
    have f : ∀ {L' H'}, Fw E.B L H1 L' H' → Fw E.B L H L' H' := fun f => Fw.trans x1.fw f
    cases b with
    | true => show if true = true then _ else _; rw [if_pos rfl]; exact ⟨E, L, γ, Dp, hK, R.ex x1, q1, fun L2 γ2 σ2 H2 f2 R2 q2 => nx L2 γ2 σ2 H2 (f f2) R2 q2, rt, fun L2 γ2 σ2 H2 f2 R2 q2 => bk L2 γ2 σ2 H2 (f f2) R2 q2, fun L2 γ2 σ2 H2 f2 R2 q2 => ct L2 γ2 σ2 H2 (f f2) R2 q2, xc.fw x1.fw⟩
    | false => exact ⟨E, L, γ, Dp, hK, R.ex x1, q1, fun L2 γ2 σ2 H2 f2 R2 q2 => nx L2 γ2 σ2 H2 (f f2) R2 q2, rt, fun L2 γ2 σ2 H2 f2 R2 q2 => bk L2 γ2 σ2 H2 (f f2) R2 q2, fun L2 γ2 σ2 H2 f2 R2 q2 => ct L2 γ2 σ2 H2 (f f2) R2 q2, xc.fw x1.fw⟩
/-- what an expression raises is raised here -/
theorem XcOk.at {E : Ac} {L : List Addr} {γ : G} {σ : L2.St} {H : Hp} {xc : XP → G → Prop} (xc' : XcOk W kx E L H xc) (R : Rel E L ks γ σ H) (hk : ∀ k, kx = some k → ks = k) : ∀ xp cls d H', xc xp γ → Ex E.B H H' → XpIs E.B H' cls d xp → (∀ b, d = some b → H b = none) → W cls d σ H' :=
  fun xp cls d H' q x i n => xc' xp cls d L ks γ σ H' hk x.fw (R.ex x) i (fun b e => ⟨fun m => (R.lf b m).2 (n b e), by
    cases h : E.H0 b with
    | none => rfl
    | some o => exact absurd (n b e) (R.onn b (by rw [h]; exact nofun))⟩) q
theorem qsx_ret (h : QEX X W ks true s e px) (hk : ∀ k, kx = some k → ks = k) : QSX X W kx ks ks' kl (.Return (some e) pos) (sRet px) :=
  PSi (ps_ret h) fun D σ H ⟨E, L, γ, Dp, hK, R, hp, nx, rt, bk, ct, xc⟩ => ⟨E, L, γ, _, _, hK, R, hp, fun x v H1 q1 x1 r1 =>
    rt x γ v H1 ⟨r1.anti fun c z => .inr (.inl ⟨rfl, z⟩), (R.ex x1).old, (R.ex x1).onn, (R.ex x1).bag⟩ q1, xc.at R hk⟩
theorem qex_of (h : QE X ks a s e p) : QEX X W ks a s e (eX p) :=
  PEi h fun σ H Q ⟨E, L, γ, Qp, Xp, hK, R, hp, k, kx⟩ => ⟨E, L, γ, Qp, hK, R, hp, k⟩
theorem qax_nil : QAX X W ks true true [] aXNil :=
  ⟨fun pos pins s σ H Q I ⟨E, L, γ, Qp, Xp, hK, R, hp, k, kx⟩ => pa_nil.run pos pins s σ H Q I (k [] [] H hp (.refl _ _) .nil rfl)⟩
theorem qax_cons (h : QEX X W ks a1 s1 e px) (t : QAX X W ks a2 s2 es pax) (he : starEach (e :: es) X.env = (false, eval e X.env) :: starEach es X.env := by rfl) (ha : a = (a1 && a2) := by rfl) (hb : s = (s1 && s2) := by rfl) : QAX X W ks a s (e :: es) (aXCons px pax) := by
  subst ha hb
  refine PAi (pa_cons h t he) fun σ H Q ⟨E, L, γ, Qp, Xp, hK, R, hp, k, kx⟩ => ?_
  refine ⟨E, L, γ, _, _, hK, R, hp, fun x v H1 q1 x1 r1 => ⟨E, L, γ, _, _, hK, R.ex x1, q1, fun xs vs H2 q2 x2 r2 l2 => ?_, fun xp cls d H2 q2 x2 i n => kx xp cls d H2 q2 (x1.trans x2) i fun b e => x1.free (n b e)⟩, kx⟩
  exact k _ _ H2 q2 (x1.trans x2) (.cons ((r1.ex x2 av_q).anti fun c z => av_mono and_l and_l z) (r2.anti fun c z => av_mono and_r and_r z)) (by simp [l2])
theorem qex_tup {x1} (h : QAX X W ks a s es pax) (hn : es.length ≤ 1000 := by decide) : QEX X W ks a s (.Tuple es x1 pos) (eXTup pax) :=
  PEi (pe_tup h) fun σ H Q ⟨E, L, γ, Qp, Xp, hK, R, hp, k, kx⟩ => by
    refine ⟨E, L, γ, _, _, hK, R, hp, fun xs vs H1 q1 x1 r1 l1 => ?_, kx⟩
    refine ⟨by rw [← r1.length, l1]; exact few hn, fun p np => k _ _ _ q1 (x1.trans (.new np)) (Rp.newT r1 av_q np)⟩
end
end Vl
namespace Vl
open PySem PySem.Spec L2 Lb
def spFX (n : Nat) (w : PWX) (K : Fg) : Sp := fun vs H Q E => ∃ (q r : Addr) (xs : List PV) (Qp : PV → Prop) (Xp : XP → Prop), vs.length = n ∧ BagOk ⟨K, q, r⟩ H ∧ RpL ⟨K, q, r⟩ (fun a => a = q) H xs vs ∧ w xs Qp Xp ∧
  (∀ x v H', Qp x → Ex ⟨K, q, r⟩ H H' → Rp ⟨K, q, r⟩ (fun a => H a ≠ none) H' x v → Q v H') ∧ (∀ xp cls d H', Xp xp → Ex ⟨K, q, r⟩ H H' → XpIs ⟨K, q, r⟩ H' cls d xp → (∀ b, d = some b → H b = none) → E cls d H')
def wFX (N : Nat) (p : GSX) : PWX := fun xs Q E => p ⟨⟨fun _ => Q .non, fun x _ => Q x, fun _ => False, fun _ => False⟩, fun xp _ => E xp⟩ (startG N xs)
def xFX (N : Nat) (p : GSX) : PWX := fun xs Q E => startS xs N fun γ => p ⟨⟨fun _ => Q .non, fun x _ => Q x, fun _ => False, fun _ => False⟩, fun xp _ => E xp⟩ γ
theorem xFX_eq (N : Nat) (p : GSX) : xFX N p = wFX N p := by funext xs Q E; rw [xFX, startS_eq]; rfl
theorem len_FX {n : Nat} {w : PWX} {K : Fg} {vs : List V} {H : Hp} {Q : VK} {E : XK} (h : spFX n w K vs H Q E) : vs.length = n := by obtain ⟨_, _, _, _, _, h, _⟩ := h; exact h
theorem body_FX {X : Cx} {N : List Str} {ks ks' kl : List Kd} {sts : List Stmt} {p : GSX} {n : Nat} {vs : List V} {H : Hp} {Q : VK} {E : XK} (h : QBX X (fun cls d _ H => E cls d H) none ks ks' kl sts p) (hk : (ks.take n).all (fun x => decide (x = Kd.bor)) = true) (hn : n ≤ ks.length) (hs : spFX n (wFX N.length p) X.K vs H Q E) : ∃ t, PSs X sts t ∧ t { nx := fun _ H' => Q .non H', rt := Q } (start N vs) H := by
  obtain ⟨q, r, xs, Qp, Xp, hl, bg, rx, w, k, kx⟩ := hs
  refine ⟨_, h, ⟨⟨X.K, q, r⟩, fun a => H a ≠ none, H, 0⟩, [], startG N.length xs, _, rfl, rel_startF bg rx (fun i hi => ksh hk hn i (by rw [rx.length, hl] at hi; exact hi)) 0, w, ?_, ?_, fun _ _ _ _ _ _ z => z.elim, fun _ _ _ _ _ _ z => z.elim, ?_⟩
  · intro L' γ' σ' H' _ R q1
    exact k .non .non H' q1 (ex_of bg R.old R.onn R.bag) .non
  · intro x γ' v H' ⟨r1, r2, r3, r4⟩ q1
    exact k x v H' q1 (ex_of bg r2 r3 r4) r1
  · intro xp cls d L' k' γ' σ' H' _ _ R i n q1
    exact kx xp cls d H' q1 (ex_of bg R.old R.onn R.bag) i fun b e => (n b e).2
/-- own defs as callers meet them -/
def CalX (P : Program) (w : World) (K : Fg) (mg : Str → Option Value) (base : Heap) (x : Str) (k : Nat) (ps : List Str) (sp : Sp) (dvs : List V) : Prop :=
  ∃ fd ds, FnOk P w K mg base (L2.CX P w) k (He.ga K x) fd ps sp ∧ Binds K fd ps ds ∧ Vals dvs ds ∧ mg x = some (.ref (He.ga K x)) ∧ PySem.W.keepIn K (.ref (He.ga K x)) = true
section
variable {X : Cx} {W : WX} {ks : List Kd} {a s a1 s1 a2 s2 : Bool} {e o : Expr} {es : List Expr} {kws : List Keyword} {p : GE} {pa pk : GA} {pos : Pos} {n c m k : Nat} {w : PWX} {ds : List PV} {dvs : List V} {x : Str} {f : Str}
theorem call_FX {E : Ac} {L : List Addr} {γ : G} {σ : L2.St} {H : Hp} {Q : VK} {Qp : PV → Prop} {Xp : XP → Prop} {xs : List PV} {vs : List V} (hK : E.B.K = X.K) (R : Rel E L ks γ σ H) (r : RpL E.B (av E L a s) H xs vs) (hl : vs.length = n) (hw : w xs Qp Xp)
    (k : ∀ z t H', Qp z → Ex E.B H H' → Rp E.B (av E L true true) H' z t → Q t H') (kx : ∀ xp cls d H', Xp xp → Ex E.B H H' → XpIs E.B H' cls d xp → (∀ b, d = some b → H b = none) → W cls d σ H') : spFX n w X.K vs H Q (WE W σ) := by
  obtain ⟨⟨K, q, r0⟩, A0, H0, me⟩ := E
  cases hK
  exact ⟨q, r0, xs, Qp, Xp, hl, R.bag, r.q, hw, fun z t H' qz x rz => k z t H' qz x (rz.anti fun b z => av_nn R z), kx⟩
theorem qex_callF (pe : ∀ {t : TA}, PA X es t → PE X e (tCallSD (spFX n w X.K) dvs (WE W) t)) (hd : Dfl X.K ds dvs) (h : QA X ks a s es pa) (hn : es.length + dvs.length = n := by rfl) : QEX X W ks true true e (eXCall w ds pa) :=
  PEi (pe h) fun σ H Q ⟨E, L, γ, Qp, Xp, hK, R, hp, k, kx⟩ => by
    refine ⟨E, L, γ, _, hK, R, hp, fun xs vs H1 q1 x1 r1 l1 => ?_⟩
    exact call_FX hK (R.ex x1) (r1.append (hd.b hK _ _)) (by rw [List.length_append, ← r1.length, l1]; exact hn) q1 (fun z t H' qz x2 rz => k z t H' qz (x1.trans x2) rz) fun xp cls d H' qx x2 i n => kx xp cls d H' qx (x1.trans x2) i fun b e => x1.free (n b e)
theorem qex_calF {ps' : List Str} (cc : CalX X.prog X.w X.K X.mg X.base x k ps' (spFX n w X.K) dvs) (tk : Takes X W) (hd : Dfl X.K ds dvs) (hr : Room k X.A) (hg : Gl X x) {p0 : Pos} (h : QA X ks a s (e :: es) pa) (hn : (e :: es).length + dvs.length = n := by rfl) (hdb : (x == ("__debug__" : Str)) = false := by decide)
    (he : starEach (e :: es) X.env = (false, eval e X.env) :: starEach es X.env := by rfl) (hpl : (backTo pos (starEach es X.env)).any (·.1) = false := by rfl) : QEX X W ks true true (.Call (.Name x p0) (e :: es) [] pos) (eXCall w ds pa) := by
  obtain ⟨fd, d2, F, b, v, g, kp⟩ := cc
  exact qex_callF (fun t => pe_callSD F hr hg g kp b v (fun σ => passAt tk σ) t hdb he hpl) hd h hn
end
end Vl
namespace Vl
open PySem PySem.Spec L2 Lb PyProof.Rows
/-- LayError's __init__ is ValueError's own -/
structure LayC (K : Fg) (L : Addr) : Prop where
  ga : PySem.W.specialIn K (.ref L) "__getattribute__" = some (some (.builtin "type.__getattribute__"))
  ty : PySem.W.typeIn K (.ref L) = some (.type "type")
  rd : PySem.W.readsIn K L (.type "type") = true
  ini : PySem.W.findCls K (.ref L) (.type "type") "__init__" = some (.val (.builtin "ValueError.__init__"))
section
variable {X : Cx} {e : Expr} {es : List Expr} {ta : TA} {p1 p2 pos : Pos} {x : Str} {L : Addr}
theorem pe_layinit {pl : Sem Bool} (c : LayC X.K L) (hg : Gl X x) (hm : X.mg x = some (.ref L)) (ha : PA X (e :: es) ta)
    (hdb : (x == ("__debug__" : Str)) = false := by decide)
    (hc : eval (.Call (.Attribute (.Name x p1) "__init__" p2) (e :: es) [] pos) X.env = (do
      let ov ← eval (.Name x p1) X.env
      standAt p2.atName
      let (f, first) ← holding [ov] (getMethod ov "__init__" pl)
      callWith pos f first (backTo pos (starEach (e :: es) X.env)) (backToKw pos (keywordEach [] X.env))) := by rfl)
    (he : starEach (e :: es) X.env = (false, eval e X.env) :: starEach es X.env := by rfl) (hpl : (backTo pos (starEach es X.env)).any (·.1) = false := by rfl) :
    PE X (.Call (.Attribute (.Name x p1) "__init__" p2) (e :: es) [] pos) (tVeI X.K ta) := by
  constructor
  intro pins s σ H Q I h
  apply PySem.W.methodCall_KW _ hc
  apply ld_glob I hg hm _ hdb
  obtain ⟨m, fr⟩ := I.fr
  apply PySem.W.method_of_cls fr I.ok.mod.kin c.ga
  apply PySem.W.cls_val fr I.ok.mod.kin c.ty c.rd c.ini (by decide)
  apply PyProof.Rows.callWith_method1 _ he hpl
  refine thn (ha.run pos pins _ σ H _ (I.tok _) h) ?_
  rintro us s1 ⟨vs, H1, I1, r1, a, C, ws, rfl, hl, T, ea, q⟩
  obtain _ | ⟨ra, rw'⟩ := r1
  rename_i u0 ur
  cases (ra : u0 = Value.ref a)
  exact oinit_ok T I1 ea (by rw [← Paired.length rw', sizeLine_eq]; omega) fun s' J => ⟨.non, H1, J, rfl, q⟩
end
/-- an own exception's __init__, which keeps what it was made of -/
def spE (c : Str) (K : Fg) : Sp := fun vs H Q _ => ∃ (a : Addr) (y : V), vs = [.ref a, y] ∧ H a = some (exo a (He.ga K c) none) ∧ ∀ d, H d = none → d ≠ a → Q .non (upd (upd H d (exd d [(exF c, y)])) a (exo a (He.ga K c) (some d)))
/-- what a class must say to be raised -/
structure RaiC (K : Fg) (c : Str) : Prop where
  o : OexC K (He.ga K c)
  ini : PySem.W.findIn K (.ref (He.ga K c)) "__init__" = some (some (.ref (He.ma K (He.ga K c) "__init__")))
  fn : PySem.W.typeIn K (.ref (He.ma K (He.ga K c) "__init__")) = some (.type "function")
  no : PySem.W.findIn K (.ref (He.ga K c)) (exF c) = some none
section
variable {X : Cx} {N : List Str} {c : Str} {vs : List V} {H : Hp} {Q : VK} {E : XK} {sts : List Stmt} {m : Str}
theorem body_E (T : RaiC X.K c) (h : PSs X sts (tSeq (tDrop (tVeI X.K (tCons (tVar 0) (tCons (tC (.str m)) tNil)))) (tOst X.K (exF c) (tVar 0) (tVar 1)))) (hs : spE c X.K vs H Q E) : ∃ t, PSs X sts t ∧ t { nx := fun _ H' => Q .non H', rt := Q } (start N vs) H := by
  obtain ⟨a, y, rfl, ha, k⟩ := hs
  have s0 : (start N [V.ref a, y])[0]? = some (some (.ref a)) := start_at rfl
  have s1 : (start N [V.ref a, y])[1]? = some (some y) := start_at rfl
  refine ⟨_, h, .ref a, s0, a, He.ga X.K c, [.str m], rfl, by simp, T.o, ha, y, s1, .ref a, s0, a, He.ga X.K c, rfl, T.o, T.no, .inl ⟨ha, fun d hd hn => ?_⟩⟩
  exact k d hd hn
end
theorem len_E {c : Str} {K : Fg} {vs : List V} {H : Hp} {Q : VK} {E : XK} (h : spE c K vs H Q E) : vs.length = 2 := by obtain ⟨_, _, rfl, _⟩ := h; rfl
/-- a class that is raised, as its raisers meet it -/
def CalE (P : Program) (w : World) (K : Fg) (mg : Str → Option Value) (base : Heap) (c : Str) (k : Nat) (ps : List Str) : Prop :=
  ∃ fd, FnOk P w K mg base CX0 k (He.ma K (He.ga K c) "__init__") fd ps (spE c K) ∧ Binds K fd ps [] ∧ RaiC K c ∧ mg c = some (.ref (He.ga K c))
section
variable {X : Cx} {W : WX} {kx : Option (List Kd)} {ks ks' kl : List Kd} {a s : Bool} {e : Expr} {p : GE} {k : Nat} {c : Str} {ps : List Str} {pos p1 pos1 : Pos}
theorem made_at {H1 H : Hp} {a d : Addr} {o1 o2 o3 o4 : HO} (na : H1 a = none) (nd : H1 d = none) (da : d ≠ a) : ∀ b, H1 b ≠ none → upd (del (upd (upd (upd H1 a o1) d o2) a o3) a) d o4 b = H1 b := fun b n => by
  have h1 : b ≠ a := fun z => n (by rw [z]; exact na)
  have h2 : b ≠ d := fun z => n (by rw [z]; exact nd)
  rw [upd_ne h2, del_ne h1, upd_ne h1, upd_ne h2, upd_ne h1]
theorem Ex.same {B : Bg} {H H' : Hp} (h : ∀ b, H b ≠ none → H' b = H b) : Ex B H H' := by
  have g : ∀ b o, H b = some o → H' b = some o := fun b o e => by rw [h b (by rw [e]; exact nofun)]; exact e
  exact ⟨fun b o e _ => g b o e, fun b v e => g b _ e, fun b n => by rw [h b n]; exact n, fun q => q.stay (fun o e => g _ o e) fun o e => g _ o e⟩
theorem qsx_raise (M : CalE X.prog X.w X.K X.mg X.base c k ps) (hcalm : X.calm = true) (tk : Takes X W) (hr : Room (k + 1) X.A) (hg : Gl X c) (h : QE X ks a s e p) (hk : ∀ k, kx = some k → ks = k) (hdb : (c == ("__debug__" : Str)) = false := by decide)
    (he : starEach [e] X.env = (false, eval e X.env) :: starEach [] X.env := by rfl) : QSX X W kx ks ks' kl (.Raise (some (.Call (.Name c p1) [e] [] pos1)) none pos) (sRaise c p) := by
  obtain ⟨fd, F, b, T, gm⟩ := M
  refine PSi (ps_raise hcalm tk (pmk_oex T.o T.ini T.fn F hr b .nil pass0 hg gm (pa_cons h pa_nil he) hdb he)) ?_
  rintro D σ H ⟨E, L, γ, Dp, hK, R, hp, nx, rt, bk, ct, xc⟩
  refine ⟨E, L, γ, _, hK, R, hp, fun x v H1 q1 x1 r1 => ⟨by simp, fun a na => ?_⟩⟩
  obtain ⟨im, q1⟩ := q1
  refine ⟨a, v, rfl, upd_same, fun d hd hda => ⟨rfl, d, [(exF c, v)], upd_same, ?_, ?_, ?_⟩⟩
  · rw [upd_ne hda]; exact upd_same
  · rw [upd_ne hda] at hd; exact hd
  · have nd : H1 d = none := by rw [upd_ne hda] at hd; exact hd
    have x2 := Ex.same (B := E.B) (made_at (H := H1) (o1 := exo a (He.ga X.K c) none) (o2 := exd d [(exF c, v)]) (o3 := exo a (He.ga X.K c) (some d)) (o4 := .xd [(exF c, v)]) na nd hda)
    refine (xc.fw x1.fw).at (R.ex x1) hk ⟨c, some x⟩ _ _ _ q1 x2 ⟨by rw [hK], im, d, v, rfl, upd_same, (r1.ex x2 av_q).im im⟩ fun b e => ?_
    cases e
    exact nd
end
end Vl
namespace Vl
open PySem PySem.Spec L2 Lb PyProof.Rows
def hD (D : GD) : GD := { nx := fun _ => False, rt := D.rt, bk := fun _ => False, ct := fun _ => False }
/-- cs: the classes that may come; the name's slot holds what the exception keeps -/
def pTry (i : Nat) (cs : List Str) (pb : GSX) (ph : Str → GS) : GS := fun D γ => pb { toGD := D, xc := fun xp γ' => xp.c ∈ cs ∧ setS γ' i (some (xp.f.getD .bag)) fun γ1 => ph xp.c (hD D) γ1 } γ
section
variable {X : Cx} {ks ks' ks2 kl : List Kd} {x n cn : Str} {i : Nat} {body suite : List Stmt} {b0 : Stmt} {np pos pos' : Pos} {pb : GSX} {ph : Str → GS} {cs : List Str}
theorem qs_try (i : Nat) (cs : List Str) (cn : Str) (hs : X.stack = X.env :: X.outer) (hf : X.env.frame = some X.env.locals) (hN : X.N.Nodup) (hi : X.N[i]? = some n) (hln : X.env.kindOf n = some .local) (hc : X.mg cn = some (.ref (He.ga X.K cn))) (hg : Gl X cn)
    (hx : ∀ c, c ∈ cs → PySem.W.exmOne X.K (.ref (He.ga X.K c)) (.ref (He.ga X.K cn)) = some true)
    (hb : ∀ (W : WX) (pn : List (Addr × Obj)) (xe : Value → Shared → Prop), Takes (X.tr pn xe) W → PassesOwn (model X.prog X.w) X.A X.env xe → QBX (X.tr pn xe) W (some ks) ks ks' kl body pb)
    (hh : ∀ (c : Str) (a : Addr) (oe : Obj) (d : Option Addr) (pn : List (Addr × Obj)), c ∈ cs → Zc (.ref (He.ga X.K c)) d oe → (∃ vs, oe.data = .fields vs) → QB (X.suite a ((a, oe) :: pn)) (ks.set i (.exc a d (exF c))) (ks.set i (.exc a d (exF c))) kl (b0 :: suite) (ph c))
    (hik : i < ks.length := by decide) (hdb : (cn == ("__debug__" : Str)) = false := by decide) :
    QS X ks ks' kl (.Try body [.ExceptHandler (some (.Name cn np)) (some n) (b0 :: suite) pos'] [] [] pos) (pTry i cs pb ph) := by
  refine PSi (ps_try_as (Wout := fun _ _ _ _ => False) (c := .ref (He.ga X.K cn)) (tb := fun W => tX X.K W (some ks) ks ks' kl pb)
    (ts := fun a cls d D σ H => ∃ c, c ∈ cs ∧ cls = .ref (He.ga X.K c) ∧ tS X.K (ks.set i (.exc a d (exF c))) (ks.set i (.exc a d (exF c))) kl (ph c) D σ H)
    hs hf hN hi hln ⟨hg, hdb, .inl hc⟩ (fun u s' h => ?_) hb (fun a oe cls d pn hz hv => ?_)) ?_
  · obtain ⟨_, _, _, _, _, _, _, _, _, _, _, _, _, _, _, _, z⟩ := h
    exact z.elim
  · refine ⟨fun pins s σ H D I h => ?_⟩
    obtain ⟨c, hcs, rfl, h⟩ := h
    exact (hh c a oe d pn hcs hz hv).run pins s σ H D I h
  · rintro D σ H ⟨E, L, γ, Dp, hK, R, hp, nx, rt, bk, ct⟩
    refine ⟨E, L, γ, _, hK, R, hp, nx, rt, bk, ct, ?_⟩
    intro xp cls d L' k' γ' σ' H' hk f R' hi n hq
    obtain ⟨hcs, q⟩ := hq
    cases hk ks rfl
    obtain ⟨rfl, hf⟩ := hi
    rw [setS_eq] at q
    rw [hK]
    refine ⟨true, hx _ hcs, fun _ a na => ⟨xp.c, hcs, rfl, E, L', γ'.set i (some (xp.f.getD .bag)), hD Dp, hK, R'.set ⟨rfl, rfl, fun e => ?_, fun b eb => ?_⟩ hik, q, fun _ _ _ _ _ _ z => z.elim, rt, fun _ _ _ _ _ _ z => z.elim, fun _ _ _ _ _ _ z => z.elim⟩, nofun⟩
    · cases h : xp.f with
      | none => rfl
      | some y =>
        rw [h] at hf
        obtain ⟨_, b1, _, e1, _⟩ := hf
        rw [e1] at e
        cases e
    obtain ⟨n1, n2⟩ := n b eb
    cases h : xp.f with
    | none => rw [h] at hf; rw [hf] at eb; cases eb
    | some y =>
      rw [h] at hf
      obtain ⟨im, b1, u, e1, e2, ry⟩ := hf
      rw [e1] at eb
      cases eb
      refine ⟨fun z => ?_, u, e2, ry.im im⟩
      rcases z with z | ⟨_, z⟩ | ⟨_, z⟩
      · obtain ⟨_, _, _, _, hq, _⟩ := R'.bag
        rw [← z, e2] at hq
        cases hq
      · exact R'.a0 b z n2
      · exact n1 z
end
structure HanC (K : Fg) (c : Str) : Prop where
  e : ExcC K (He.ga K c)
  f : XfC K (He.ga K c)
  no : PySem.W.findIn K (.ref (He.ga K c)) (exF c) = some none
/-- isinstance(e, ..): a class, as the suite knows the exception's -/
def rIsX (a : Addr) (d : Option Addr) (u : V) (b : Bool) : List V → Hp → VK → Prop := fun xs H Q => xs = [.ref a, u] ∧ (∀ q, d = some q → ∃ ws, H q = some (.xd ws)) ∧ Q (.bl b) H
section
variable {X : Cx} {ks : List Kd} {a : Addr} {oe : Obj} {d : Option Addr} {pn : List (Addr × Obj)} {c f : Str} {i : Nat} {e1 e2 : Expr} {pos p0 : Pos}
theorem inst_at {σ : L2.St} {H : Hp} {s : Shared} {pins : List (Addr × Obj)} {C : Addr} (I : Inv (X.suite a ((a, oe) :: pn)) pins σ H s) (hz : Zc (.ref C) d oe) (hv : ∃ vs, oe.data = .fields vs) (hd : ∀ q, d = some q → ∃ ws, H q = some (.xd ws)) : ∃ od, PySem.W.InstAt s.heap a oe C od := by
  obtain ⟨g, _⟩ := I.pin (a, oe) (List.mem_append_left _ List.mem_cons_self)
  obtain ⟨vs, hv⟩ := hv
  have nc : PySem.W.notCls oe = true := by unfold PySem.W.notCls; rw [hv]
  cases d with
  | none => exact ⟨none, g, hz.1, nc, by rw [hz.2]; trivial⟩
  | some q =>
    obtain ⟨ws, hq⟩ := hd q rfl
    have ok : ObjOk X.prog X.w H s.heap q (.xd ws) := I.hok q _ hq
    obtain ⟨mA, hns, _⟩ := ok
    obtain ⟨od, ho, _⟩ := lookIn_ns hns
    exact ⟨some od, g, hz.1, nc, by rw [hz.2]; exact ho⟩
theorem call_isX {u : V} {cv : Value} {b : Bool} (T : HanC X.K c) (hz : Zc (.ref (He.ga X.K c)) d oe) (hv : ∃ vs, oe.data = .fields vs) (hu : ∀ w, RelV u w → w = cv) (hk : PySem.W.kitOne X.K (.ref (He.ga X.K c)) cv = some b) : CallR (X.suite a ((a, oe) :: pn)) (.builtin "isinstance") (rIsX a d u b) := by
  intro pins s σ H xs us Q I r h
  obtain ⟨rfl, hd, q⟩ := h
  obtain _ | ⟨rx, r⟩ := r
  obtain _ | ⟨ru, r⟩ := r
  cases r
  cases rx
  cases hu _ ru
  obtain ⟨od, J⟩ := inst_at I hz hv hd
  have hcl : (PySem.W.clsIn X.K (He.ga X.K c)).isSome = true := by
    obtain ⟨cd, h, _⟩ := PySem.W.any_some T.e.hd
    rw [h]; rfl
  exact PySem.W.kia_one (PySem.W.kitx_exc hcl T.e.hg T.e.hk T.e.hs T.e.ha T.e.hn T.e.ht T.e.hm) I.kIn J hk nofun fun tk => ⟨.bl b, H, I.kept (t' := tk) fun _ _ z => z, rfl, q⟩
/-- the exception's slot read -/
theorem Rel.exc {E : Ac} {L : List Addr} {γ : G} {σ : L2.St} {H : Hp} {x : PV} (R : Rel E L ks γ σ H) (hk : ks[i]? = some (.exc a d f)) (hx : γ[i]? = some (some x)) : σ[i]? = some (some (.ref a)) ∧ (d = none → x = .bag) ∧ ∀ b, d = some b → ¬ av E L true true b ∧ ∃ u, H b = some (.xd [(f, u)]) ∧ Rp E.B (av E L true true) H x u := by
  obtain ⟨O, h1, _⟩ := R.sl
  obtain ⟨v, hv, k⟩ := h1 i x hx
  rw [getElem?_kd hk] at k
  obtain ⟨_, rfl, k1, k2⟩ := k
  exact ⟨hv, k1, k2⟩
def pIsX (i : Nat) (b : Bool) : GE := fun γ Q => getS γ i fun _ => Q (.bl b)
theorem qe_isX (i : Nat) {u : V} {cv : Value} {b : Bool} (T : HanC X.K c) (hz : Zc (.ref (He.ga X.K c)) d oe) (hv : ∃ vs, oe.data = .fields vs) (hu : ∀ w, RelV u w → w = cv) (hk : PySem.W.kitOne X.K (.ref (He.ga X.K c)) cv = some b)
    (hm : X.mg "isinstance" = none) (hg : Gl (X.suite a ((a, oe) :: pn)) "isinstance") (h1 : PE (X.suite a ((a, oe) :: pn)) e1 (tVar i)) (h2 : PE (X.suite a ((a, oe) :: pn)) e2 (tC u)) (hik : ks[i]? = some (.exc a d f) := by rfl)
    (he1 : starEach [e1, e2] X.env = (false, eval e1 X.env) :: starEach [e2] X.env := by rfl) (he2 : starEach [e2] X.env = (false, eval e2 X.env) :: starEach [] X.env := by rfl) (hpl : (backTo pos (starEach [e2] X.env)).any (·.1) = false := by rfl) :
    QE (X.suite a ((a, oe) :: pn)) ks true true (.Call (.Name "isinstance" p0) [e1, e2] [] pos) (pIsX i b) :=
  PEi (pe_callB (call_isX T hz hv hu hk) hg hm (by decide +kernel) (pa_cons h1 (pa_cons h2 pa_nil he2) he1) (by decide) (by decide) he1 hpl) fun σ H Q ⟨E, L, γ, Qp, hK, R, hp, k⟩ => by
    obtain ⟨x, hx, q⟩ := getS_of hp
    obtain ⟨s1, _, s2⟩ := R.exc hik hx
    exact ⟨_, s1, rfl, fun q e => (by obtain ⟨_, w, hw, _⟩ := s2 q e; exact ⟨_, hw⟩), k _ _ H q (.refl _ _) (.bl b)⟩
/-- e.f: the class c keeps it -/
def pExF (i : Nat) (c f : Str) : GE := fun γ Q => exF c = f ∧ getS γ i fun x => match x with | .bag => False | y => Q y
theorem qe_exF (i : Nat) (T : HanC X.K c) {g : Str} (hz : Zc (.ref (He.ga X.K c)) d oe) (hv : ∃ vs, oe.data = .fields vs) (hno : PySem.W.findIn X.K (.ref (He.ga X.K c)) g = some none) (h1 : PE (X.suite a ((a, oe) :: pn)) e1 (tVar i)) (hik : ks[i]? = some (.exc a d (exF c)) := by rfl) (hb : attributeBase e1 g X.env (eval e1 X.env) = eval e1 X.env := by rfl) :
    QE (X.suite a ((a, oe) :: pn)) ks true true (.Attribute e1 g pos) (pExF i c g) :=
  PEi (pe_xf T.f hno hz hv h1 hb) fun σ H Q ⟨E, L, γ, Qp, hK, R, hp, k⟩ => by
    obtain ⟨rfl, hp⟩ := hp
    obtain ⟨x, hx, q⟩ := getS_of hp
    obtain ⟨s1, s3, s2⟩ := R.exc hik hx
    cases d with
    | none => rw [s3 rfl] at q; exact q.elim
    | some b =>
      obtain ⟨_, w, hw, rw'⟩ := s2 b rfl
      refine ⟨_, s1, rfl, rfl, b, _, w, rfl, hw, by simp, k x w H ?_ (.refl _ _) rw'⟩
      cases x <;> first | exact q | exact q.elim
end
end Vl
namespace Vl
open PySem PySem.Spec L2 Lb PyProof.Rows
def dB (a b : Option (Option Value)) : Bool := decide (a = b)
/-- an own class over ValueError, as its record lies -/
def oexR (C : Addr) : Obj → Bool
  | ⟨.type "type", _, .cls ⟨_, _, .ref C' :: bm, _, _, true, _, _, _, _, false⟩, sl⟩ => decide (C' = C) && (PySem.HandSPX.refsVE bm && match sl.toList with
    | [_, _, _, _, some (.builtin n), _] => decide (n = "ValueError.__new__")
    | _ => false)
  | _ => false
def raiB (K : Fg) (c : Str) : Bool := (match K.lookup (He.ga K c) with | some o => oexR (He.ga K c) o | none => false) && (dB (PySem.W.findIn K (.ref (He.ga K c)) "__setattr__") (some (some (.builtin "object.__setattr__"))) && (decide (PySem.W.subIn K (.ref (He.ga K c)) (.type "BaseException") = some true) &&
  (decide (PySem.W.typeIn K (.ref (He.ga K c)) = some (.type "type")) && (PySem.W.keepIn K (.ref (He.ga K c)) && (dB (PySem.W.findIn K (.ref (He.ga K c)) "__init__") (some (some (.ref (He.ma K (He.ga K c) "__init__")))) && (decide (PySem.W.typeIn K (.ref (He.ma K (He.ga K c) "__init__")) = some (.type "function")) &&
  dB (PySem.W.findIn K (.ref (He.ga K c)) (exF c)) (some none)))))))
theorem oexR_ok {C : Addr} {o : Obj} (h : oexR C o = true) : ∃ nm q N bs bm sn sub ab col dd k0 k1 k2 k3 k5, o = excClassObj nm q C N bs bm true sn sub ab col dd k0 k1 k2 k3 k5 "ValueError.__new__" ∧ PySem.HandSPX.refsVE bm = true := by
  unfold oexR at h
  split at h
  · rename_i sl
    obtain ⟨h1, h⟩ := Bool.and_eq_true_iff.mp h
    obtain ⟨h2, h3⟩ := Bool.and_eq_true_iff.mp h
    clear h
    cases of_decide_eq_true h1
    obtain ⟨l⟩ := sl
    match l, h3 with
    | [k0, k1, k2, k3, some (.builtin n), k5], h3 =>
      cases of_decide_eq_true h3
      exact ⟨_, _, _, _, _, _, _, _, _, _, k0, k1, k2, k3, k5, rfl, h2⟩
  · cases h
theorem raiB_ok {K : Fg} {c : Str} (h : raiB K c = true) : RaiC K c := by
  obtain ⟨h1, h⟩ := Bool.and_eq_true_iff.mp h
  obtain ⟨h2, h⟩ := Bool.and_eq_true_iff.mp h
  obtain ⟨h3, h⟩ := Bool.and_eq_true_iff.mp h
  obtain ⟨h4, h⟩ := Bool.and_eq_true_iff.mp h
  obtain ⟨h5, h⟩ := Bool.and_eq_true_iff.mp h
  obtain ⟨h6, h⟩ := Bool.and_eq_true_iff.mp h
  obtain ⟨h7, h8⟩ := Bool.and_eq_true_iff.mp h
  refine ⟨⟨?_, of_decide_eq_true h2, of_decide_eq_true h3, of_decide_eq_true h4, h5⟩, of_decide_eq_true h6, of_decide_eq_true h7, of_decide_eq_true h8⟩
  cases e : K.lookup (He.ga K c) with
  | none => rw [e] at h1; cases h1
  | some o =>
    rw [e] at h1
    obtain ⟨nm, q, N, bs, bm, sn, sub, ab, col, dd, k0, k1, k2, k3, k5, rfl, hb⟩ := oexR_ok h1
    exact ⟨nm, q, N, bs, bm, sn, sub, ab, col, dd, k0, k1, k2, k3, k5, rfl, hb⟩
def layB (K : Fg) (c : Str) : Bool := dB (PySem.W.specialIn K (.ref (He.ga K c)) "__getattribute__") (some (some (.builtin "type.__getattribute__"))) && (decide (PySem.W.typeIn K (.ref (He.ga K c)) = some (.type "type")) && (PySem.W.readsIn K (He.ga K c) (.type "type") &&
  (match PySem.W.findCls K (.ref (He.ga K c)) (.type "type") "__init__" with | some (.val v) => decide (v = .builtin "ValueError.__init__") | _ => false)))
theorem layB_ok {K : Fg} {c : Str} (h : layB K c = true) : LayC K (He.ga K c) := by
  obtain ⟨h1, h⟩ := Bool.and_eq_true_iff.mp h
  obtain ⟨h2, h⟩ := Bool.and_eq_true_iff.mp h
  obtain ⟨h3, h4⟩ := Bool.and_eq_true_iff.mp h
  refine ⟨of_decide_eq_true h1, of_decide_eq_true h2, h3, ?_⟩
  split at h4
  · rename_i v e
    rw [e, of_decide_eq_true h4]
  · cases h4
def hanB (K : Fg) (c : Str) : Bool := xfB K (He.ga K c) && (dB (PySem.W.findIn K (.ref (He.ga K c)) "__class__") (some (some (.builtin "object.__class__"))) && (dB (PySem.W.specialIn K (.builtin "object.__class__") "__get__") (some (some (.builtin "getset_descriptor.__get__"))) &&
  (decide (PySem.W.takesIn K (.builtin "object.__class__") = some true) && (decide (PySem.W.mroIn K (He.ga K c) (.type "object") = some true) && dB (PySem.W.findIn K (.ref (He.ga K c)) (exF c)) (some none)))))
theorem hanB_ok {K : Fg} {c : Str} (h : hanB K c = true) : HanC K c := by
  obtain ⟨h1, h⟩ := Bool.and_eq_true_iff.mp h
  obtain ⟨h2, h⟩ := Bool.and_eq_true_iff.mp h
  obtain ⟨h3, h⟩ := Bool.and_eq_true_iff.mp h
  obtain ⟨h4, h⟩ := Bool.and_eq_true_iff.mp h
  obtain ⟨h5, h6⟩ := Bool.and_eq_true_iff.mp h
  have x := xfB_ok h1
  exact ⟨⟨x.ga, x.gg, x.exC, x.hdC, of_decide_eq_true h2, of_decide_eq_true h3, of_decide_eq_true h4, of_decide_eq_true h5⟩, x, of_decide_eq_true h6⟩
/-- for each of the classes cs: handled as they should be, caught by cn -/
def hansB (K : Fg) (cs : List Str) : Bool := cs.all fun c => hanB K c
theorem hansB_ok {K : Fg} {cs : List Str} (h : hansB K cs = true) : ∀ c, c ∈ cs → HanC K c := fun c m => hanB_ok (List.all_eq_true.mp h c m)
def exmsB (K : Fg) (cs : List Str) (cn : Str) : Bool := cs.all fun c => decide (PySem.W.exmOne K (.ref (He.ga K c)) (.ref (He.ga K cn)) = some true)
theorem exmsB_ok {K : Fg} {cs : List Str} {cn : Str} (h : exmsB K cs cn = true) : ∀ c, c ∈ cs → PySem.W.exmOne K (.ref (He.ga K c)) (.ref (He.ga K cn)) = some true := fun c m => of_decide_eq_true (List.all_eq_true.mp h c m)
/-- whether an exception of the class c is one of n -/
def exSub (c n : Str) : Bool := decide (c = n) || decide (n = "LayError")
def kitsB (K : Fg) (cs : List Str) (n : Str) : Bool := cs.all fun c => decide (PySem.W.kitOne K (.ref (He.ga K c)) (.ref (He.ga K n)) = some (exSub c n))
theorem kitsB_ok {K : Fg} {cs : List Str} {n : Str} (h : kitsB K cs n = true) : ∀ c, c ∈ cs → PySem.W.kitOne K (.ref (He.ga K c)) (.ref (He.ga K n)) = some (exSub c n) := fun c m => of_decide_eq_true (List.all_eq_true.mp h c m)
def kitTB (K : Fg) (cs : List Str) (t : String) : Bool := cs.all fun c => decide (PySem.W.kitOne K (.ref (He.ga K c)) (.type t) = some true)
theorem kitTB_ok {K : Fg} {cs : List Str} {t : String} (h : kitTB K cs t = true) : ∀ c, c ∈ cs → PySem.W.kitOne K (.ref (He.ga K c)) (.type t) = some true := fun c m => of_decide_eq_true (List.all_eq_true.mp h c m)
end Vl
namespace Vl
open PySem PySem.Spec L2 Lb PyProof.Rows
def nofB (K : Fg) (cs : List Str) (f : Str) : Bool := cs.all fun c => dB (PySem.W.findIn K (.ref (He.ga K c)) f) (some none)
theorem nofB_ok {K : Fg} {cs : List Str} {f : Str} (h : nofB K cs f = true) : ∀ c, c ∈ cs → PySem.W.findIn K (.ref (He.ga K c)) f = some none := fun c m => of_decide_eq_true (List.all_eq_true.mp h c m)
def forPX (g : GG) (b : GSX) (D : GX) : List PV → G → Prop
  | [], γ => D.nx γ
  | x :: xs, γ => g x γ fun γ1 => b { D with nx := forPX g b D xs, ct := forPX g b D xs, bk := D.nx } γ1
@[irreducible] def sForP (g : GG) (b : GSX) (D : GX) (xs : List PV) (γ : G) : Prop := forPX g b D xs γ
theorem sForP_eq (g : GG) (b : GSX) (D : GX) (xs : List PV) (γ : G) : sForP g b D xs γ = forPX g b D xs γ := by unfold sForP; rfl
def sFor (it : GA) (g : GG) (b : GSX) : GSX := fun D γ => it γ fun xs => sForP g b D xs γ
theorem sfor_nil {g : GG} {b : GSX} {D : GX} {γ : G} (k : D.nx γ) : sForP g b D [] γ := by rw [sForP_eq]; exact k
theorem sfor_cons {g : GG} {b : GSX} {D : GX} {x : PV} {xs : List PV} {γ : G} (k : g x γ fun γ1 => b { D with nx := sForP g b D xs, ct := sForP g b D xs, bk := D.nx } γ1) : sForP g b D (x :: xs) γ := by
  rw [sForP_eq]
  have e : sForP g b D xs = forPX g b D xs := funext fun γ => sForP_eq g b D xs γ
  rw [e] at k
  exact k
/-- a loop by an invariant over what is left -/
theorem sforI {α : Type} {g : GG} {b : GSX} {D : GX} {h : α → PV} (I : List α → G → Prop) : ∀ {l : List α} {γ : G}, I l γ → (∀ a l γ, I (a :: l) γ → ∀ K : G → Prop, (∀ γ', I l γ' → K γ') → g (h a) γ fun γ1 => b { D with nx := K, ct := K, bk := D.nx } γ1) → (∀ γ, I [] γ → D.nx γ) → sForP g b D (l.map h) γ
  | [], _, i, _, k => sfor_nil (k _ i)
  | a :: l, γ, i, hs, k => sfor_cons (hs a l γ i _ fun γ' i' => sforI I i' hs k)
section
variable {X : Cx} {W : WX} {kx : Option (List Kd)} {ks ks' kl : List Kd} {a s : Bool} {e iter tg : Expr} {st : Stmt} {sts sts' : List Stmt} {pa : GA} {pt : GT} {g : GG} {ps qs : GSX} {pos : Pos} {js : List Nat}
theorem qsx_for (pe : ∀ {wi : TI} {tg' : TG} {tb : TS}, PI X tg iter wi → PG X tg tg' → PSs X sts tb → PS X st (tFor wi tg' tb)) (hi : QI X ks a tg iter pa) (hg : QG X ks a true js tg g) (hb : QBX X W kx ks ks ks sts ps) : QSX X W kx ks ks kl st (sFor pa g ps) :=
  PSi (pe hi hg hb) fun D σ H ⟨E, L, γ, Dp, hK, R, hp, nx, rt, bk, ct, xc⟩ => by
    refine ⟨E, L, γ, _, hK, R, hp, fun xs J H1 hq x1 ⟨P, p0, pf, pg, pst⟩ => ?_⟩
    rw [sForP_eq] at hq
    refine ⟨fun i m σ H2 => m = xs.length - i ∧ ∃ L' γ', Fw E.B L H1 L' H2 ∧ Rel E L' ks γ' σ H2 ∧ forPX g ps Dp (xs.drop i) γ', ⟨_, rfl, L, γ, .refl _ _ _, R.ex x1, hq⟩, ?_⟩
    rintro i m σ2 H2 ⟨rfl, L2, γ2, f2, R2, h2⟩
    by_cases hi : i < xs.length
    · right
      obtain ⟨go, yl⟩ := pg i L2 H2 (pf _ _ _ _ p0 f2) hi
      refine ⟨go, fun σ' H' => ∃ m', m' < xs.length - i ∧ (m' = xs.length - (i + 1) ∧ ∃ L' γ', Fw E.B L H1 L' H' ∧ Rel E L' ks γ' σ' H' ∧ forPX g ps Dp (xs.drop (i + 1)) γ'), fun _ _ h => h, fun v H3 hy => ?_⟩
      obtain ⟨x3, y, hy, ry⟩ := yl v H3 hy
      have hd : xs.drop i = y :: xs.drop (i + 1) := by
        rw [List.drop_eq_getElem_cons hi]
        rw [List.getElem?_eq_getElem hi] at hy; cases hy; rfl
      rw [hd] at h2
      refine ⟨E, L2, γ2, y, _, hK, R2.ex x3, ry, h2, fun γ3 σ3 q3 R3 _ => ⟨E, L2, γ3, _, hK, R3, q3, ?_, rt, ?_, ?_, xc.fw (Fw.trans x1.fw (f2.trans x3.fw))⟩⟩
      · intro L4 γ4 σ4 H4 f4 R4 q4
        exact ⟨_, by omega, rfl, L4, γ4, f2.trans (Fw.trans x3.fw f4), R4, q4⟩
      · intro L4 γ4 σ4 H4 f4 R4 q4
        exact nx L4 γ4 σ4 H4 (Fw.trans x1.fw (f2.trans (Fw.trans x3.fw f4))) R4 q4
      · intro L4 γ4 σ4 H4 f4 R4 q4
        exact ⟨_, by omega, rfl, L4, γ4, f2.trans (Fw.trans x3.fw f4), R4, q4⟩
    · left
      have hi := Nat.not_lt.mp hi
      refine ⟨pst i L2 H2 (pf _ _ _ _ p0 f2) hi, ?_⟩
      rw [List.drop_eq_nil_of_le hi] at h2
      exact nx L2 γ2 σ2 H2 (Fw.trans x1.fw f2) R2 h2
end
/-- a body as its def's end sees it: what is raised leaves -/
theorem takes_def {CX : CXT} {P : Program} {w : World} {K : Fg} {mg : Str → Option Value} {base : Heap} {N : List Str} {qual : Str} {scope : Scope} {f : Addr} {cd : Value} {A : Around} {outer : List Env} {s : Shared} {H : Hp} {E : XK} :
    Takes (cxOf (L2.CX P w) P w K mg base N qual scope f cd A outer s H E) (fun cls d _ H => E cls d H) := takes_of rfl rfl rfl rfl
theorem passes_def {P : Program} {w : World} {K : Fg} {mg : Str → Option Value} {base : Heap} {N : List Str} {qual : Str} {scope : Scope} {f : Addr} {cd : Value} {A : Around} {outer : List Env} {s : Shared} {H : Hp} {E : XK} :
    PassesOwn (model P w) (cxOf (L2.CX P w) P w K mg base N qual scope f cd A outer s H E).A (cxOf (L2.CX P w) P w K mg base N qual scope f cd A outer s H E).env (cxOf (L2.CX P w) P w K mg base N qual scope f cd A outer s H E).xe := by
  show PassesOwn (model (cxOf (L2.CX P w) P w K mg base N qual scope f cd A outer s H E).prog (cxOf (L2.CX P w) P w K mg base N qual scope f cd A outer s H E).w) _ _ _
  exact passes_of rfl
end Vl
namespace Vl
open PySem PySem.Spec L2 Lb PyProof.Rows
structure SaysS (fa : List He.Fa) (fn : List He.DefD) (ex : Fg → Bool) (K : Fg) : Prop where
  d : He.SaysD fa fn K
  more : ex K = true
def frS (n : Nat) (g : Addr → Option Obj) : Fg := He.frT g (He5.asA g n)
def obsS (n : Nat) (fa : List He.Fa) (fn : List He.DefD) (ex : Fg → Bool) (g : Addr → Option Obj) : He.AlD × Bool := (He.obsD fa fn (frS n g), ex (frS n g))
def hookS (n : Nat) (fa : List He.Fa) (fn : List He.DefD) (ex : Fg → Bool) : PySem.W.Hook where
  α := He.AlD × Bool
  obs := fun s => obsS n fa fn ex s.heap.get?
  val := fun _ => (He.valD fn, true)
  says := fun _ h => ∃ K : Fg, K.In h ∧ SaysS fa fn ex K
  of := fun _ _ e => ⟨_, He.frT_in, congrArg (fun z : He.AlD × Bool => z.1) e, congrArg (fun z : He.AlD × Bool => z.2) e⟩
  keeps := fun _ _ _ ⟨K, hK, c⟩ k => ⟨K, PySem.W.Frag.In.keeps hK k, c⟩
theorem obsS_eq {n : Nat} {fa : List He.Fa} {fn : List He.DefD} {ex : Fg → Bool} {g : Addr → Option Obj} {s : Shared} (h : ∀ a, g a = s.heap.get? a) : obsS n fa fn ex g = (hookS n fa fn ex).obs s := by
  have e : g = s.heap.get? := funext h
  rw [e]; rfl
end Vl
namespace Vl
open PySem PySem.Spec L2 Lb PyProof.Rows
end Vl
namespace Vl
open PySem PySem.Spec L2 Lb PyProof.Rows
end Vl
namespace Vl
open PySem PySem.Spec L2 Lb PyProof.Rows
end Vl
namespace Vl
open PySem PySem.Spec L2 Lb
end Vl
namespace Vl
open PySem PySem.Spec L2 Lb
end Vl
namespace Vl
open PySem PySem.Spec L2 Lb
end Vl
namespace Vl
open PySem PySem.Spec L2 Lb
end Vl
namespace Vl
open PySem PySem.Spec L2 Lb
mutual
def blk : PV → Nat
  | .str x => x.cps.size
  | .lst xs => blks xs
  | .tup xs => blks xs
  | _ => 0
def blks : List PV → Nat
  | [] => 0
  | x :: xs => blk x + 1 + blks xs
end
end Vl
namespace Vl
open PySem PySem.Spec L2 Lb PyProof.Rows
theorem qe_dK0 {X : Cx} {ks : List Kd} {pos : Pos} : QE X ks true true (.Dict [] [] pos) (pC (.dK [])) := qe_new qn_dK
end Vl
namespace Vl
open PySem PySem.Spec L2 Lb
/-- all stands but what lies at b -/
structure Xb (B : Bg) (b : Addr) (H H' : Hp) : Prop where
  st : ∀ a o, H a = some o → a ≠ B.q → a ≠ b → H' a = some o
  tp : ∀ a vs, H a = some (.tup vs) → H' a = some (.tup vs)
  nn : ∀ a, H a ≠ none → H' a ≠ none
  bg : BagOk B H'
theorem Xb.refl {B : Bg} {b : Addr} {H : Hp} (h : BagOk B H) : Xb B b H H := ⟨fun _ _ h _ _ => h, fun _ _ h => h, fun _ h => h, h⟩
theorem Xb.ex {B : Bg} {b : Addr} {H H1 H2 : Hp} (x : Xb B b H H1) (y : Ex B H1 H2) : Xb B b H H2 :=
  ⟨fun a o h n m => y.st a o (x.st a o h n m) n, fun a v h => y.tp a v (x.tp a v h), fun a h => y.nn a (x.nn a h), y.bg x.bg⟩
theorem Xb.put {B : Bg} {b c : Addr} {o : HO} {H H1 : Hp} (x : Xb B b H H1) (nt : ∀ vs, H1 c ≠ some (.tup vs)) (hq : c ≠ B.q) (hr : c ≠ B.r) (hc : c = b ∨ H c = none) : Xb B b H (upd H1 c o) := by
  refine ⟨fun a u h n m => ?_, fun a v h => ?_, fun a h => ?_, x.bg.stay (fun u e => by rw [upd_ne hq.symm]; exact e) fun u e => by rw [upd_ne hr.symm]; exact e⟩
  · rw [upd_ne (fun z => hc.elim (fun e => m (z.trans e)) fun e => by rw [z, e] at h; cases h)]
    exact x.st a u h n m
  · have := x.tp a v h
    rw [upd_ne (fun z => nt v (by rw [← z]; exact this))]
    exact this
  · by_cases z : a = c
    · rw [z, upd_same]; exact nofun
    · rw [upd_ne z]; exact x.nn a h
theorem Xb.un {B : Bg} {b : Addr} {H H' : Hp} {o : HO} (x : Xb B b H H') (e : H b = some o) (hq : b ≠ B.q) (hr : b ≠ B.r) : Ex B H (upd H' b o) := by
  refine ⟨fun a u h n => ?_, fun a v h => ?_, fun a h => ?_, fun _ => x.bg.stay (fun u e => by rw [upd_ne hq.symm]; exact e) fun u e => by rw [upd_ne hr.symm]; exact e⟩
  · by_cases z : a = b
    · rw [z, upd_same, ← e, ← z]; exact h
    · rw [upd_ne z]; exact x.st a u h n z
  · by_cases z : a = b
    · rw [z, upd_same, ← e, ← z]; exact h
    · rw [upd_ne z]; exact x.tp a v h
  · by_cases z : a = b
    · rw [z, upd_same]; exact nofun
    · rw [upd_ne z]; exact x.nn a h
theorem upd_back {H : Hp} {b : Addr} {o u : HO} (e : H b = some u) : upd (upd H b o) b u = H := by
  funext a
  by_cases z : a = b
  · rw [z, upd_same, e]
  · rw [upd_ne z, upd_ne z]
section
variable {X : Cx} {ks : List Kd} {a s a1 a2 : Bool} {tg e e1 elt iter : Expr} {p : GE} {pa : GA} {g : GG} {pos : Pos}
theorem Rel.one {E : Ac} {L : List Addr} {γ : G} {σ : St} {H H' : Hp} {i : Nat} {b : Addr} {x : PV} {vs : List V} {zs : List PV} (R : Rel E L ks γ σ H) (hk : ks[i]? = some .own) (hx : γ[i]? = some (some x)) (hb : σ[i]? = some (some (.ref b)))
    (xb : Xb E.B b H H') (hv : H' b = some (.lst vs)) (rp : RpL E.B (av E L true true) H' zs vs) : Rel E L ks (γ.set i (some (.lst zs))) σ H' := by
  obtain ⟨b', hb', mb, ob, _⟩ := R.upd1 hk hx
  rw [hb] at hb'
  cases hb'
  have hbn : H b ≠ none := (R.lf b mb).2
  have hr : b ≠ E.B.r := fun z => R.ar (by rw [← z]; exact (R.lf b mb).1)
  obtain ⟨o, ho⟩ := Option.ne_none_iff_exists'.mp hbn
  have x1 := xb.un ho (R.lq mb) hr
  have R1 := R.ex x1
  obtain ⟨b', hb', mb, ob, up⟩ := R1.upd1 hk hx
  rw [hb] at hb'
  cases hb'
  have := up (.lst vs) (.lst zs) ⟨vs, upd_same, by rw [upd_back hv]; exact rp⟩
  rw [upd_back hv] at this
  exact this
theorem Rel.drop {E : Ac} {L : List Addr} {γ : G} {σ : St} {H : Hp} (R : Rel E L ks γ σ H) (i : Nat) (k : Kd) : Rel E L (ks.set i k) (γ.set i none) σ H where
  old := R.old
  onn := R.onn
  bag := R.bag
  a0 := R.a0
  aq := R.aq
  ar := R.ar
  lf := R.lf
  len := by rw [List.length_set]; exact R.len
  sl := by
    obtain ⟨O, h1, h2, h3, h4⟩ := R.sl
    refine ⟨O, fun j y hy => ?_, h2, h3, h4⟩
    by_cases z : i = j
    · subst z
      rw [List.getElem?_set] at hy
      rw [if_pos rfl] at hy
      split at hy <;> cases hy
    · rw [List.getElem?_set_ne z] at hy
      obtain ⟨v, hv, kr⟩ := h1 j y hy
      refine ⟨v, hv, ?_⟩
      have e : kd (ks.set i k) j = kd ks j := by
        unfold kd
        simp only [List.getD_eq_getElem?_getD, List.getElem?_set_ne z]
      rw [e]
      exact kr
end
end Vl
namespace Vl
open PySem PySem.Spec L2 Lb
mutual
/-- no dict within -/
def nd : PV → Bool
  | .lst xs => ndL xs
  | .tup xs => ndL xs
  | .ins _ xs => ndL xs
  | .dK _ => false
  | .dT _ => false
  | _ => true
def ndL : List PV → Bool
  | [] => true
  | x :: xs => nd x && ndL xs
end
def Ac.fz (E : Ac) (d : Addr) (o : HO) : Ac := { E with H0 := upd E.H0 d o }
end Vl
namespace Vl
open PySem PySem.Spec L2 Lb PyProof.Rows
end Vl
namespace Vl
open PySem PySem.Spec L2 Lb PyProof.Rows
theorem kit_any {K : Fg} {t : Value} {f : Str → Bool} : ∀ {cs : List Str}, (∀ n ∈ cs, PySem.W.kitOne K t (.ref (He.ga K n)) = some (f n)) → PySem.W.kitAny K t (cs.map fun n => .ref (He.ga K n)) = some (cs.any f)
  | [], _ => rfl
  | n :: cs, h => by
    have ih := kit_any (cs := cs) fun m hm => h m (List.mem_cons_of_mem _ hm)
    rw [List.map_cons, List.any_cons]
    unfold PySem.W.kitAny
    rw [h n (by simp)]
    cases f n with
    | true => rfl
    | false => simpa using ih
/-- the classes cs of the module as a tuple's items -/
def clsV (K : Fg) (cs : List Str) : List V := cs.map fun n => .ref (He.ga K n)
theorem cls_items {K : Fg} : ∀ {cs : List Str} {its : List Value}, Vals (clsV K cs) its → its = cs.map fun n => .ref (He.ga K n)
  | [], _, r => by cases r; rfl
  | m :: cs, _, r => by
    cases r with
    | @cons _ u _ us r1 r2 =>
      cases (show u = Value.ref _ from r1)
      rw [cls_items (cs := cs) r2]; rfl
def tCs (K : Fg) : List Str → TA
  | [] => tNil
  | n :: cs => tCons (tC (.ref (He.ga K n))) (tCs K cs)
theorem tCs_at {K : Fg} {σ : L2.St} {H : Hp} : ∀ {cs : List Str} {Q : List V → Hp → Prop}, Q (clsV K cs) H → tCs K cs σ H Q
  | [], _, h => h
  | n :: cs, Q, h => tCs_at (cs := cs) (Q := fun xs H1 => Q (.ref (He.ga K n) :: xs) H1) h
def rIsXT (K : Fg) (a : Addr) (d : Option Addr) (cs : List Str) (b : Bool) : List V → Hp → VK → Prop := fun xs H Q => ∃ tp, xs = [.ref a, .ref tp] ∧ H tp = some (.tup (clsV K cs)) ∧ (∀ q, d = some q → ∃ ws, H q = some (.xd ws)) ∧ Q (.bl b) H
section
variable {X : Cx} {ks : List Kd} {a : Addr} {oe : Obj} {d : Option Addr} {pn : List (Addr × Obj)} {c f : Str} {i : Nat} {e1 : Expr} {es : List Expr} {pos p0 tpos : Pos} {x1 : Nat} {cs : List Str}
theorem call_isXT {b : Bool} (T : HanC X.K c) (hz : Zc (.ref (He.ga X.K c)) d oe) (hv : ∃ vs, oe.data = .fields vs) (hk : PySem.W.kitAny X.K (.ref (He.ga X.K c)) (cs.map fun n => .ref (He.ga X.K n)) = some b) : CallR (X.suite a ((a, oe) :: pn)) (.builtin "isinstance") (rIsXT X.K a d cs b) := by
  intro pins s σ H xs us Q I r h
  obtain ⟨tp, rfl, ht, hd, q⟩ := h
  obtain _ | ⟨rx, r⟩ := r
  obtain _ | ⟨ru, r⟩ := r
  cases r
  cases rx
  rename_i u0
  cases (show u0 = Value.ref tp from ru)
  obtain ⟨od, J⟩ := inst_at I hz hv hd
  have hcl : (PySem.W.clsIn X.K (He.ga X.K c)).isSome = true := by
    obtain ⟨cd, h, _⟩ := PySem.W.any_some T.e.hd
    rw [h]; rfl
  obtain ⟨_, its, rv, o, h1, h2, n, h3⟩ := (show ObjOk _ _ H s.heap tp (.tup (clsV X.K cs)) from I.hok tp _ ht)
  have e := cls_items rv
  subst e
  obtain ⟨oc, od', dt, sl⟩ := o
  simp only at h2 h3
  subst h2 h3
  exact PySem.W.kia_tup (PySem.W.kitx_exc hcl T.e.hg T.e.hk T.e.hs T.e.ha T.e.hn T.e.ht T.e.hm) I.kIn J h1 hk nofun fun tk => ⟨.bl b, H, I.kept (t' := tk) fun _ _ z => z, rfl, q⟩
theorem qe_isXT (i : Nat) (cs : List Str) (T : HanC X.K c) (hz : Zc (.ref (He.ga X.K c)) d oe) (hv : ∃ vs, oe.data = .fields vs) (hk : ∀ n ∈ cs, PySem.W.kitOne X.K (.ref (He.ga X.K c)) (.ref (He.ga X.K n)) = some (exSub c n))
    (hm : X.mg "isinstance" = none) (hg : Gl (X.suite a ((a, oe) :: pn)) "isinstance") (h1 : PE (X.suite a ((a, oe) :: pn)) e1 (tVar i)) (h2 : PA (X.suite a ((a, oe) :: pn)) es (tCs X.K cs)) (hik : ks[i]? = some (.exc a d f) := by rfl) (hn : cs.length ≤ 1000 := by decide)
    (he1 : starEach [e1, .Tuple es x1 tpos] X.env = (false, eval e1 X.env) :: starEach [.Tuple es x1 tpos] X.env := by rfl) (he2 : starEach [.Tuple es x1 tpos] X.env = (false, eval (.Tuple es x1 tpos) X.env) :: starEach [] X.env := by rfl) (hpl : (backTo pos (starEach [.Tuple es x1 tpos] X.env)).any (·.1) = false := by rfl) :
    QE (X.suite a ((a, oe) :: pn)) ks true true (.Call (.Name "isinstance" p0) [e1, .Tuple es x1 tpos] [] pos) (pIsX i (cs.any (exSub c))) :=
  PEi (pe_callB (call_isXT T hz hv (kit_any hk)) hg hm (by decide +kernel) (pa_cons h1 (pa_cons (pe_tup h2) pa_nil he2) he1) (by decide) (by decide) he1 hpl) fun σ H Q ⟨E, L, γ, Qp, hK, R, hp, k⟩ => by
    obtain ⟨x, hx, q⟩ := getS_of hp
    obtain ⟨s1, _, s2⟩ := R.exc hik hx
    refine ⟨_, s1, tCs_at ⟨by rw [clsV, List.length_map]; exact few hn, fun p np => ?_⟩⟩
    refine ⟨p, rfl, upd_same, fun q e => ?_, k _ _ _ q (.new np) (.bl _)⟩
    obtain ⟨_, w, hw, _⟩ := s2 q e
    have z : q ≠ p := fun z => by rw [z, np] at hw; cases hw
    exact ⟨_, by rw [upd_ne z]; exact hw⟩
end
end Vl
namespace Vl
open PySem PySem.Spec L2 Lb PyProof.Rows
/-- is it a plain thing: none of the own classes' -/
def kn : PV → Bool
  | .non => true
  | .bl _ => true
  | .int _ => true
  | .str _ => true
  | .lst _ => true
  | .tup _ => true
  | .dK _ => true
  | .dT _ => true
  | _ => false
end Vl
namespace Vl
open PySem PySem.Spec L2 Lb PyProof.Rows
end Vl
namespace Vl
open PySem PySem.Spec L2 Lb PyProof.Rows
end Vl
namespace Vl
open PySem PySem.Spec L2 Lb
end Vl
namespace Vl
open PySem PySem.Spec L2 Lb PyProof.Rows
end Vl
namespace Vl
open PySem PySem.Spec L2 Lb PyProof.Rows
theorem _root_.L2H.RoomH.units {k : Nat} {A : Around} (h : L2H.RoomH k A) : A.units + 64 < cLine := by have := h.un; omega
def fCount (bs : List Bool) (k : Bool) : Option Int := some (bs.count k : Nat)
def fIndex (bs : List Bool) (k : Bool) : Option Int := if k ∈ bs then some (bs.idxOf k : Nat) else none
def rLB (f : List Bool → Bool → Option Int) (K : Fg) : V → List V → Hp → VK → Prop := fun x xs H Q => ∃ (p : Addr) (bs : List Bool) (k : Bool) (n : Int), x = .ref p ∧ xs = [.bl k] ∧ SqL K H p (bs.map V.bl) ∧ f bs k = some n ∧ Q (.int n) H
theorem bools_read {h : Heap} : ∀ {bs : List Bool} {its : List Value}, Vals (bs.map V.bl) its → ReadsAll h its (bs.map PyData.bool) []
  | [], _, .nil => .nil
  | b :: bs, _, .cons r t => by
    cases (show _ = Value.bool b from r)
    exact ReadsAll.cons (.bool b) (bools_read t)
theorem bools_count (k : Bool) : ∀ bs : List Bool, PySem.Spec.countIn (.bool k) (bs.map PyData.bool) = (bs.count k : Nat)
  | [] => rfl
  | b :: bs => by
    have ih := bools_count k bs
    rw [List.map_cons, PySem.Spec.countIn, ih, List.count_cons]
    simp only [PySem.Spec.same]
    cases b <;> cases k <;> first | (simp; done) | (simp; omega)
theorem mt_cntB {X : Cx} : MtR X "list.count" (rLB fCount X.K) := by
  intro pins s σ H x xs v us Q I rx rxs h
  obtain ⟨p, bs, k, n, rfl, rfl, hs, e, q⟩ := h
  cases rx
  obtain ⟨u, rfl, ru⟩ := rxs.one
  cases (show u = Value.bool k from ru)
  obtain ⟨its, rv, hl, hlen⟩ := I.list hs
  cases e
  refine count_list_bools (hp := s.heap) hl.isList (bools_read rv) (by simp [Shape.has]) ⟨.int _, H, I.tok _, ⟨s.toks, ?_⟩, q⟩
  rw [bools_count]
theorem mt_idxB {X : Cx} : MtR X "list.index" (rLB fIndex X.K) := by
  intro pins s σ H x xs v us Q I rx rxs h
  obtain ⟨p, bs, k, n, rfl, rfl, hs, e, q⟩ := h
  unfold fIndex at e
  split at e
  · rename_i hk
    cases e
    have hi := List.idxOf_lt_length_iff.mpr hk
    refine mt_index pins s σ H _ _ v us Q I rx rxs ⟨p, bs.map V.bl, .bl k, bs.idxOf k, .bl k, rfl, rfl, hs, rfl, by simp [flatV], ?_, by simp [eqV], fun m z' hm hz => ?_, q⟩
    · rw [List.getElem?_map, List.getElem?_eq_getElem hi]
      simp
    · rw [List.getElem?_map] at hz
      have hm2 : m < bs.length := by omega
      rw [List.getElem?_eq_getElem hm2] at hz
      cases hz
      have := List.not_of_lt_findIdx (p := fun b => b == k) (xs := bs) (i := m) hm
      simpa [eqV] using this
  · cases e
def pLB (f : List Bool → Bool → Option Int) (p : GE) (t : GA) : GE := fun γ Q => p γ fun x => match x with
  | .lst ys => t γ fun xs => (match xs with
    | [.bl k] => (match pBools ys with | some bs => (match f bs k with | some n => Q (.int n) | none => False) | none => False)
    | _ => False)
  | _ => False
section
variable {X : Cx} {ks : List Kd} {a1 s1 a2 s2 : Bool} {e1 e : Expr} {es : List Expr} {p1 : GE} {pa : GA} {name : Str} {id : String} {pos apos : Pos}
theorem qe_lb {f : List Bool → Bool → Option Int} (slot : Slot "list" name id) (hty : typeOf (.builtin id) = pure (.type "method_descriptor")) (hm : MtR X id (rLB f X.K)) (h : QE X ks a1 s1 e1 p1) (ha : QA X ks a2 s2 (e :: es) pa)
    (hbase : attributeBase e1 name X.env (eval e1 X.env) = eval e1 X.env := by rfl)
    (hfew : ((backTo pos (starEach (e :: es) X.env)).all (fun x => !x.1) && (backToKw pos (keywordEach [] X.env)).all (fun x => x.1.isSome)
      && decide ((e :: es).length + ([] : List Keyword).length + (if ([] : List Keyword).isEmpty then 0 else 1) < 30)) = true := by rfl)
    (hline : (apos.endLine == pos.line) = true := by rfl) (hs : starEach (e :: es) X.env = (false, eval e X.env) :: starEach es X.env := by rfl) (hplain : (backTo pos (starEach es X.env)).any (·.1) = false := by rfl) :
    QE X ks true true (.Call (.Attribute e1 name apos) (e :: es) [] pos) (pLB f p1 pa) :=
  PEi (pe_bm PySem.F.plainAttrs_list slot hty hm h ha hbase hfew hline hs hplain) fun σ H Q ⟨E, L, γ, Qp, hK, R, hp, k⟩ => by
    refine ⟨E, L, γ, _, hK, R, hp, fun x v H1 q1 x1 r1 => ?_⟩
    have r1' := r1
    cases r1 with
    | lst n hl rl =>
      rename_i a vs xs
      refine ⟨.inl ⟨rfl, vs, .inl (.inl hl)⟩, E, L, γ, _, hK, R.ex x1, q1, fun ys us H2 q2 x2 r2 l2 => ?_⟩
      have r3 := r1'.ex x2 av_q
      cases r3 with
      | lst n3 h3 rl3 =>
        rename_i vs3
        match ys, r2, q2 with
        | [.bl b], .cons (.bl _) .nil, q2 =>
          cases eb : pBools xs with
          | none => simp only [eb] at q2
          | some bs =>
            simp only [eb] at q2
            cases ef : f bs b with
            | none => simp only [ef] at q2
            | some m =>
              simp only [ef] at q2
              have ev := bools_ok rl3 eb
              subst ev
              exact ⟨a, bs, b, m, rfl, rfl, .inl (.inl h3), ef, k _ _ H2 q2 (x1.trans x2) (.int _)⟩
    | _ => exact q1.elim
end
end Vl
namespace Vl
open PySem PySem.Spec L2 Lb
end Vl
namespace Vl
open PySem PySem.Spec L2 Lb PyProof.Rows PyProof
end Vl
namespace Vl
open PySem PySem.Spec L2 Lb PyProof.Rows
/-- an own exception's __init__ that keeps nothing -/
def spE0 (c : Str) (K : Fg) : Sp := fun vs H Q _ => ∃ a : Addr, vs = [.ref a] ∧ H a = some (exo a (He.ga K c) none) ∧ Q .non H
section
variable {X : Cx} {N : List Str} {c : Str} {vs : List V} {H : Hp} {Q : VK} {E : XK} {sts : List Stmt} {m : Str}
theorem body_E0 (T : RaiC X.K c) (h : PSs X sts (tDrop (tVeI X.K (tCons (tVar 0) (tCons (tC (.str m)) tNil))))) (hs : spE0 c X.K vs H Q E) : ∃ t, PSs X sts t ∧ t { nx := fun _ H' => Q .non H', rt := Q } (start N vs) H := by
  obtain ⟨a, rfl, ha, k⟩ := hs
  have s0 : (start N [V.ref a])[0]? = some (some (.ref a)) := start_at rfl
  exact ⟨_, h, .ref a, s0, a, He.ga X.K c, [.str m], rfl, by simp, T.o, ha, k⟩
end
theorem len_E0 {c : Str} {K : Fg} {vs : List V} {H : Hp} {Q : VK} {E : XK} (h : spE0 c K vs H Q E) : vs.length = 1 := by obtain ⟨_, rfl, _⟩ := h; rfl
def CalE0 (P : Program) (w : World) (K : Fg) (mg : Str → Option Value) (base : Heap) (c : Str) (k : Nat) (ps : List Str) : Prop :=
  ∃ fd, FnOk P w K mg base CX0 k (He.ma K (He.ga K c) "__init__") fd ps (spE0 c K) ∧ Binds K fd ps [] ∧ RaiC K c ∧ mg c = some (.ref (He.ga K c))
section
variable {X : Cx} {pins : List (Addr × Obj)} {σ : L2.St} {H1 H2 : Hp} {hp hp2 h2 : Heap} {g1 g2 : Array GenState} {d1 d2 : Drawn} {t1 t2 : Nat} {os1 os2 : OsState} {a C : Addr}
/-- the made one put aside: all else stands as it stood -/
theorem put_aside (I1 : Inv X pins σ H1 ⟨hp, g1, d1, t1, os1⟩) (new : ∀ b o, hp.get? b = some o → b ≠ a) (nH : H1 a = none) (k : ∀ b o, hp.get? b = some o → hp2.get? b = some o) (un : Un (frs X.stack) [] (upd H1 a (exo a C none)) H2 hp2 h2) (hok : HOk X.prog X.w H2 h2) (ho : os2 = os1) (hb : AllBare g2)
    (ea : H2 a = some (exo a C none)) : ∃ G : Heap, Inv X pins σ (del H2 a) ⟨G, g2, d2, t2, os2⟩ ∧ (∀ b o, G.get? b = some o → h2.get? b = some o) ∧ G.get? a = none := by
  obtain ⟨G, yes, no⟩ := restrict h2 fun b => decide (b ≠ a)
  have eq : ∀ b, b ≠ a → G.get? b = h2.get? b := fun b n => yes b (decide_eq_true n)
  have off : G.get? a = none := no a (by simp)
  have ups : ∀ b, b ≠ a → upd H1 a (exo a C none) b = H1 b := fun b n => upd_ne n
  have dels : ∀ b o, hp.get? b = some o → del H2 a b = H2 b := fun b o e => del_ne (new b o e)
  have Hs : ∀ b o, H1 b = some o → b ≠ a := fun b o e z => by rw [z, nH] at e; cases e
  refine ⟨G, I1.call' (ch := []) ho ?_ ?_ hb (fun b z => absurd z (by simp)), fun b o e => ?_, off⟩
  · constructor
    · intro b o e n hf hx
      rw [eq b (new b o e)]
      exact un.keep b o (k b o e) (by rw [ups b (new b o e)]; exact n) hf hx
    · intro b o e n hf hx
      rw [eq b (new b o e)]
      exact un.slot b o (k b o e) (by rw [ups b (new b o e)]; exact n) hf hx
    · intro b o e n hx
      rw [dels b o e]
      exact un.free b o (k b o e) (by rw [ups b (new b o e)]; exact n) hx
    · intro b o e hx
      rw [eq b (new b o e)]
      exact un.there b o (k b o e) hx
    · intro b xs e
      rw [del_ne (Hs b _ e)]
      exact un.tups b xs (by rw [ups b (Hs b _ e)]; exact e)
    · intro b o u e
      rw [del_ne (Hs b _ e)]
      exact un.frzs b o u (by rw [ups b (Hs b _ e)]; exact e)
    · intro b ps e
      rw [del_ne (Hs b _ e)]
      exact un.tbls b ps (by rw [ups b (Hs b _ e)]; exact e)
  · intro b o e
    have nb : b ≠ a := fun z => by rw [z, del_same] at e; cases e
    rw [del_ne nb] at e
    have ow : ∀ c, H2 c = some (.own b) → c ≠ a := fun c h => at_ne ea h exo_own
    refine (hok b o e).stay (fun c u w y => ?_) (fun c h => by rw [del_ne (ow c h)]; exact h) fun c xs h => by rw [del_ne (at_ne ea h exo_tup)]; exact h
    rw [eq c (w.elim (fun z => by rw [z]; exact nb) (ow c))]
    exact y
  · by_cases z : b = a
    · rw [z, off] at e; cases e
    · rw [← eq b z]; exact e
end
section
variable {X : Cx} {p pos : Pos}
/-- C(), C's own __init__ keeping nothing -/
def tMkE (C : Addr) (sp : Sp) : L2.St → Hp → XK → Prop := fun _ H Q => ∀ a, H a = none → sp [.ref a] (upd H a (exo a C none)) (fun v H2 => v = .non ∧ H2 a = some (exo a C none) ∧ Q (.ref C) none (del H2 a)) (fun _ _ _ => False)
theorem pmk_oex0 {CX : CXT} {x : Str} {C fI : Addr} {k : Nat} {fd : FuncData} {ps : List Str} {sp : Sp} (T : OexC X.K C) (iC : PySem.W.findIn X.K (.ref C) "__init__" = some (some (.ref fI))) (tI : PySem.W.typeIn X.K (.ref fI) = some (.type "function"))
    (F1 : FnOk X.prog X.w X.K X.mg X.base CX k fI fd ps sp) (hr : Room (k + 1) X.A) (hb : Binds X.K fd ps []) (hx : Passes CX X (fun _ _ _ => False)) (hg : Gl X x) (hm : X.mg x = some (.ref C)) (hdb : (x == ("__debug__" : Str)) = false := by decide) :
    PMk X (.Call (.Name x p) [] [] pos) (tMkE C sp) := by
  intro pins s σ H Q I h
  obtain ⟨nm, q, N, bs, bm, sn, sub, ab, col, dd, k0, k1, k2, k3, k5, hC, hbm⟩ := T.cls
  refine wpAny_Call_Name_kw (ld_glob I hg hm ?_ hdb)
  refine PySem.W.callWith_K0 (I.tok _).kIn T.kC ?_
  have I := I.tok s.toks
  show wpAny _ _ (call (.ref C) []) _ _ _
  obtain ⟨hp, g, dr, tk, os⟩ := s
  have sz : hp.objs.size ≤ hp.objs.size + 1 := Nat.le_succ _
  have nH : H (hp.objs.size + 1) = none := I.hok.fresh sz
  have hq := h (hp.objs.size + 1) nH
  have kk : ∀ b o, hp.get? b = some o → ((hp.push (PySem.W.kdv_tup [])).push (PySem.HandSPX.excO C hp.objs.size)).get? b = some o := fun b o e => Heap.get?_push_of_some _ (Heap.get?_push_of_some _ e)
  have hget : ((hp.push (PySem.W.kdv_tup [])).push (PySem.HandSPX.excO C hp.objs.size)).get? (hp.objs.size + 1) = some (PySem.HandSPX.excO C hp.objs.size) := by heap_get
  have I2 := I.laid (t' := tk) (a := hp.objs.size + 1) (o := exo (hp.objs.size + 1) C none) (h' := (hp.push (PySem.W.kdv_tup [])).push (PySem.HandSPX.excO C hp.objs.size)) kk sz (exo_ok hget)
  have r2 : Vals [V.ref (hp.objs.size + 1)] [Value.ref (hp.objs.size + 1)] := .cons rfl .nil
  have hl : [Value.ref (hp.objs.size + 1)].length = ps.length := (F1.len _ _ _ _ hq : [V.ref (hp.objs.size + 1)].length = ps.length)
  refine wpAny_call (PySem.HandSPX.call_own F.excBase_ValueError (fun Y => PySem.HandSPX.refsVE_contains Y bm hbm) (I.kIn _ _ hC) (PySem.W.looks_findIn I.kIn iC) (fun self => PySem.W.bind_fn I.kIn self tI) (Nat.zero_le _)
    (codeAny_mono (F1.run _ X.stack _ _ ⟨[Value.ref (hp.objs.size + 1)], []⟩ [Value.ref (hp.objs.size + 1)] _ _ (fun _ _ _ => False) (hr.make C [] []) (I2.env0.make C [] []) (hb _ [Value.ref (hp.objs.size + 1)] I2.kIn hl) r2 hq) fun r s' e => ?_))
  cases r with
  | error er => exact hx pins σ _ _ er s' I2 e
  | ok fl =>
    cases fl with
    | ret u =>
      obtain ⟨v, H2, os2, bare2, un2, hok2, rv, ev, ea, q2⟩ := e
      subst ev
      obtain ⟨h2, g2, d2, t2, os'⟩ := s'
      obtain ⟨t0, hoe⟩ := exo_at hok2 ea
      obtain ⟨G, J, kG, ge⟩ := put_aside (d2 := d2) (t2 := t2) I (fun b o e => Nat.ne_of_lt (Nat.lt_of_lt_of_le (Heap.lt_size e) sz)) nH kk un2 hok2 os2 bare2 ea
      exact ⟨rv, _, _, _, ⟨G, g2, d2, t2, os'⟩, _, .ref C, none, rfl, J, kG, ge, hoe, ⟨rfl, rfl⟩, rfl, rfl, del_same, rfl, bare2, raises_own T.exC T.tyC, q2⟩
    | next => exact False.elim e
    | brk => exact False.elim e
    | cont => exact False.elim e
end
section
variable {X : Cx} {W : WX} {kx : Option (List Kd)} {ks ks' kl : List Kd} {k : Nat} {c : Str} {ps : List Str} {pos p1 pos1 : Pos}
theorem qsx_raise0 (M : CalE0 X.prog X.w X.K X.mg X.base c k ps) (hcalm : X.calm = true) (tk : Takes X W) (hr : Room (k + 1) X.A) (hg : Gl X c) (hk : ∀ k, kx = some k → ks = k) (hdb : (c == ("__debug__" : Str)) = false := by decide) : QSX X W kx ks ks' kl (.Raise (some (.Call (.Name c p1) [] [] pos1)) none pos) (sRaise0 c) := by
  obtain ⟨fd, F, b, T, gm⟩ := M
  refine PSi (ps_raise hcalm tk (pmk_oex0 T.o T.ini T.fn F hr b pass0 hg gm hdb)) ?_
  rintro D σ H ⟨E, L, γ, Dp, hK, R, hp, nx, rt, bk, ct, xc⟩
  intro a na
  refine ⟨a, rfl, upd_same, rfl, upd_same, ?_⟩
  have sm : ∀ b, H b ≠ none → del (upd H a (exo a (He.ga X.K c) none)) a b = H b := fun b n => by
    have : b ≠ a := fun z => n (by rw [z]; exact na)
    rw [del_ne this, upd_ne this]
  have x2 := Ex.same (B := E.B) sm
  exact xc.at R hk ⟨c, none⟩ _ _ _ hp x2 ⟨by rw [hK], rfl⟩ fun b e => by cases e
end
end Vl
namespace Vl
open PySem PySem.Spec L2 Lb PyProof.Rows
end Vl
namespace Vl
open PySem PySem.Spec L2 Lb
end Vl
namespace Vl
open PySem PySem.Spec PyProof.Rows L2 Lb
section
variable {prog : Program} {w : World} {A : Around} {E : Value → Shared → Prop} {s : Shared} {z TI TO i1 i2 : Addr} {x y : Str} {t t' : Tok} {i : Nat}
/-- a zip's record, whatever it remembers of the tuple it handed out -/
def ZRec (h : Heap) (z TI TO : Addr) (f0 f1 : Value) : Prop := h.get? z = some { cls := .type "zip", dict := none, data := .fields #[f0, f1, .bool false, .ref TI, .ref TO], slots := #[] }
def ZOk (h : Heap) (z TI TO : Addr) : Prop := ∃ f0 f1, ZRec h z TI TO f0 f1 ∧ (f0 = .none ∨ ∃ T : Nat, f0 = rawInt T)
theorem alive_any {a : Addr} {Q : Option Obj → Shared → Prop} (h : Q (s.heap.get? a) s) : wpAny (model prog w) A (loadIfAlive a) Q E s := fun _ _ _ => h
theorem z_free {Q : Bool → Shared → Prop} (hz : ZOk s.heap z TI TO) (yes : Q true s) (no : ∀ h', ZOk h' z TI TO → Heap.SameBut z s.heap h' → Q false { s with heap := h' }) : wpAny (model prog w) A (Builtin.SmallTypes.ownedTupleIsFree (.ref z)) Q E s := by
  obtain ⟨f0, f1, hr, hf⟩ := hz
  unfold Builtin.SmallTypes.ownedTupleIsFree
  refine wpAny_bind (wpAny_field hr rfl (x := f0) rfl ?_)
  rcases hf with rfl | ⟨T, rfl⟩
  · exact wpAny_pure yes
  show wpAny _ _ (loadIfAlive ((T : Int).toNat) >>= _) _ _ _
  refine wpAny_bind (alive_any ?_)
  cases s.heap.get? (T : Int).toNat with
  | none => exact wpAny_pure yes
  | some o =>
    simp only [Option.isNone_some, Bool.false_eq_true, if_false]
    refine wpAny_bind (wpAny_field hr rfl (x := f1) rfl ?_)
    split
    · exact wpAny_bind (wpAny_setField_rec hr (by simp) fun h' g k => wpAny_pure (no h' ⟨_, _, g, .inr ⟨T, rfl⟩⟩ k))
    · exact wpAny_pure (no s.heap ⟨_, _, hr, .inr ⟨T, rfl⟩⟩ (Heap.SameBut.refl _ _))
/-- the cells of a zip of two texts at their sign i -/
structure ZSt (z TI TO i1 i2 : Addr) (x y : Str) (t t' : Tok) (i : Nat) (h : Heap) : Prop where
  hz : ZOk h z TI TO
  ti : IsTupOf2 h TI (.ref i1) (.ref i2)
  to : ∃ a b, IsTupOf2 h TO a b
  h1 : h.IsStrIter i1 (strIterType x) x t i
  h2 : h.IsStrIter i2 (strIterType y) y t' i
theorem zss_item {Q : Value → Shared → Prop} (hh : A.handled = none) (S : ZipSep2 z TI TO i1 i2 [i1] [i2]) (st : ZSt z TI TO i1 i2 x y t t' i s.heap) (l1 : i < x.cps.size) (l2 : i < y.cps.size)
    (hQ : ∀ c d u v h' tk, x.cps[i]? = some c → y.cps[i]? = some d → ZSt z TI TO i1 i2 x y t t' (i + 1) h' → IsTupOf2 h' s.heap.objs.size (.str ⟨#[c]⟩ u) (.str ⟨#[d]⟩ v) → h'.objs.size = s.heap.objs.size + 1 → (∀ c o, c ≠ z → c ≠ TO → c ≠ i1 → c ≠ i2 → s.heap.get? c = some o → h'.get? c = some o) → Q (.ref s.heap.objs.size) { s with heap := h', toks := tk }) :
    wpAny (model prog w) A (Builtin.«zip.__next__» ⟨[.ref z], []⟩) (fun fin s' => ∃ v, fin = .done (.ret v) ∧ Q v s') E s := by
  obtain ⟨hz, hTI, ⟨a, b, hTO⟩, h1, h2⟩ := st
  obtain ⟨f0, f1, hr, hf⟩ := id hz
  have D1 := Draws.text (prog := prog) (w := w) hh i1 x t
  have D2 := Draws.text (prog := prog) (w := w) hh i2 y t'
  obtain ⟨hp, g, dr, tk0, os⟩ := s
  show wpAny _ _ (field (.ref z) 2 >>= _) _ _ _
  refine wpAny_bind (wpAny_field hr rfl (x := .bool false) rfl ?_)
  show wpAny _ _ (field (.ref z) 3 >>= _) _ _ _
  refine wpAny_bind (wpAny_field hr rfl (x := .ref TI) rfl ?_)
  refine wpAny_bind (wpAny_seqItems hTI rfl ?_)
  show wpAny _ _ (Builtin.SmallTypes.ownedTupleIsFree (.ref z) >>= _) _ _ _
  refine wpAny_bind (z_free hz ?_ fun h0 z0 k0 => ?_)
  · -- the tuple once more
    simp only [if_true]
    refine wpAny_bind (wpAny_rule (wpAny_bind (wpAny_field hr rfl (x := .ref TO) rfl (wpAny_bind (wpAny_setField_rec hr (by simp) fun g0 r0 k0 => wpAny_bind ?_)))))
    simp only [List.zipIdx_cons, List.zipIdx_nil, List.forIn_cons, List.forIn_nil]
    refine wpAny_bind (wpAny_bind (wpAny_onRaise ?_))
    show wpAny _ _ (Builtin.SmallTypes.nextOf (.ref i1) >>= _) _ _ ⟨g0, g, dr, tk0, os⟩
    refine wpAny_bind (D1.item i _ _ _ l1 (D1.over h1 k0 S.zf1) fun v1 p1 tk1 hv1 n1 k1 => wpAny_pure ?_)
    have T1 : IsTupOf2 p1 TO a b := k1.extBut _ _ S.Ti1 (k0.extBut _ _ S.TOz hTO)
    refine wpAny_bind (wpAny_seqItems (s := ⟨p1, g, dr, tk1, os⟩) T1 rfl ?_)
    refine wpAny_bind (updateSeq_IsTupOf2 (s := ⟨p1, g, dr, tk1, os⟩) T1 fun q1 U1 j1 => wpAny_bind (wpAny_letGo (wpAny_pure ?_)))
    refine wpAny_bind (wpAny_bind (wpAny_onRaise ?_))
    show wpAny _ _ (Builtin.SmallTypes.nextOf (.ref i2) >>= _) _ _ ⟨q1, g, dr, tk1, os⟩
    refine wpAny_bind (D2.item i _ _ _ l2 (D2.over (D2.over (D2.over h2 k0 S.zf2) k1 S.sep1_2) j1 S.Tf2) fun v2 p2 tk2 hv2 n2 k2 => wpAny_pure ?_)
    have T2 : IsTupOf2 p2 TO v1 b := k2.extBut _ _ S.Ti2 U1
    refine wpAny_bind (wpAny_seqItems (s := ⟨p2, g, dr, tk2, os⟩) T2 rfl ?_)
    refine wpAny_bind (updateSeq_IsTupOf2 (s := ⟨p2, g, dr, tk2, os⟩) T2 fun q2 U2 j2 => wpAny_bind (wpAny_letGo (wpAny_pure (wpAny_pure ?_))))
    have U2 : IsTupOf2 q2 TO v1 v2 := U2
    show wpAny _ _ (seqItems? (.ref TO) >>= _) _ _ ⟨q2, g, dr, tk2, os⟩
    refine wpAny_bind (wpAny_seqItems (s := ⟨q2, g, dr, tk2, os⟩) U2 rfl ?_)
    show wpAny _ _ (newTuple [v1, v2] >>= _) _ _ _
    have sz : q2.objs.size = hp.objs.size := by rw [j2.1]; show p2.objs.size = _; rw [k2.1]; show q1.objs.size = _; rw [j1.1]; show p1.objs.size = _; rw [k1.1]; show g0.objs.size = _; rw [k0.1]
    refine wpAny_bind (wpAny_newTuple ?_)
    have rz : (q2.push { cls := .type "tuple", data := .seq #[v1, v2] }).get? z = some ({ cls := .type "zip", dict := none, data := .fields (#[f0, f1, Value.bool false, Value.ref TI, Value.ref TO].setIfInBounds 0 Value.ellipsis), slots := #[] } : Obj) :=
      Heap.get?_push_of_some _ (j2.extBut _ _ S.TOz.symm (k2.extBut _ _ S.zi2 (j1.extBut _ _ S.TOz.symm (k1.extBut _ _ S.zi1 r0))))
    have zl : z < hp.objs.size := Heap.lt_size hr
    unfold Builtin.SmallTypes.ownedTupleHandOut
    refine wpAny_bind (wpAny_bind (wpAny_setField_rec rz (by simp) fun e1 ez1 ek1 => wpAny_setField_rec ez1 (by simp) fun e2 ez2 ek2 => ?_))
    have up : ∀ c o, c ≠ z → q2.get? c = some o → e2.get? c = some o := fun c o n q => ek2.extBut _ _ n (ek1.extBut _ _ n (Heap.get?_push_of_some _ q))
    have nt : hp.objs.size ≠ z := Nat.ne_of_gt zl
    have new : (q2.push { cls := .type "tuple", data := .seq #[v1, v2] }).get? hp.objs.size = some { cls := .type "tuple", data := .seq #[v1, v2] } := by rw [← sz]; exact Heap.get?_push_size _ rfl
    obtain ⟨c, u, hc, rfl⟩ := hv1
    obtain ⟨d, v, hd, rfl⟩ := hv2
    show wpAny _ _ (ret (.ref q2.objs.size)) _ _ _
    rw [sz] at ez2 ez1
    rw [sz]
    refine wpAny_pure ⟨_, rfl, hQ c d u v e2 tk2 hc hd ⟨⟨_, _, ez2, .inr ⟨hp.objs.size, rfl⟩⟩, ?_, ⟨_, _, up _ _ S.TOz U2⟩, ?_, ?_⟩ (ek2.extBut _ _ nt (ek1.extBut _ _ nt new)) ?_ fun c o n1 n2 n3 n4 q => up c o n1 (j2.extBut _ _ n2 (k2.extBut _ _ n4 (j1.extBut _ _ n2 (k1.extBut _ _ n3 (k0.extBut _ _ n1 q)))))⟩
    · exact up _ _ S.TIz (j2.extBut _ _ S.TITO (k2.extBut _ _ S.TIi2 (j1.extBut _ _ S.TITO (k1.extBut _ _ S.TIi1 (k0.extBut _ _ S.TIz hTI)))))
    · obtain ⟨o, ho, r⟩ := n1
      exact ⟨o, up _ _ S.zi1.symm (j2.extBut _ _ S.Ti1.symm (k2.extBut _ _ (fun e => S.sep1_2 (by simp [e])) (j1.extBut _ _ S.Ti1.symm ho))), r⟩
    · obtain ⟨o, ho, r⟩ := n2
      exact ⟨o, up _ _ S.zi2.symm (j2.extBut _ _ S.Ti2.symm ho), r⟩
    · rw [ek2.1]; show e1.objs.size = _; rw [ek1.1]; show (q2.push _).objs.size = _; rw [Heap.size_push, sz]
  · simp only [Bool.false_eq_true, if_false]
    refine wpAny_bind ?_
    rw [← Array.forIn_toList]
    simp only [List.forIn_cons, List.forIn_nil]
    refine wpAny_bind (wpAny_bind (wpAny_holding ?_))
    show wpAny _ _ (Builtin.SmallTypes.nextOf (.ref i1) >>= _) _ _ _
    refine wpAny_bind (D1.item i _ _ _ l1 (D1.over h1 k0 S.zf1) fun v1 p1 tk1 hv1 n1 k1 => wpAny_pure (wpAny_pure ?_))
    refine wpAny_bind (wpAny_bind (wpAny_holding ?_))
    show wpAny _ _ (Builtin.SmallTypes.nextOf (.ref i2) >>= _) _ _ _
    refine wpAny_bind (D2.item i _ _ _ l2 (D2.over (D2.over h2 k0 S.zf2) k1 S.sep1_2) fun v2 p2 tk2 hv2 n2 k2 => wpAny_pure (wpAny_pure (wpAny_pure ?_)))
    show wpAny _ _ (newTuple [v1, v2] >>= _) _ _ _
    refine wpAny_bind (wpAny_newTuple (wpAny_pure ⟨_, rfl, ?_⟩))
    have sz : p2.objs.size = hp.objs.size := by rw [k2.1]; show p1.objs.size = _; rw [k1.1]; show h0.objs.size = _; rw [k0.1]
    have up : ∀ c o, p2.get? c = some o → (p2.push { cls := .type "tuple", data := .seq #[v1, v2] }).get? c = some o := fun c o q => Heap.get?_push_of_some _ q
    have new : (p2.push { cls := .type "tuple", data := .seq #[v1, v2] }).get? hp.objs.size = some { cls := .type "tuple", data := .seq #[v1, v2] } := by rw [← sz]; exact Heap.get?_push_size _ rfl
    obtain ⟨c, u, hc, rfl⟩ := hv1
    obtain ⟨d, v, hd, rfl⟩ := hv2
    obtain ⟨e0, e1, ze, zf⟩ := z0
    have kk : ∀ m o, m ≠ i1 → m ≠ i2 → h0.get? m = some o → (p2.push { cls := .type "tuple", data := .seq #[.str ⟨#[c]⟩ u, .str ⟨#[d]⟩ v] }).get? m = some o := fun m o n3 n4 q => Heap.get?_push_of_some _ (k2.extBut _ _ n4 (k1.extBut _ _ n3 q))
    show Q (.ref p2.objs.size) _
    rw [sz]
    refine hQ c d u v _ tk2 hc hd ⟨⟨e0, e1, kk _ _ S.zi1 S.zi2 ze, zf⟩, kk _ _ S.TIi1 S.TIi2 (k0.extBut _ _ S.TIz hTI), ⟨a, b, kk _ _ S.Ti1 S.Ti2 (k0.extBut _ _ S.TOz hTO)⟩, ?_, ?_⟩ new (by rw [Heap.size_push, sz]) fun c o n1 _ n3 n4 q => kk c o n3 n4 (k0.extBut _ _ n1 q)
    · obtain ⟨o, ho, r⟩ := n1
      exact ⟨o, up _ _ (k2.extBut _ _ (fun e => S.sep1_2 (by simp [e])) ho), r⟩
    · obtain ⟨o, ho, r⟩ := n2
      exact ⟨o, up _ _ ho, r⟩
theorem zss_end {Q : Fin → Shared → Prop} (hh : A.handled = none) (S : ZipSep2 z TI TO i1 i2 [i1] [i2]) (st : ZSt z TI TO i1 i2 x y t t' i s.heap) (le : x.cps.size ≤ i)
    (hE : ∀ h' e, (∀ c o, c ≠ z → c ≠ i1 → s.heap.get? c = some o → h'.get? c = some o) → (∃ o, h'.get? e = some o ∧ o.cls = .type "StopIteration") → E (.ref e) { s with heap := h' }) :
    wpAny (model prog w) A (Builtin.«zip.__next__» ⟨[.ref z], []⟩) Q E s := by
  obtain ⟨hz, hTI, ⟨a, b, hTO⟩, h1, h2⟩ := st
  obtain ⟨f0, f1, hr, hf⟩ := id hz
  have D1 := drawsEndS (prog := prog) (w := w) hh i1 x t i le
  obtain ⟨hp, g, dr, tk0, os⟩ := s
  show wpAny _ _ (field (.ref z) 2 >>= _) _ _ _
  refine wpAny_bind (wpAny_field hr rfl (x := .bool false) rfl ?_)
  show wpAny _ _ (field (.ref z) 3 >>= _) _ _ _
  refine wpAny_bind (wpAny_field hr rfl (x := .ref TI) rfl ?_)
  refine wpAny_bind (wpAny_seqItems hTI rfl ?_)
  show wpAny _ _ (Builtin.SmallTypes.ownedTupleIsFree (.ref z) >>= _) _ _ _
  refine wpAny_bind (z_free hz ?_ fun h0 z0 k0 => ?_)
  · simp only [if_true]
    refine wpAny_bind (wpAny_rule (wpAny_bind (wpAny_field hr rfl (x := .ref TO) rfl (wpAny_bind (wpAny_setField_rec hr (by simp) fun g0 r0 k0 => wpAny_bind ?_)))))
    simp only [List.zipIdx_cons, List.zipIdx_nil, List.forIn_cons, List.forIn_nil]
    refine wpAny_bind (wpAny_bind (wpAny_onRaise ?_))
    show wpAny _ _ (Builtin.SmallTypes.nextOf (.ref i1) >>= _) _ _ ⟨g0, g, dr, tk0, os⟩
    refine wpAny_bind (D1.done ⟨g0, g, dr, tk0, os⟩ _ _ ⟨D1.over (i := i) ⟨h1, rfl⟩ k0 S.zf1 |>.1, rfl⟩ fun q e kq ⟨o, ho, hc⟩ => ?_)
    have zq := kq _ _ S.zi1 r0
    have ne : e ≠ z := fun h => by rw [h] at ho; rw [show q.get? z = _ from zq] at ho; cases ho; simp at hc
    refine wpAny_setField_rec (s := ⟨q, g, dr, tk0, os⟩) zq (by simp) fun q' _ kq' => ?_
    exact hE q' e (fun c o n1 n2 h => kq'.extBut _ _ n1 (kq _ _ n2 (k0.extBut _ _ n1 h))) ⟨o, kq'.extBut _ _ ne ho, hc⟩
  · simp only [Bool.false_eq_true, if_false]
    refine wpAny_bind ?_
    rw [← Array.forIn_toList]
    simp only [List.forIn_cons, List.forIn_nil]
    refine wpAny_bind (wpAny_bind (wpAny_holding ?_))
    show wpAny _ _ (Builtin.SmallTypes.nextOf (.ref i1) >>= _) _ _ _
    refine wpAny_bind (D1.done _ _ _ ⟨D1.over (i := i) ⟨h1, rfl⟩ k0 S.zf1 |>.1, rfl⟩ fun q e kq ho => ?_)
    exact hE q e (fun c o n1 n2 h => kq _ _ n2 (k0.extBut _ _ n1 h)) ho
theorem zss_next {Q : Value → Shared → Prop} (hh : A.in1.handled = none) (S : ZipSep2 z TI TO i1 i2 [i1] [i2]) (st : ZSt z TI TO i1 i2 x y t t' i s.heap) (l1 : i < x.cps.size) (l2 : i < y.cps.size)
    (hQ : ∀ c d u v h' tk, x.cps[i]? = some c → y.cps[i]? = some d → ZSt z TI TO i1 i2 x y t t' (i + 1) h' → IsTupOf2 h' s.heap.objs.size (.str ⟨#[c]⟩ u) (.str ⟨#[d]⟩ v) → h'.objs.size = s.heap.objs.size + 1 → (∀ c o, c ≠ z → c ≠ TO → c ≠ i1 → c ≠ i2 → s.heap.get? c = some o → h'.get? c = some o) → Q (.ref s.heap.objs.size) { s with heap := h', toks := tk }) :
    wpAny (model prog w) A (Builtin.SmallTypes.nextOf (.ref z)) Q E s := by
  obtain ⟨f0, f1, hr, _⟩ := st.hz
  have hT : s.TypeIs (.ref z) "zip" := ⟨_, hr, rfl⟩
  unfold Builtin.SmallTypes.nextOf
  exact wpAny_bind (wpAny_callSpecial?_slot (name := Str.ofString "__next__") hT F.slot_zip_next (wpAny_call_entry F.slot_zip_next hT F.entry_zip_next
    (zss_item hh S st l1 l2 fun c d u v h' tk q1 q2 q3 q4 q5 q6 => wpAny_pure (hQ c d u v h' tk q1 q2 q3 q4 q5 q6)) (F.args_zip_next_1 _)))
theorem zss_stop {Q : Value → Shared → Prop} (hh : A.in1.handled = none) (S : ZipSep2 z TI TO i1 i2 [i1] [i2]) (st : ZSt z TI TO i1 i2 x y t t' i s.heap) (le : x.cps.size ≤ i)
    (hE : ∀ h' e, (∀ c o, c ≠ z → c ≠ i1 → s.heap.get? c = some o → h'.get? c = some o) → (∃ o, h'.get? e = some o ∧ o.cls = .type "StopIteration") → E (.ref e) { s with heap := h' }) :
    wpAny (model prog w) A (Builtin.SmallTypes.nextOf (.ref z)) Q E s := by
  obtain ⟨f0, f1, hr, _⟩ := st.hz
  have hT : s.TypeIs (.ref z) "zip" := ⟨_, hr, rfl⟩
  unfold Builtin.SmallTypes.nextOf
  exact wpAny_bind (wpAny_callSpecial?_slot (name := Str.ofString "__next__") hT F.slot_zip_next (wpAny_call_entry F.slot_zip_next hT F.entry_zip_next
    (zss_end hh S st le hE) (F.args_zip_next_1 _)))
/-- one turn: the number, and the zip's new pair, in a new pair -/
theorem enz_item {e : Addr} {old : Value} {Q : Value → Shared → Prop} (hh : A.in1.handled = none) (S : ZipSep2 z TI TO i1 i2 [i1] [i2]) (he : IsEnum s.heap e z (i : Int) old) (st : ZSt z TI TO i1 i2 x y t t' i s.heap) (ne : e ≠ z ∧ e ≠ TI ∧ e ≠ TO ∧ e ≠ i1 ∧ e ≠ i2) (l1 : i < x.cps.size) (l2 : i < y.cps.size)
    (hQ : ∀ c d u v k h' tk, x.cps[i]? = some c → y.cps[i]? = some d → IsEnumOut h' e z ((i : Int) + 1) (.ref s.heap.objs.size) (s.heap.objs.size + 1) → ZSt z TI TO i1 i2 x y t t' (i + 1) h' → IsTupOf2 h' s.heap.objs.size (.str ⟨#[c]⟩ u) (.str ⟨#[d]⟩ v) →
      IsTupOf2 h' (s.heap.objs.size + 1) (.int i k) (.ref s.heap.objs.size) → (∀ c o, c ≠ e → c ≠ z → c ≠ TO → c ≠ i1 → c ≠ i2 → s.heap.get? c = some o → h'.get? c = some o) → Q (.ref (s.heap.objs.size + 1)) { s with heap := h', toks := tk }) :
    wpAny (model prog w) A (Builtin.«enumerate.__next__» ⟨[.ref e], []⟩) (fun fin s' => ∃ v, fin = .done (.ret v) ∧ Q v s') E s := by
  obtain ⟨n1, n2, n3, n4, n5⟩ := ne
  have hzl : z < s.heap.objs.size := by obtain ⟨_, _, hr, _⟩ := st.hz; exact Heap.lt_size hr
  have hel : e < s.heap.objs.size := Heap.lt_size he
  obtain ⟨hp, g, dr, tk0, os⟩ := s
  show wpAny _ _ (field (.ref e) 2 >>= _) _ _ _
  refine wpAny_bind (wpAny_field he rfl (x := .ref z) rfl (wpAny_bind (zss_next hh S st l1 l2 fun c d u v h1 tk hc hd st1 tp1 sz1 k1 => ?_)))
  have N : (Shared.heap ⟨hp, g, dr, tk0, os⟩).objs.size = hp.objs.size := rfl
  rw [N] at tp1 sz1 hzl hel
  have e1 : IsEnum h1 e z (i : Int) old := k1 e _ n1 n3 n4 n5 he
  show wpAny _ _ (field (.ref e) 3 >>= _) _ _ ⟨h1, g, dr, tk, os⟩
  refine wpAny_bind (wpAny_field e1 rfl (x := rawInt i) rfl ?_)
  show wpAny _ _ (field (.ref e) 4 >>= _) _ _ ⟨h1, g, dr, tk, os⟩
  refine wpAny_bind (wpAny_field e1 rfl (x := .none) rfl ?_)
  show wpAny _ _ (mkInt i >>= _) _ _ ⟨h1, g, dr, tk, os⟩
  refine wpAny_bind (wpAny_mkInt ?_)
  show wpAny _ _ (setField (.ref e) 3 (rawInt ((i : Int) + 1)) >>= _) _ _ ⟨h1, g, dr, tk + 1, os⟩
  refine wpAny_bind (wpAny_setField_rec e1 (by simp) fun h2 e2 k2 => ?_)
  show wpAny _ _ (setField (.ref e) 4 .none >>= _) _ _ ⟨h2, g, dr, tk + 1, os⟩
  refine wpAny_bind (wpAny_setField_rec e2 (by simp) fun h3 e3 k3 => ?_)
  show wpAny _ _ (newTuple [.int i tk, .ref hp.objs.size] >>= _) _ _ ⟨h3, g, dr, tk + 1, os⟩
  have s3 : h3.objs.size = hp.objs.size + 1 := by rw [k3.1]; show h2.objs.size = _; rw [k2.1]; exact sz1
  refine wpAny_bind (wpAny_newTuple ?_)
  obtain ⟨h4, hh4⟩ : ∃ h4, h3.push { cls := .type "tuple", data := .seq #[.int i tk, .ref hp.objs.size] } = h4 := ⟨_, rfl⟩
  have e4 : IsEnum h4 e z ((i : Int) + 1) old := by rw [← hh4]; exact Heap.get?_push_of_some _ e3
  have t4 : IsTupOf2 h4 (hp.objs.size + 1) (.int i tk) (.ref hp.objs.size) := by rw [← hh4, ← s3]; exact Heap.get?_push_size _ rfl
  have u4 : ∀ c o, c ≠ e → h1.get? c = some o → h4.get? c = some o := fun c o n q => by rw [← hh4]; exact Heap.get?_push_of_some _ (k3.extBut _ _ n (k2.extBut _ _ n q))
  show wpAny _ _ (Builtin.SmallTypes.ownedTupleIsFree (.ref e) >>= _) _ _ ⟨h3.push { cls := .type "tuple", data := .seq #[.int i tk, .ref hp.objs.size] }, g, dr, tk + 1, os⟩
  rw [hh4]
  have free : ∀ {R : Bool → Shared → Prop}, R true ⟨h4, g, dr, tk + 1, os⟩ → wpAny (model prog w) A (Builtin.SmallTypes.ownedTupleIsFree (.ref e)) R E ⟨h4, g, dr, tk + 1, os⟩ := fun {R} q => by
    unfold Builtin.SmallTypes.ownedTupleIsFree
    exact wpAny_bind (wpAny_field e4 rfl (x := .none) rfl (wpAny_pure q))
  refine wpAny_bind (free ?_)
  simp only [if_true]
  refine wpAny_bind (wpAny_rule (wpAny_bind (wpAny_field e4 rfl (x := old) rfl (wpAny_bind (wpAny_setField_rec e4 (by simp) fun h5 e5 k5 => ?_)))))
  show wpAny _ _ (Builtin.SmallTypes.ownedTupleHandOut (.ref e) (.ref h3.objs.size) >>= _) _ _ ⟨h5, g, dr, tk + 1, os⟩
  rw [s3]
  unfold Builtin.SmallTypes.ownedTupleHandOut
  refine wpAny_bind (wpAny_bind (wpAny_setField_rec e5 (by simp) fun h6 e6 k6 => wpAny_setField_rec e6 (by simp) fun h7 e7 k7 => wpAny_bind (wpAny_letGo (wpAny_pure ⟨_, rfl, ?_⟩))))
  have up : ∀ c o, c ≠ e → h1.get? c = some o → h7.get? c = some o := fun c o n q => k7.extBut _ _ n (k6.extBut _ _ n (k5.extBut _ _ n (u4 c o n q)))
  have it_up : ∀ {j : Addr} {q : Str} {tq : Tok} {m : Nat}, j ≠ e → h1.IsStrIter j (strIterType q) q tq m → h7.IsStrIter j (strIterType q) q tq m := fun n ⟨o, ho, r⟩ => ⟨o, up _ _ n ho, r⟩
  obtain ⟨⟨f0, f1, zr, zf⟩, ti, ⟨a, b, to⟩, j1, j2⟩ := st1
  refine hQ c d u v tk h7 (tk + 1) hc hd e7 ⟨⟨f0, f1, up _ _ n1.symm zr, zf⟩, up _ _ n2.symm ti, ⟨a, b, up _ _ n3.symm to⟩, it_up n4.symm j1, it_up n5.symm j2⟩ (up _ _ (Nat.ne_of_gt hel) tp1) ?_ fun c o m1 m2 m3 m4 m5 q => up _ _ m1 (k1 c o m2 m3 m4 m5 q)
  have ne1 : hp.objs.size + 1 ≠ e := Nat.ne_of_gt (Nat.lt_succ_of_lt hel)
  exact k7.extBut _ _ ne1 (k6.extBut _ _ ne1 (k5.extBut _ _ ne1 t4))
theorem enz_next {e : Addr} {old : Value} {Q : Option Value → Shared → Prop} (hh : A.in1.handled = none) (S : ZipSep2 z TI TO i1 i2 [i1] [i2]) (he : IsEnum s.heap e z (i : Int) old) (st : ZSt z TI TO i1 i2 x y t t' i s.heap) (ne : e ≠ z ∧ e ≠ TI ∧ e ≠ TO ∧ e ≠ i1 ∧ e ≠ i2) (l1 : i < x.cps.size) (l2 : i < y.cps.size)
    (hQ : ∀ c d u v k h' tk, x.cps[i]? = some c → y.cps[i]? = some d → IsEnumOut h' e z ((i : Int) + 1) (.ref s.heap.objs.size) (s.heap.objs.size + 1) → ZSt z TI TO i1 i2 x y t t' (i + 1) h' → IsTupOf2 h' s.heap.objs.size (.str ⟨#[c]⟩ u) (.str ⟨#[d]⟩ v) →
      IsTupOf2 h' (s.heap.objs.size + 1) (.int i k) (.ref s.heap.objs.size) → (∀ c o, c ≠ e → c ≠ z → c ≠ TO → c ≠ i1 → c ≠ i2 → s.heap.get? c = some o → h'.get? c = some o) → Q (some (.ref (s.heap.objs.size + 1))) { s with heap := h', toks := tk }) :
    wpAny (model prog w) A (pyNext (.ref e)) Q E s := by
  have hT : s.TypeIs (.ref e) "enumerate" := ⟨_, he, rfl⟩
  unfold pyNext
  exact wpAny_bind (wpAny_attempt (wpAny_callSpecial?_slot (name := Str.ofString "__next__") hT F.slot_enumerate_next (wpAny_call_entry F.slot_enumerate_next hT F.entry_enumerate_next
    (enz_item hh S he st ne l1 l2 fun c d u v k h' tk q1 q2 q3 q4 q5 q6 q7 => wpAny_pure (hQ c d u v k h' tk q1 q2 q3 q4 q5 q6 q7)) (F.args_enumerate_next_1 _))))
theorem enz_stop {e : Addr} {old : Value} {Q : Option Value → Shared → Prop} (hh : A.in1.handled = none) (S : ZipSep2 z TI TO i1 i2 [i1] [i2]) (he : IsEnum s.heap e z (i : Int) old) (st : ZSt z TI TO i1 i2 x y t t' i s.heap) (le : x.cps.size ≤ i)
    (hQ : ∀ h', (∀ c o, c ≠ z → c ≠ i1 → s.heap.get? c = some o → h'.get? c = some o) → Q none { s with heap := h' }) : wpAny (model prog w) A (pyNext (.ref e)) Q E s := by
  have hT : s.TypeIs (.ref e) "enumerate" := ⟨_, he, rfl⟩
  unfold pyNext
  refine wpAny_bind (wpAny_attempt (wpAny_callSpecial?_slot (name := Str.ofString "__next__") hT F.slot_enumerate_next (wpAny_call_entry F.slot_enumerate_next hT F.entry_enumerate_next ?_ (F.args_enumerate_next_1 _))))
  show wpAny _ _ (field (.ref e) 2 >>= _) _ _ _
  refine wpAny_bind (wpAny_field he rfl (x := .ref z) rfl (wpAny_bind (zss_stop hh S st le fun h' q k ⟨o, ho, hc⟩ => ?_)))
  exact wpAny_bind (wpAny_isInstance (T := "StopIteration") (b := true) ⟨o, ho, hc⟩ isSubtype_stop (wpAny_pure (hQ h' k)))
theorem enz_made {Q : Value → Shared → Prop} {f0 : Value} (hz : IsZip s.heap z TI TO f0)
    (h : ∀ h', IsEnum h' s.heap.objs.size z 0 .none → (∀ b o, s.heap.get? b = some o → h'.get? b = some o) → Q (.ref s.heap.objs.size) { s with heap := h' }) :
    wpAny (model prog w) A (call (.type "enumerate") [.ref z]) Q E s := by
  have M : Meets (Builtin.«enumerate.__new__» ⟨[.type "enumerate", .ref z], []⟩) (fun _ R s => IsZip s.heap z TI TO f0 ∧
      R (.ok (.ret (.ref s.heap.objs.size))) { s with heap := s.heap.push { cls := .type "enumerate", data := .fields #[.none, .bool false, .ref z, rawInt 0, .none, .none] } }) :=
    .of_wp fun prog w A R s h => by
      obtain ⟨hp, g, d, tk, os⟩ := s
      obtain ⟨hl, h⟩ := h
      have hsub := sub_enumerate
      wp_walk
      refine wpAny_stack_any fun st => wpAny_pure ?_
      split
      · rename_i c _ _ _ _ _
        cases (c == Value.type "enumerate")
        · wp_walk using wpAny_pyIter_zip hl
          exact ⟨_, rfl, h⟩
        · wp_walk using wpAny_pyIter_zip hl
          exact ⟨_, rfl, h⟩
      · wp_walk using wpAny_pyIter_zip hl
        exact ⟨_, rfl, h⟩
  refine callType_new F.called_enumerate (by decide) (F.typeCall_enumerate_1 _) (F.newCall_enumerate_1 _) (fun obj => F.args_object_init_2 obj _) F.entry_enumerate_new M ⟨hz, ?_⟩
  have he : IsEnum (s.heap.push { cls := .type "enumerate", data := .fields #[.none, .bool false, .ref z, rawInt 0, .none, .none] }) s.heap.objs.size z 0 .none := Heap.get?_push_size _ rfl
  exact ⟨⟨_, he, rfl⟩, h _ he fun b o q => Heap.get?_push_of_some _ q⟩
end
def ItEZ (x y : Str) : It :=
  ⟨fun i _ => i < x.cps.size ∧ i < y.cps.size, fun i H u H' => ∃ (T U : Addr) (c d : Nat), u = .ref U ∧ H T = none ∧ H U = none ∧ T ≠ U ∧ x.cps[i]? = some c ∧ y.cps[i]? = some d ∧ H' = upd (upd H T (.tup [.str ⟨#[c]⟩, .str ⟨#[d]⟩])) U (.tup [.int (i : Nat), .ref T]), fun i _ => x.cps.size ≤ i⟩
theorem turn_ez {P : Program} {w : World} {K : Fg} {elts : List Expr} {kk : Nat} {tpos : Pos} {e z TI TO i1 i2 : Addr} {x y : Str} {t t' : Tok} (S : ZipSep2 z TI TO i1 i2 [i1] [i2]) (ne : e ≠ z ∧ e ≠ TI ∧ e ≠ TO ∧ e ≠ i1 ∧ e ≠ i2) :
    Turn P w K (.Tuple elts kk tpos) (ItEZ x y) [e, z, TI, TO, i1, i2] e (fun i h => (∃ old, IsEnum h e z (i : Int) old) ∧ ZSt z TI TO i1 i2 x y t t' i h) where
  mem := by simp
  obj := fun i h ⟨⟨old, he⟩, ⟨⟨f0, f1, zr, _⟩, ti, ⟨a, b, to⟩, ⟨o1, e1, _, d1⟩, ⟨o2, e2, _, d2⟩⟩⟩ c hc => by
    have e' : c = e ∨ c = z ∨ c = TI ∨ c = TO ∨ c = i1 ∨ c = i2 := by simpa using hc
    rcases e' with q | q | q | q | q | q
    · rw [q]; exact ⟨_, he, fun v q => nomatch q⟩
    · rw [q]; exact ⟨_, zr, fun v q => nomatch q⟩
    · rw [q]; exact ⟨_, ti, fun v q => nomatch q⟩
    · rw [q]; exact ⟨_, to, fun v q => nomatch q⟩
    · rw [q]; exact ⟨o1, e1, fun v q => by rw [d1] at q; cases q⟩
    · rw [q]; exact ⟨o2, e2, fun v q => by rw [d2] at q; cases q⟩
  keep := fun i h h' ⟨⟨old, he⟩, ⟨⟨f0, f1, zr, zf⟩, ti, ⟨a, b, to⟩, ⟨o1, e1, r1⟩, ⟨o2, e2, r2⟩⟩⟩ k =>
    ⟨⟨old, k e (by simp) _ he⟩, ⟨⟨f0, f1, k z (by simp) _ zr, zf⟩, k TI (by simp) _ ti, ⟨a, b, k TO (by simp) _ to⟩, ⟨o1, k i1 (by simp) _ e1, r1⟩, ⟨o2, k i2 (by simp) _ e2, r2⟩⟩⟩
  item := by
    rintro X rfl rfl rfl hc i pins s σ H E I hf ⟨⟨old, he⟩, st⟩ ⟨l1, l2⟩
    have hd : X.A.in1.handled = none := I.ok.hd hc
    have low : ∀ b ∈ [e, z, TI, TO, i1, i2], b < s.heap.objs.size := fun b hb => by
      obtain ⟨⟨f0, f1, zr, _⟩, ti, ⟨a, c, to⟩, ⟨o1, e1, _, d1⟩, ⟨o2, e2, _, d2⟩⟩ := st
      have e' : b = e ∨ b = z ∨ b = TI ∨ b = TO ∨ b = i1 ∨ b = i2 := by simpa using hb
      rcases e' with q | q | q | q | q | q
      · rw [q]; exact Heap.lt_size he
      · rw [q]; exact Heap.lt_size zr
      · rw [q]; exact Heap.lt_size ti
      · rw [q]; exact Heap.lt_size to
      · rw [q]; exact Heap.lt_size e1
      · rw [q]; exact Heap.lt_size e2
    refine enz_next hd S he st ne l1 l2 fun c d u v k h1 tk hx hy out st1 tp up hk => ⟨_, rfl, ?_⟩
    refine wpAny_letOwnedTupleGo_enum (s := { s with heap := h1, toks := tk }) out fun h2 he2 sb => ?_
    obtain ⟨N, hN⟩ : ∃ N, s.heap.objs.size = N := ⟨_, rfl⟩
    rw [hN] at tp up low
    have keep2 : ∀ b o, b ∉ [e, z, TI, TO, i1, i2] → s.heap.get? b = some o → h2.get? b = some o := fun b o hb q => by
      simp only [List.mem_cons, List.not_mem_nil, or_false, not_or] at hb
      exact (sb.2 b hb.1).trans (hk b o hb.1 hb.2.1 hb.2.2.2.1 hb.2.2.2.2.1 hb.2.2.2.2.2 q)
    have el := low e (by simp)
    have tp2 : IsTupOf2 h2 N (.str ⟨#[c]⟩ u) (.str ⟨#[d]⟩ v) := (sb.2 _ (Nat.ne_of_gt el)).trans tp
    have up2 : IsTupOf2 h2 (N + 1) (.int i k) (.ref N) := (sb.2 _ (Nat.ne_of_gt (Nat.lt_succ_of_lt el))).trans up
    obtain ⟨G, g1, g2⟩ := restrict h2 fun b => decide (b ≠ N + 1)
    have gk : ∀ b, b ≠ N + 1 → G.get? b = h2.get? b := fun b hb => g1 b (decide_eq_true hb)
    have gn : G.get? (N + 1) = none := g2 _ (by simp)
    have nN : H N = none := I.hok.fresh (Nat.le_of_eq hN)
    have nU : H (N + 1) = none := I.hok.fresh (by rw [hN]; exact Nat.le_succ _)
    have new1 : ObjOk X.prog X.w (upd H N (.tup [.str ⟨#[c]⟩, .str ⟨#[d]⟩])) G N (.tup [.str ⟨#[c]⟩, .str ⟨#[d]⟩]) :=
      ⟨by show 2 ≤ sizeLine; decide, [.str ⟨#[c]⟩ u, .str ⟨#[d]⟩ v], .cons ⟨_, rfl⟩ (.cons ⟨_, rfl⟩ .nil), ⟨_, (gk N (Nat.ne_of_lt (Nat.lt_succ_self N))).trans tp2, rfl, _, rfl⟩⟩
    have I1 : Inv X pins σ (upd H N (.tup [.str ⟨#[c]⟩, .str ⟨#[d]⟩])) { s with heap := G, toks := tk } :=
      I.turnedNew (t' := tk) (ch := [e, z, TI, TO, i1, i2]) (fun b o hb q => (gk b (Nat.ne_of_lt (Nat.lt_succ_of_lt (by rw [← hN]; exact Heap.lt_size q)))).trans (keep2 b o hb q)) hf (Nat.le_of_eq hN) new1
    have hUn : upd H N (.tup [.str ⟨#[c]⟩, .str ⟨#[d]⟩]) (N + 1) = none := by rw [upd_ne (Nat.succ_ne_self N)]; exact nU
    have new2 : ObjOk X.prog X.w (upd (upd H N (.tup [.str ⟨#[c]⟩, .str ⟨#[d]⟩])) (N + 1) (.tup [.int (i : Nat), .ref N])) h2 (N + 1) (.tup [.int (i : Nat), .ref N]) :=
      ⟨by show 2 ≤ sizeLine; decide, [.int i k, .ref N], .cons ⟨_, rfl⟩ (.cons rfl .nil), ⟨_, up2, rfl, _, rfl⟩⟩
    have I2 : Inv X pins σ (upd (upd H N (.tup [.str ⟨#[c]⟩, .str ⟨#[d]⟩])) (N + 1) (.tup [.int (i : Nat), .ref N])) { s with heap := h2, toks := tk } :=
      I1.laidN (h' := h2) (t' := tk) (fun b o q => by
        have nb : b ≠ N + 1 := fun z => by rw [z, show G.get? (N + 1) = none from gn] at q; cases q
        exact (gk b nb).symm.trans q) gn hUn new2
    refine ⟨.ref (N + 1), _, I2, by rw [hN]; rfl, ⟨N, N + 1, c, d, rfl, nN, nU, Nat.ne_of_lt (Nat.lt_succ_self N), hx, hy, rfl⟩, ⟨⟨_, he2⟩, ?_⟩, fun b hb => ?_⟩
    · obtain ⟨n1, n2, n3, n4, n5⟩ := ne
      obtain ⟨⟨f0, f1, zr, zf⟩, ti, ⟨a, b, to⟩, ⟨o1, e1, r1⟩, ⟨o2, e2, r2⟩⟩ := st1
      exact ⟨⟨f0, f1, (sb.2 _ n1.symm).trans zr, zf⟩, (sb.2 _ n2.symm).trans ti, ⟨a, b, (sb.2 _ n3.symm).trans to⟩, ⟨o1, (sb.2 _ n4.symm).trans e1, r1⟩, ⟨o2, (sb.2 _ n5.symm).trans e2, r2⟩⟩
    · have lb := low b hb
      rw [upd_ne (Nat.ne_of_lt (Nat.lt_succ_of_lt lb)), upd_ne (Nat.ne_of_lt lb)]
      exact (hf b hb).1
  done := by
    rintro X rfl rfl rfl hc i pins s σ H E I hf ⟨⟨old, he⟩, st⟩ hg
    have hd : X.A.in1.handled = none := I.ok.hd hc
    exact enz_stop hd S he st hg fun h' k => ⟨rfl, I.turnedL (t' := s.toks) (ch := [e, z, TI, TO, i1, i2]) (fun b o hb q => k b o (fun z => hb (by simp [z])) (fun z => hb (by simp [z])) q) hf⟩
  self := fun A i s Q E ⟨⟨old, he⟩, _⟩ h => wpAny_pyIter_enum he h
def iEZ (ta : TA) : TI := fun σ H R => ta σ H fun vs H1 => ∃ x y : Str, vs = [.str x, .str y] ∧ R (ItEZ x y) H1
theorem pi_ez {X : Cx} {e e2 : Expr} {ta : TA} {p p2 pos pos2 tpos : Pos} {elts : List Expr} {kk : Nat} (hge : Gl X "enumerate") (hme : X.mg "enumerate" = none) (hg : Gl X "zip") (hm : X.mg "zip" = none) (ha : PA X [e, e2] ta)
    (hs1 : starEach [Expr.Call (.Name "zip" p2) [e, e2] [] pos2] X.env = [(false, eval (.Call (.Name "zip" p2) [e, e2] [] pos2) X.env)] := by rfl)
    (hs : starEach [e, e2] X.env = (false, eval e X.env) :: starEach [e2] X.env := by rfl) (hpl : (backTo pos2 (starEach [e2] X.env)).any (·.1) = false := by rfl) :
    PI X (.Tuple elts kk tpos) (.Call (.Name "enumerate" p) [.Call (.Name "zip" p2) [e, e2] [] pos2] [] pos) (iEZ ta) := by
  refine ⟨fun pins s σ H R I h => ?_⟩
  refine Call_ (ld_blt I hge hme boot_enumerate (callWith_type1 ?_ hs1 rfl))
  rw [hs1]
  show wpAny _ _ (spliced [(false, eval (.Call (.Name "zip" p2) [e, e2] [] pos2) X.env)]) _ _ _
  refine Calls.spliced_cons ?_
  refine Call_ (ld_blt I hg hm PyProof.Rows.boot_zip (PyProof.Rows.callWith_type1 (thn (ha.run pos2 pins s σ H _ I h) fun us s1 ⟨vs, H1, I1, r1, q1⟩ => ?_) hs hpl))
  obtain ⟨x, y, ex, q⟩ := q1
  subst ex
  cases r1 with
  | cons r rr =>
    cases rr with
    | cons r' rr =>
      cases rr
      obtain ⟨t, rfl⟩ := r
      obtain ⟨t', rfl⟩ := r'
      refine zip_begins2 (begins_text x t) (begins_text y t') trivial trivial fun h' hz hTI hTO g1 g2 hsz hk => ?_
      refine Calls.spliced_nil ?_
      refine enz_made (s := { s1 with heap := h' }) hz fun h2 he k2 => wpAny_pyIter_enum he ?_
      have I2 : Inv X pins σ H1 { s1 with heap := h2 } := I1.kept (t' := s1.toks) fun b o q => k2 b o (hk b o q)
      have S := zip_sep2 (N := s1.heap.objs.size) (fp1 := []) (fp2 := []) (by simp) (by simp)
      have hsz2 : (Shared.heap { s1 with heap := h' }).objs.size = s1.heap.objs.size + 5 := hsz
      rw [hsz2] at he
      show PIE X pins σ _ R (.ref (Shared.heap { s1 with heap := h' }).objs.size) _
      rw [hsz2]
      have hfp : ∀ c, s1.heap.objs.size ≤ c → FpOk X pins H1 c := fun c hc => I1.fpOk hc (I1.hok.fresh hc)
      have ne : s1.heap.objs.size + 5 ≠ s1.heap.objs.size + 4 ∧ s1.heap.objs.size + 5 ≠ s1.heap.objs.size + 2 ∧ s1.heap.objs.size + 5 ≠ s1.heap.objs.size + 3 ∧ s1.heap.objs.size + 5 ≠ s1.heap.objs.size ∧ s1.heap.objs.size + 5 ≠ s1.heap.objs.size + 1 := by
        refine ⟨?_, ?_, ?_, ?_, ?_⟩ <;> omega
      refine ⟨s1.heap.objs.size + 5, [s1.heap.objs.size + 5, s1.heap.objs.size + 4, s1.heap.objs.size + 2, s1.heap.objs.size + 3, s1.heap.objs.size, s1.heap.objs.size + 1], _, _, H1, rfl, I2, turn_ez (t := t) (t' := t') S ne, ⟨⟨_, he⟩, ⟨⟨_, _, k2 _ _ hz, .inl rfl⟩, k2 _ _ hTI, ⟨_, _, k2 _ _ hTO⟩, ⟨_, k2 _ _ g1, rfl, rfl⟩, ⟨_, k2 _ _ g2, rfl, rfl⟩⟩⟩, fun c hcm => hfp c ?_, q⟩
      have e' : c = s1.heap.objs.size + 5 ∨ c = s1.heap.objs.size + 4 ∨ c = s1.heap.objs.size + 2 ∨ c = s1.heap.objs.size + 3 ∨ c = s1.heap.objs.size ∨ c = s1.heap.objs.size + 1 := by simpa using hcm
      rcases e' with z | z | z | z | z | z
      · rw [z]; exact Nat.le_add_right _ _
      · rw [z]; exact Nat.le_add_right _ _
      · rw [z]; exact Nat.le_add_right _ _
      · rw [z]; exact Nat.le_add_right _ _
      · rw [z]; exact Nat.le_refl _
      · rw [z]; exact Nat.le_add_right _ _
/-- enumerate(zip(x, y)) of two texts of one length -/
def pEnzSS (t : GA) : GA := fun γ Q => t γ fun xs => match xs with
  | [.str x, .str y] => x.cps.size = y.cps.size ∧ Q (enumL 0 (zipL (chars x) (chars y)))
  | _ => False
section
variable {X : Cx} {ks : List Kd} {a s : Bool} {e1 e2 : Expr} {elts : List Expr} {kk : Nat} {pa : GA} {pos pos2 p0 p2 tpos : Pos}
theorem qi_enzSS (hge : Gl X "enumerate") (hme : X.mg "enumerate" = none) (hg : Gl X "zip") (hm : X.mg "zip" = none) (h : QA X ks a s [e1, e2] pa)
    (hs1 : starEach [Expr.Call (.Name "zip" p2) [e1, e2] [] pos2] X.env = [(false, eval (.Call (.Name "zip" p2) [e1, e2] [] pos2) X.env)] := by rfl)
    (hs : starEach [e1, e2] X.env = (false, eval e1 X.env) :: starEach [e2] X.env := by rfl) (hpl : (backTo pos2 (starEach [e2] X.env)).any (·.1) = false := by rfl) :
    QI X ks true (.Tuple elts kk tpos) (.Call (.Name "enumerate" p0) [.Call (.Name "zip" p2) [e1, e2] [] pos2] [] pos) (pEnzSS pa) :=
  PIi (pi_ez hge hme hg hm h hs1 hs hpl) fun σ H R ⟨E, L, γ, Qp, hK, Rl, hp, k⟩ => by
    refine ⟨E, L, γ, _, hK, Rl, hp, fun xs vs H1 q1 x1 r1 l1 => ?_⟩
    match xs, r1, l1, q1 with
    | [_, _], .cons r1 (.cons r2 .nil), l0, q1 =>
      cases r1 <;> cases r2 <;> first | exact q1.elim | skip
      rename_i x y
      have hx : (chars x).length = x.cps.size := by simp [chars]
      have hy : (chars y).length = y.cps.size := by simp [chars]
      have hxy : x.cps.size = y.cps.size := q1.1
      refine ⟨x, y, rfl, k _ _ H1 q1.2 x1 ⟨fun _ _ => True, trivial, fun _ _ _ _ _ _ => trivial, fun i L H h hi => ?_, fun i L H h hi => ?_⟩⟩
      · rw [enumL_len, zipL_len, hx, hy] at hi
        refine ⟨⟨by omega, by omega⟩, fun v H' ⟨T, U, c, d, e1, nT, nU, ne, e2, e3, e4⟩ => ?_⟩
        subst e1; subst e4
        have nU' : upd H T (.tup [.str ⟨#[c]⟩, .str ⟨#[d]⟩]) U = none := by rw [upd_ne ne.symm]; exact nU
        refine ⟨Ex.trans (.new nT) (.new nU'), _, enumL_at 0 _ i (zipL_at (chars x) (chars y) i (x := .str ⟨#[c]⟩) (y := .str ⟨#[d]⟩) (by simp [chars, e2]) (by simp [chars, e3])), ?_⟩
        rw [Nat.zero_add]
        exact Rp.newT (.cons (.int _) (.cons (Rp.newT (.cons (.str _) (.cons (.str _) .nil)) av_q nT) .nil)) av_q nU'
      · rw [enumL_len, zipL_len, hx, hy] at hi
        show x.cps.size ≤ i
        omega
    | [], _, l, _ => simp at l
    | [_], _, l, _ => simp at l
    | _ :: _ :: _ :: _, _, l, _ => simp at l
end
end Vl
namespace Lw
open PySem PySem.Spec L2 Lb Vl
noncomputable def p_law_many : GS := (pRet (pOp oIx (pLst (pCons (pCall w_law_take [] (pCons (pVar 0) (pCons (pC (.int 4)) pNil))) (pCons (pCall w_law_take [] (pCons (pVar 0) (pCons (pC (.int 9)) pNil))) (pCons (pCall w_law_take [] (pCons (pVar 0) (pCons (pC (.int 121)) pNil))) (pCons (pC (.int 120)) (pCons (pC (.int 1)) pNil)))))) (pCall w_law_take [] (pCons (pVar 0) (pCons (pC (.int 5)) pNil)))))
theorem x_law_many : ∃ v : Vl.PW, v = xF 1 p_law_many := ⟨_, rfl⟩
@[irreducible] noncomputable def w_law_many : Vl.PW := Classical.choose x_law_many
theorem e_law_many : w_law_many = xF 1 p_law_many := by unfold w_law_many; exact Classical.choose_spec x_law_many
noncomputable def p_law_gapped : GS := (pSeq (xSet 2 (pOp oIx (pLst (pCons (pC (.str "abcdefghijklmnopqrstuvwxyz")) (pCons (pC (.str "ab--")) (pCons (pC (.str "z-")) (pCons (pC (.str "a")) pNil))))) (pCall w_law_take [] (pCons (pVar 0) (pCons (pC (.int 4)) pNil)))))
  (pRet (pJoin (pC (.str "")) (yLc [3] (pRng (pVar 1)) (xgName 3) pYes (pOp oIx (pVar 2) (pCall w_law_take [] (pCons (pVar 0) (pCons (pCB bLen (pCons (pVar 2) pNil)) pNil))))))))
theorem x_law_gapped : ∃ v : Vl.PW, v = xF 4 p_law_gapped := ⟨_, rfl⟩
@[irreducible] noncomputable def w_law_gapped : Vl.PW := Classical.choose x_law_gapped
theorem e_law_gapped : w_law_gapped = xF 4 p_law_gapped := by unfold w_law_gapped; exact Classical.choose_spec x_law_gapped
noncomputable def p_law_pair : GS := (pSeq (xSet 1 (pCall w_law_many [] (pCons (pVar 0) pNil)))
  (pSeq (xPar 2 3 (pCons (pCall w_law_gapped [] (pCons (pVar 0) (pCons (pVar 1) pNil))) (pCons (pCall w_law_gapped [] (pCons (pVar 0) (pCons (pVar 1) pNil))) pNil)))
  (pSeq (xSet 4 (pC (.str "")))
  (pSeq (yFor (pZipSS (pCons (pVar 2) (pCons (pVar 3) pNil))) (pgTup (pgsCons (xgName 5) (pgsCons (xgName 6) pgsNil))) (xSet 4 (pOp oAdd (pVar 4) (pIfE (pAnd (pTest (pOp oEq (pVar 5) (pC (.str "-")))) (pTest (pOp oEq (pVar 6) (pC (.str "-"))))) (pC (.str "q")) (pVar 6)))))
  (pSeq (yFor (pRng (pOp oMul (pOp oIx (pLst (pCons (pC (.int 0)) (pCons (pC (.int 0)) (pCons (pC (.int 1)) (pCons (pC (.int 3)) pNil))))) (pCall w_law_take [] (pCons (pVar 0) (pCons (pC (.int 4)) pNil)))) (pCB bInt (pCons (pOp oGt (pVar 1) (pC (.int 0))) pNil)))) (xgName 7) (pSeq (xSet 8 (pCall w_law_take [] (pCons (pVar 0) (pCons (pVar 1) pNil))))
  (pSeq (xSet 2 (pOp oAdd (pOp oAdd (pSl (pVar 2) pNoPart (pPart (pVar 8))) (pC (.str "-"))) (pSl (pVar 2) (pPart (pOp oAdd (pVar 8) (pC (.int 1)))) pNoPart)))
  (xSet 4 (pOp oAdd (pOp oAdd (pSl (pVar 4) pNoPart (pPart (pVar 8))) (pC (.str "-"))) (pSl (pVar 4) (pPart (pOp oAdd (pVar 8) (pC (.int 1)))) pNoPart))))))
  (pRet (pTup (pCons (pVar 2) (pCons (pVar 4) pNil)))))))))
theorem x_law_pair : ∃ v : Vl.PW, v = xF 9 p_law_pair := ⟨_, rfl⟩
@[irreducible] noncomputable def w_law_pair : Vl.PW := Classical.choose x_law_pair
theorem e_law_pair : w_law_pair = xF 9 p_law_pair := by unfold w_law_pair; exact Classical.choose_spec x_law_pair
noncomputable def p_law_due : GS := (pSeq (pIf (pTest (pOp oNe (pCB bLen (pCons (pVar 0) pNil)) (pCB bLen (pCons (pVar 1) pNil)))) (pRet (pTup (pCons (pC (.str "unlike")) (pCons (pC .non) pNil)))) pNext)
  (pSeq (xSet 2 (pC (.str "")))
  (pSeq (yFor (pRng (pCB bLen (pCons (pVar 0) pNil))) (xgName 3) (pSeq (pIf (pAnd (pTest (pOp oEq (pOp oIx (pVar 0) (pVar 3)) (pC (.str "-")))) (pTest (pOp oEq (pOp oIx (pVar 1) (pVar 3)) (pC (.str "-"))))) (pRet (pTup (pCons (pC (.str "bare")) (pCons (pVar 3) pNil)))) pNext)
  (xSet 2 (pOp oAdd (pVar 2) (pIfE (pTest (pOp oEq (pOp oIx (pVar 0) (pVar 3)) (pC (.str "-")))) (pC (.str "u")) (pIfE (pTest (pOp oEq (pOp oIx (pVar 1) (pVar 3)) (pC (.str "-")))) (pC (.str "o")) (pC (.str "b"))))))))
  (pRet (pTup (pCons (pC (.str "told")) (pCons (pVar 2) pNil)))))))
theorem x_law_due : ∃ v : Vl.PW, v = xF 4 p_law_due := ⟨_, rfl⟩
@[irreducible] noncomputable def w_law_due : Vl.PW := Classical.choose x_law_due
theorem e_law_due : w_law_due = xF 4 p_law_due := by unfold w_law_due; exact Classical.choose_spec x_law_due
noncomputable def p_law_odd : GS := (pSeq (xSet 1 (pLst (pCons (pC (.str "A")) (pCons (pOp oMul (pC (.str "a")) (pC (.int 121))) (pCons (pOp oMul (pC (.str "-")) (pC (.int 121))) (pCons (pC (.str "a b")) (pCons (pC (.str "a.")) (pCons (pC .non) (pCons (pC (.int 5)) (pCons (pLst (pCons (pC (.str "a")) pNil)) (pCons (pTup (pCons (pC (.str "a")) (pCons (pC (.str "-")) pNil))) (pCons (pC (.bl true)) (pCons (pC (.dK [])) (pCons (pC (.str "a_b")) (pCons (pC (.str "\n")) (pCons (pC (.str "a1")) pNil))))))))))))))))
  (pRet (pOp oIx (pVar 1) (pCall w_law_take [] (pCons (pVar 0) (pCons (pCB bLen (pCons (pVar 1) pNil)) pNil))))))
theorem x_law_odd : ∃ v : Vl.PW, v = xF 2 p_law_odd := ⟨_, rfl⟩
@[irreducible] noncomputable def w_law_odd : Vl.PW := Classical.choose x_law_odd
theorem e_law_odd : w_law_odd = xF 2 p_law_odd := by unfold w_law_odd; exact Classical.choose_spec x_law_odd
noncomputable def p_is_text_of : GS := (pSeq (pIf (pOr (pNot (pTru (pCB bIs (pCons (pVar 0) (pCons (pC (.ty .str)) pNil))))) (pNot (pTest (pChain oLe oLe (pVar 2) (pCB bLen (pCons (pVar 0) pNil)) (pVar 3))))) (pRet (pC (.bl false))) pNext)
  (pRet (pCB (bBs allB) (pCons (xLc [4] (pItS (pVar 0)) (xgName 4) pYes (pOp (oIn false) (pVar 4) (pVar 1))) pNil))))
theorem x_is_text_of : ∃ v : Vl.PW, v = xF 5 p_is_text_of := ⟨_, rfl⟩
@[irreducible] noncomputable def w_is_text_of : Vl.PW := Classical.choose x_is_text_of
theorem e_is_text_of : w_is_text_of = xF 5 p_is_text_of := by unfold w_is_text_of; exact Classical.choose_spec x_is_text_of
noncomputable def p_is_gapped : GS := (pRet (pCall w_is_text_of [] (pCons (pVar 0) (pCons (pOp oAdd (pC (.str "abcdefghijklmnopqrstuvwxyz")) (pC (.str "-"))) (pCons (pC (.int 0)) (pCons (pC (.int 120)) pNil))))))
theorem x_is_gapped : ∃ v : Vl.PW, v = xF 1 p_is_gapped := ⟨_, rfl⟩
@[irreducible] noncomputable def w_is_gapped : Vl.PW := Classical.choose x_is_gapped
theorem e_is_gapped : w_is_gapped = xF 1 p_is_gapped := by unfold w_is_gapped; exact Classical.choose_spec x_is_gapped
noncomputable def p_path_between_X : GSX := (sSeq (sIf (pNot (pTru (pCall w_is_gapped [] (pCons (pVar 0) pNil)))) (sRaise "Wrong" (pC (.int 0))) sNext)
  (sSeq (sIf (pNot (pTru (pCall w_is_gapped [] (pCons (pVar 1) pNil)))) (sRaise "Wrong" (pC (.int 1))) sNext)
  (sSeq (sIf (pTest (pOp oNe (pCB bLen (pCons (pVar 0) pNil)) (pCB bLen (pCons (pVar 1) pNil)))) (sRaise0 "Unlike") sNext)
  (sSeq (oX (xSet 2 (pLst pNil)))
  (sSeq (sFor (pEnzSS (pCons (pVar 0) (pCons (pVar 1) pNil))) (pgTup (pgsCons (xgName 3) (pgsCons (pgTup (pgsCons (xgName 4) (pgsCons (xgName 5) pgsNil))) pgsNil))) (sSeq (sIf (pAnd (pTest (pOp oEq (pVar 4) (pC (.str "-")))) (pTest (pOp oEq (pVar 5) (pC (.str "-"))))) (sRaise "Bare" (pVar 3)) sNext)
  (oX (pIf (pTest (pOp oEq (pVar 4) (pC (.str "-")))) (xApp 2 (pC (.str "u"))) (xApp 2 (pIfE (pTest (pOp oEq (pVar 5) (pC (.str "-")))) (pC (.str "o")) (pC (.str "b"))))))))
  (oX (pRet (pJoin (pC (.str "")) (pVar 2)))))))))
theorem x_path_between_X : ∃ v : Vl.PWX, v = xFX 6 p_path_between_X := ⟨_, rfl⟩
@[irreducible] noncomputable def w_path_between_X : Vl.PWX := Classical.choose x_path_between_X
theorem e_path_between_X : w_path_between_X = xFX 6 p_path_between_X := by unfold w_path_between_X; exact Classical.choose_spec x_path_between_X
noncomputable def p_law_told : GS := (pTry 2 ["Bare", "Unlike", "Wrong"] (sRet (eXTup (aXCons (eX (pC (.str "told"))) (aXCons (eXCall w_path_between_X [] (pCons (pVar 0) (pCons (pVar 1) pNil))) aXNil)))) (fun c => (pSeq (xSet 3 (pLst (pCons (pIsX 2 (exSub c "Wrong")) (pCons (pIsX 2 (exSub c "Unlike")) (pCons (pIsX 2 (exSub c "Bare")) (pCons (pIsX 2 ((["NoLetter", "NoPlace"] : List Str).any (exSub c))) pNil))))))
  (pSeq (pIf (pOr (pNot (pTru (pIsX 2 true))) (pOr (pTest (pOp oNe (pLB fCount (pVar 3) (pCons (pC (.bl true)) pNil)) (pC (.int 1)))) (pTru (pOp oIx (pVar 3) (pC (.int 3)))))) (pRet (pTup (pCons (pC (.str "other")) (pCons (pC .non) pNil)))) pNext)
  (pRet (pIfE (pTru (pOp oIx (pVar 3) (pC (.int 1)))) (pTup (pCons (pC (.str "unlike")) (pCons (pC .non) pNil))) (pTup (pCons (pOp oIx (pLst (pCons (pC (.str "wrong")) (pCons (pC (.str "")) (pCons (pC (.str "bare")) pNil)))) (pLB fIndex (pVar 3) (pCons (pC (.bl true)) pNil))) (pCons (pExF 2 c "at") pNil)))))))))
theorem x_law_told : ∃ v : Vl.PW, v = xF 4 p_law_told := ⟨_, rfl⟩
@[irreducible] noncomputable def w_law_told : Vl.PW := Classical.choose x_law_told
theorem e_law_told : w_law_told = xF 4 p_law_told := by unfold w_law_told; exact Classical.choose_spec x_law_told
noncomputable def p_law_alike : GS := (pRet (pAndV (pOp oEq (pVar 0) (pVar 1)) (pOp oEqS (pCB bRepr (pCons (pVar 0) pNil)) (pCB bRepr (pCons (pVar 1) pNil)))))
theorem x_law_alike : ∃ v : Vl.PW, v = xF 2 p_law_alike := ⟨_, rfl⟩
@[irreducible] noncomputable def w_law_alike : Vl.PW := Classical.choose x_law_alike
theorem e_law_alike : w_law_alike = xF 2 p_law_alike := by unfold w_law_alike; exact Classical.choose_spec x_law_alike
noncomputable def p_law : GS := (pSeq (yFor (pRng (pC (.int 6))) (xgName 2) (pSeq (pAsg (pCall w_law_pair [] (pCons (pVar 1) pNil)) (pgTup (pgsCons (xgName 3) (pgsCons (xgName 4) pgsNil))))
  (jSeq (pIf (pTest (pOp oEq (pCall w_law_take [] (pCons (pVar 1) (pCons (pC (.int 5)) pNil))) (pC (.int 0)))) (xSet 4 (pSl (pOp oAdd (pSl (pVar 4) pNoPart (pPart (pCall w_law_take [] (pCons (pVar 1) (pCons (pOp oAdd (pCB bLen (pCons (pVar 4) pNil)) (pC (.int 1))) pNil))))) (pCall w_law_gapped [] (pCons (pVar 1) (pCons (pCall w_law_take [] (pCons (pVar 1) (pCons (pC (.int 3)) pNil))) pNil)))) pNoPart (pPart (pC (.int 120))))) pNext)
  (pSeq (xSet 5 (pCall w_law_due [] (pCons (pVar 3) (pCons (pVar 4) pNil))))
  (pSeq (xSet 6 (pLst (pCons (pVar 3) (pCons (pVar 4) pNil))))
  (pSeq (xSet 7 (pCall w_law_take [] (pCons (pVar 1) (pCons (pC (.int 6)) pNil))))
  (jSeq (pIf (pTest (pOp oLt (pVar 7) (pC (.int 2)))) (pSeq (xSetIx 6 (pVar 7) (pCall w_law_odd [] (pCons (pVar 1) pNil)))
  (jSeq (pIf (pAnd (pTest (pOp oEq (pVar 7) (pC (.int 0)))) (pTest (pOp oEq (pCall w_law_take [] (pCons (pVar 1) (pCons (pC (.int 2)) pNil))) (pC (.int 0))))) (xSetIx 6 (pC (.int 1)) (pCall w_law_odd [] (pCons (pVar 1) pNil))) pNext)
  (xSet 5 (pTup (pCons (pC (.str "wrong")) (pCons (pVar 7) pNil)))))) pNext)
  (pSeq (yFor (pRng (pOp oAdd (pC (.int 1)) (pCall w_law_take [] (pCons (pVar 1) (pCons (pC (.int 2)) pNil))))) (xgName 8) (pIf (pNot (pTru (pCall w_law_alike [] (pCons (pCall w_law_told [] (pCons (pOp oIx (pVar 6) (pC (.int 0))) (pCons (pOp oIx (pVar 6) (pC (.int 1))) pNil))) (pCons (pVar 5) pNil))))) (pRet (pC (.bl false))) pNext))
  (pIf (pNot (pTru (pCall w_law_alike [] (pCons (pCall w_law_told [] (pCons (pC (.str "a-")) (pCons (pC (.str "ba")) pNil))) (pCons (pTup (pCons (pC (.str "told")) (pCons (pC (.str "bu")) pNil))) pNil))))) (pRet (pC (.bl false))) pNext)))))))))
  (pRet (pC (.bl true))))
def topS (i : Nat) : Stmt := PySem.Challenge.pw_laybeside_k28_between_refused.main.body.getD i (.Pass ⟨0, 0, 0, 0⟩)
structure Tx (K : Vl.Fg) (mg : Str → Option Value) : Prop where
  e_Bare : RaiC K "Bare"
  e_Unlike : RaiC K "Unlike"
  e_Wrong : RaiC K "Wrong"
  f_ValueError : mg "ValueError" = none
  f_abs : mg "abs" = none
  f_all : mg "all" = none
  f_enumerate : mg "enumerate" = none
  f_int : mg "int" = none
  f_isinstance : mg "isinstance" = none
  f_len : mg "len" = none
  f_range : mg "range" = none
  f_repr : mg "repr" = none
  f_str : mg "str" = none
  f_zip : mg "zip" = none
  g_GAP_kinds : GV K mg "GAP_kinds" (.str "-")
  g_GAP_paths : GV K mg "GAP_paths" (.str "-")
  g_LETTERS : GV K mg "LETTERS" (.str "abcdefghijklmnopqrstuvwxyz")
  g_LONGEST_PATH : GV K mg "LONGEST_PATH" (.int 120)
  h_Bare_Unlike_Wrong : ∀ c, c ∈ (["Bare", "Unlike", "Wrong"] : List PySem.Str) → HanC K c
  i_Bare_Unlike_Wrong__Bare : ∀ c, c ∈ (["Bare", "Unlike", "Wrong"] : List PySem.Str) → PySem.W.kitOne K (.ref (He.ga K c)) (.ref (He.ga K "Bare")) = some (exSub c "Bare")
  i_Bare_Unlike_Wrong__NoLetter : ∀ c, c ∈ (["Bare", "Unlike", "Wrong"] : List PySem.Str) → PySem.W.kitOne K (.ref (He.ga K c)) (.ref (He.ga K "NoLetter")) = some (exSub c "NoLetter")
  i_Bare_Unlike_Wrong__NoPlace : ∀ c, c ∈ (["Bare", "Unlike", "Wrong"] : List PySem.Str) → PySem.W.kitOne K (.ref (He.ga K c)) (.ref (He.ga K "NoPlace")) = some (exSub c "NoPlace")
  i_Bare_Unlike_Wrong__Unlike : ∀ c, c ∈ (["Bare", "Unlike", "Wrong"] : List PySem.Str) → PySem.W.kitOne K (.ref (He.ga K c)) (.ref (He.ga K "Unlike")) = some (exSub c "Unlike")
  i_Bare_Unlike_Wrong__Wrong : ∀ c, c ∈ (["Bare", "Unlike", "Wrong"] : List PySem.Str) → PySem.W.kitOne K (.ref (He.ga K c)) (.ref (He.ga K "Wrong")) = some (exSub c "Wrong")
  l_LayError : LayC K (He.ga K "LayError")
  m_Bare_Unlike_Wrong__LayError : ∀ c, c ∈ (["Bare", "Unlike", "Wrong"] : List PySem.Str) → PySem.W.exmOne K (.ref (He.ga K c)) (.ref (He.ga K "LayError")) = some true
  n_Bare_Unlike_Wrong__at : ∀ c, c ∈ (["Bare", "Unlike", "Wrong"] : List PySem.Str) → PySem.W.findIn K (.ref (He.ga K c)) "at" = some none
  r_Bare : mg "Bare" = some (.ref (He.ga K "Bare"))
  r_LayError : mg "LayError" = some (.ref (He.ga K "LayError"))
  r_NoLetter : mg "NoLetter" = some (.ref (He.ga K "NoLetter"))
  r_NoPlace : mg "NoPlace" = some (.ref (He.ga K "NoPlace"))
  r_Unlike : mg "Unlike" = some (.ref (He.ga K "Unlike"))
  r_Wrong : mg "Wrong" = some (.ref (He.ga K "Wrong"))
  t_Bare_Unlike_Wrong__ValueError : ∀ c, c ∈ (["Bare", "Unlike", "Wrong"] : List PySem.Str) → PySem.W.kitOne K (.ref (He.ga K c)) (.type "ValueError") = some true
section
variable {P : Program} {w : World} {K : Vl.Fg} {mg : Str → Option Value} {base : Heap}
abbrev s_law_take : Stmt := topS 18
theorem sc_law_take : FnScope ["_law_bag_here", "_law_many_here", "_law_cell", "_law_value", "_law_first", "_law_second"] ["_law_bag_here", "_law_many_here"] (defScope s_law_take) := ⟨rfl, rfl, rfl, by decide +kernel, rfl, by decide +kernel, by decide +kernel⟩
abbrev s_law_many : Stmt := topS 21
theorem sc_law_many : FnScope ["_law_bag_here"] ["_law_bag_here"] (defScope s_law_many) := ⟨rfl, rfl, rfl, by decide +kernel, rfl, by decide +kernel, by decide +kernel⟩
theorem q_law_many (T : Tx K mg) (c_law_take : Cal P w K mg base "_law_take" 1 ["_law_bag_here", "_law_many_here"] (spF 2 w_law_take K) []) {f : Addr} {cdv : Value} {A : Around} {outer : List Env} {s : Shared} {H : Hp} {E : XK} (hr : Room 1 (A.deeper (PyProof.Rows.envOfC "_law_many" (defScope s_law_many) s.heap.objs.size f cdv))) : QB (cxOf CX0 P w K mg base ["_law_bag_here"] "_law_many" (defScope s_law_many) f cdv A outer s H E).nox [.bor] [.bor] [.bor] (defBody s_law_many) p_law_many := by
  exact (qb_one (qs_ret (qe_ix (qe_lst (qa_cons (qe_calF c_law_take dfl_nil (hr.mono (j := 1) (by decide)) (by rfl) (qa_cons (qe_v 0 (pv 0)) (qa_cons qe_int qa_nil))) (qa_cons (qe_calF c_law_take dfl_nil (hr.mono (j := 1) (by decide)) (by rfl) (qa_cons (qe_v 0 (pv 0)) (qa_cons qe_int qa_nil))) (qa_cons (qe_calF c_law_take dfl_nil (hr.mono (j := 1) (by decide)) (by rfl) (qa_cons (qe_v 0 (pv 0)) (qa_cons qe_int qa_nil))) (qa_cons qe_int (qa_cons qe_int qa_nil)))))) (qe_calF c_law_take dfl_nil (hr.mono (j := 1) (by decide)) (by rfl) (qa_cons (qe_v 0 (pv 0)) (qa_cons qe_int qa_nil))))))
theorem ok_law_many (T : Tx K mg) (c_law_take : Cal P w K mg base "_law_take" 1 ["_law_bag_here", "_law_many_here"] (spF 2 w_law_take K) []) {f : Addr} {fd : FuncData} (F : FunD K "_law_many" "_law_many" (defArgs s_law_many) (defBody s_law_many) (defScope s_law_many) [] [] f fd) : FnOk P w K mg base CX0 2 f fd ["_law_bag_here"] (spF 1 w_law_many K) := by
  refine F.ok sc_law_many (fun vs H Q E h => len_F h) (fun cdv A outer s H vs Q E hr h => ?_)
  have hq := q_law_many (P := P) (w := w) (base := base) (E := E) (H := H) (outer := outer) T c_law_take hr
  rw [e_law_many, xF_eq] at h
  obtain ⟨t, h1, h2⟩ := body_F (N := ["_law_bag_here"]) (n := 1) hq rfl (by decide) h
  exact ⟨t, PSs.nox h1, h2⟩
abbrev s_law_gapped : Stmt := topS 20
theorem sc_law_gapped : FnScope ["_law_bag_here", "_law_many_here", "_law_letters", "_law_k"] ["_law_bag_here", "_law_many_here"] (defScope s_law_gapped) := ⟨rfl, rfl, rfl, by decide +kernel, rfl, by decide +kernel, by decide +kernel⟩
theorem q_law_gapped (T : Tx K mg) (c_law_take : Cal P w K mg base "_law_take" 1 ["_law_bag_here", "_law_many_here"] (spF 2 w_law_take K) []) {f : Addr} {cdv : Value} {A : Around} {outer : List Env} {s : Shared} {H : Hp} {E : XK} (hr : Room 1 (A.deeper (PyProof.Rows.envOfC "_law_gapped" (defScope s_law_gapped) s.heap.objs.size f cdv))) : QB (cxOf CX0 P w K mg base ["_law_bag_here", "_law_many_here", "_law_letters", "_law_k"] "_law_gapped" (defScope s_law_gapped) f cdv A outer s H E).nox [.bor, .bor, .sh, .sh] [.bor, .bor, .sh, .sh] [.bor, .bor, .sh, .sh] (defBody s_law_gapped) p_law_gapped := by
  exact (qb_cons (xs_setG (i := 2) (fun h => ps_set (i := 2) sc_law_gapped.nd rfl (by first | exact Or.inl rfl | exact Or.inr rfl) h) (qe_ix (qe_lst (qa_cons qe_str (qa_cons qe_str (qa_cons qe_str (qa_cons qe_str qa_nil))))) (qe_calF c_law_take dfl_nil (hr.mono (j := 1) (by decide)) (by rfl) (qa_cons (qe_v 0 (pv 0)) (qa_cons qe_int qa_nil)))))
  (qb_one (qs_ret (qe_join qe_str (yq_lc (xe_lc (own := [("_law_k", 3)]) (fun hi hg ht he => pe_lc (own := [("_law_k", 3)]) (by rfl) sc_law_gapped.nd hi (blkOk_by (own := [("_law_k", 3)]) (by kernel_rfl)) hg ht he) (qi_rng (by rfl) T.f_range (qe_v 1 (pv 1))) (fun _ _ _ _ _ => (xq_name (i := 3) (pg_name (i := 3) sc_law_gapped.nd rfl (by first | exact Or.inl rfl | exact Or.inr rfl)))) (fun _ _ _ _ _ => by exact qts_nil) (fun _ _ _ _ _ => by exact (qe_ix (qe_v 2 (pv 2)) (qe_calF c_law_take dfl_nil (hr.mono (j := 1) (by decide)) (by rfl) (qa_cons (qe_v 0 (pv 0)) (qa_cons (qe_cbS len_ok call_lenA T.f_len (by rfl) (by decide +kernel) (qa_cons (qe_v 2 (pv 2)) qa_nil)) qa_nil)))))))))))
theorem ok_law_gapped (T : Tx K mg) (c_law_take : Cal P w K mg base "_law_take" 1 ["_law_bag_here", "_law_many_here"] (spF 2 w_law_take K) []) {f : Addr} {fd : FuncData} (F : FunD K "_law_gapped" "_law_gapped" (defArgs s_law_gapped) (defBody s_law_gapped) (defScope s_law_gapped) [] [] f fd) : FnOk P w K mg base CX0 2 f fd ["_law_bag_here", "_law_many_here"] (spF 2 w_law_gapped K) := by
  refine F.ok sc_law_gapped (fun vs H Q E h => len_F h) (fun cdv A outer s H vs Q E hr h => ?_)
  have hq := q_law_gapped (P := P) (w := w) (base := base) (E := E) (H := H) (outer := outer) T c_law_take hr
  rw [e_law_gapped, xF_eq] at h
  obtain ⟨t, h1, h2⟩ := body_F (N := ["_law_bag_here", "_law_many_here", "_law_letters", "_law_k"]) (n := 2) hq rfl (by decide) h
  exact ⟨t, PSs.nox h1, h2⟩
abbrev s_law_pair : Stmt := topS 22
theorem sc_law_pair : FnScope ["_law_bag_here", "_law_many_here", "_law_one", "_law_other", "_law_found", "_law_sign", "_law_behind", "_law_k", "_law_at"] ["_law_bag_here"] (defScope s_law_pair) := ⟨rfl, rfl, rfl, by decide +kernel, rfl, by decide +kernel, by decide +kernel⟩
theorem q_law_pair (T : Tx K mg) (c_law_many : Cal P w K mg base "_law_many" 2 ["_law_bag_here"] (spF 1 w_law_many K) []) (c_law_gapped : Cal P w K mg base "_law_gapped" 2 ["_law_bag_here", "_law_many_here"] (spF 2 w_law_gapped K) []) (c_law_take : Cal P w K mg base "_law_take" 1 ["_law_bag_here", "_law_many_here"] (spF 2 w_law_take K) []) {f : Addr} {cdv : Value} {A : Around} {outer : List Env} {s : Shared} {H : Hp} {E : XK} (hr : Room 2 (A.deeper (PyProof.Rows.envOfC "_law_pair" (defScope s_law_pair) s.heap.objs.size f cdv))) : QB (cxOf CX0 P w K mg base ["_law_bag_here", "_law_many_here", "_law_one", "_law_other", "_law_found", "_law_sign", "_law_behind", "_law_k", "_law_at"] "_law_pair" (defScope s_law_pair) f cdv A outer s H E).nox [.bor, .sh, .sh, .sh, .sh, .sh, .sh, .sh, .sh] [.bor, .sh, .sh, .sh, .sh, .sh, .sh, .sh, .sh] [.bor, .sh, .sh, .sh, .sh, .sh, .sh, .sh, .sh] (defBody s_law_pair) p_law_pair := by
  exact (qb_cons (xs_setG (i := 1) (fun h => ps_set (i := 1) sc_law_pair.nd rfl (by first | exact Or.inl rfl | exact Or.inr rfl) h) (qe_calF c_law_many dfl_nil (hr.mono (j := 2) (by decide)) (by rfl) (qa_cons (qe_v 0 (pv 0)) qa_nil)))
  (qb_cons (xs_par (i := 2) (j := 3) (fun h => ps_par (by rfl) sc_law_pair.nd rfl rfl (by decide) rfl rfl h (by rfl)) (qa_cons (qe_calF c_law_gapped dfl_nil (hr.mono (j := 2) (by decide)) (by rfl) (qa_cons (qe_v 0 (pv 0)) (qa_cons (qe_v 1 (pv 1)) qa_nil))) (qa_cons (qe_calF c_law_gapped dfl_nil (hr.mono (j := 2) (by decide)) (by rfl) (qa_cons (qe_v 0 (pv 0)) (qa_cons (qe_v 1 (pv 1)) qa_nil))) qa_nil)))
  (qb_cons (xs_setG (i := 4) (fun h => ps_set (i := 4) sc_law_pair.nd rfl (by first | exact Or.inl rfl | exact Or.inr rfl) h) qe_str)
  (qb_cons (yq_for (qs_for (js := [5, 6]) (fun h1 h2 h3 => ps_for PassesOwn.never rfl h1 h2 h3) (qi_zipSS (by rfl) T.f_zip (qa_cons (qe_v 2 (pv 2)) (qa_cons (qe_v 3 (pv 3)) qa_nil))) (qg_tup (by rfl) (qgs_cons (xq_name (i := 5) (pg_name (i := 5) sc_law_pair.nd rfl (by first | exact Or.inl rfl | exact Or.inr rfl))) (qgs_cons (xq_name (i := 6) (pg_name (i := 6) sc_law_pair.nd rfl (by first | exact Or.inl rfl | exact Or.inr rfl))) qgs_nil)) (ml_cons xmg_name (ml_cons xmg_name ml_nil))) (qb_one (xs_setG (i := 4) (fun h => ps_set (i := 4) sc_law_pair.nd rfl (by first | exact Or.inl rfl | exact Or.inr rfl) h) (qe_add (qe_v 4 (pv 4)) (qe_ifE (qt_w (qw_and (qt_eq (hr.units) (qe_v 5 (pv 5)) qe_str) (qw_and1 (qt_eq (hr.units) (qe_v 6 (pv 6)) qe_str)))) qe_str (qe_v 6 (pv 6))))))))
  (qb_cons (yq_for (qs_for (js := [7]) (fun h1 h2 h3 => ps_for PassesOwn.never rfl h1 h2 h3) (qi_rng (by rfl) T.f_range (qe_mul (qe_ix (qe_lst (qa_cons qe_int (qa_cons qe_int (qa_cons qe_int (qa_cons qe_int qa_nil))))) (qe_calF c_law_take dfl_nil (hr.mono (j := 1) (by decide)) (by rfl) (qa_cons (qe_v 0 (pv 0)) (qa_cons qe_int qa_nil)))) (qe_ctS int_ok call_int1A T.f_int (by rfl) (by decide +kernel) (qa_cons (qe_gt  (qe_v 1 (pv 1)) qe_int) qa_nil)))) (xq_name (i := 7) (pg_name (i := 7) sc_law_pair.nd rfl (by first | exact Or.inl rfl | exact Or.inr rfl))) (qb_cons (xs_setG (i := 8) (fun h => ps_set (i := 8) sc_law_pair.nd rfl (by first | exact Or.inl rfl | exact Or.inr rfl) h) (qe_calF c_law_take dfl_nil (hr.mono (j := 1) (by decide)) (by rfl) (qa_cons (qe_v 0 (pv 0)) (qa_cons (qe_v 1 (pv 1)) qa_nil))))
  (qb_cons (xs_setG (i := 2) (fun h => ps_set (i := 2) sc_law_pair.nd rfl (by first | exact Or.inl rfl | exact Or.inr rfl) h) (qe_add (qe_add (qe_sl (qe_v 2 (pv 2)) qo_none (qo_some (qe_v 8 (pv 8)))) qe_str) (qe_sl (qe_v 2 (pv 2)) (qo_some (qe_add (qe_v 8 (pv 8)) qe_int)) qo_none)))
  (qb_one (xs_setG (i := 4) (fun h => ps_set (i := 4) sc_law_pair.nd rfl (by first | exact Or.inl rfl | exact Or.inr rfl) h) (qe_add (qe_add (qe_sl (qe_v 4 (pv 4)) qo_none (qo_some (qe_v 8 (pv 8)))) qe_str) (qe_sl (qe_v 4 (pv 4)) (qo_some (qe_add (qe_v 8 (pv 8)) qe_int)) qo_none))))))))
  (qb_one (qs_ret (qe_tup (qa_cons (qe_v 2 (pv 2)) (qa_cons (qe_v 4 (pv 4)) qa_nil))))))))))
theorem ok_law_pair (T : Tx K mg) (c_law_many : Cal P w K mg base "_law_many" 2 ["_law_bag_here"] (spF 1 w_law_many K) []) (c_law_gapped : Cal P w K mg base "_law_gapped" 2 ["_law_bag_here", "_law_many_here"] (spF 2 w_law_gapped K) []) (c_law_take : Cal P w K mg base "_law_take" 1 ["_law_bag_here", "_law_many_here"] (spF 2 w_law_take K) []) {f : Addr} {fd : FuncData} (F : FunD K "_law_pair" "_law_pair" (defArgs s_law_pair) (defBody s_law_pair) (defScope s_law_pair) [] [] f fd) : FnOk P w K mg base CX0 3 f fd ["_law_bag_here"] (spF 1 w_law_pair K) := by
  refine F.ok sc_law_pair (fun vs H Q E h => len_F h) (fun cdv A outer s H vs Q E hr h => ?_)
  have hq := q_law_pair (P := P) (w := w) (base := base) (E := E) (H := H) (outer := outer) T c_law_many c_law_gapped c_law_take hr
  rw [e_law_pair, xF_eq] at h
  obtain ⟨t, h1, h2⟩ := body_F (N := ["_law_bag_here", "_law_many_here", "_law_one", "_law_other", "_law_found", "_law_sign", "_law_behind", "_law_k", "_law_at"]) (n := 1) hq rfl (by decide) h
  exact ⟨t, PSs.nox h1, h2⟩
abbrev s_law_due : Stmt := topS 23
theorem sc_law_due : FnScope ["_law_one", "_law_other", "_law_path", "_law_at"] ["_law_one", "_law_other"] (defScope s_law_due) := ⟨rfl, rfl, rfl, by decide +kernel, rfl, by decide +kernel, by decide +kernel⟩
theorem q_law_due (T : Tx K mg)  {f : Addr} {cdv : Value} {A : Around} {outer : List Env} {s : Shared} {H : Hp} {E : XK} (hr : Room 0 (A.deeper (PyProof.Rows.envOfC "_law_due" (defScope s_law_due) s.heap.objs.size f cdv))) : QB (cxOf CX0 P w K mg base ["_law_one", "_law_other", "_law_path", "_law_at"] "_law_due" (defScope s_law_due) f cdv A outer s H E).nox [.bor, .bor, .sh, .sh] [.bor, .bor, .sh, .sh] [.bor, .bor, .sh, .sh] (defBody s_law_due) p_law_due := by
  exact (qb_cons (qs_if (qt_ne (hr.units) (qe_cbS len_ok call_lenA T.f_len (by rfl) (by decide +kernel) (qa_cons (qe_v 0 (pv 0)) qa_nil)) (qe_cbS len_ok call_lenA T.f_len (by rfl) (by decide +kernel) (qa_cons (qe_v 1 (pv 1)) qa_nil))) (qb_one (qs_ret (qe_tup (qa_cons qe_str (qa_cons qe_non qa_nil))))) qb_nil)
  (qb_cons (xs_setG (i := 2) (fun h => ps_set (i := 2) sc_law_due.nd rfl (by first | exact Or.inl rfl | exact Or.inr rfl) h) qe_str)
  (qb_cons (yq_for (qs_for (js := [3]) (fun h1 h2 h3 => ps_for PassesOwn.never rfl h1 h2 h3) (qi_rng (by rfl) T.f_range (qe_cbS len_ok call_lenA T.f_len (by rfl) (by decide +kernel) (qa_cons (qe_v 0 (pv 0)) qa_nil))) (xq_name (i := 3) (pg_name (i := 3) sc_law_due.nd rfl (by first | exact Or.inl rfl | exact Or.inr rfl))) (qb_cons (qs_if (qt_w (qw_and (qt_eq (hr.units) (qe_ix (qe_v 0 (pv 0)) (qe_v 3 (pv 3))) qe_str) (qw_and1 (qt_eq (hr.units) (qe_ix (qe_v 1 (pv 1)) (qe_v 3 (pv 3))) qe_str)))) (qb_one (qs_ret (qe_tup (qa_cons qe_str (qa_cons (qe_v 3 (pv 3)) qa_nil))))) qb_nil)
  (qb_one (xs_setG (i := 2) (fun h => ps_set (i := 2) sc_law_due.nd rfl (by first | exact Or.inl rfl | exact Or.inr rfl) h) (qe_add (qe_v 2 (pv 2)) (qe_ifE (qt_eq (hr.units) (qe_ix (qe_v 0 (pv 0)) (qe_v 3 (pv 3))) qe_str) qe_str (qe_ifE (qt_eq (hr.units) (qe_ix (qe_v 1 (pv 1)) (qe_v 3 (pv 3))) qe_str) qe_str qe_str))))))))
  (qb_one (qs_ret (qe_tup (qa_cons qe_str (qa_cons (qe_v 2 (pv 2)) qa_nil))))))))
theorem ok_law_due (T : Tx K mg)  {f : Addr} {fd : FuncData} (F : FunD K "_law_due" "_law_due" (defArgs s_law_due) (defBody s_law_due) (defScope s_law_due) [] [] f fd) : FnOk P w K mg base CX0 1 f fd ["_law_one", "_law_other"] (spF 2 w_law_due K) := by
  refine F.ok sc_law_due (fun vs H Q E h => len_F h) (fun cdv A outer s H vs Q E hr h => ?_)
  have hq := q_law_due (P := P) (w := w) (base := base) (E := E) (H := H) (outer := outer) T  hr
  rw [e_law_due, xF_eq] at h
  obtain ⟨t, h1, h2⟩ := body_F (N := ["_law_one", "_law_other", "_law_path", "_law_at"]) (n := 2) hq rfl (by decide) h
  exact ⟨t, PSs.nox h1, h2⟩
abbrev s_law_odd : Stmt := topS 25
theorem sc_law_odd : FnScope ["_law_bag_here", "_law_odd_here"] ["_law_bag_here"] (defScope s_law_odd) := ⟨rfl, rfl, rfl, by decide +kernel, rfl, by decide +kernel, by decide +kernel⟩
theorem q_law_odd (T : Tx K mg) (c_law_take : Cal P w K mg base "_law_take" 1 ["_law_bag_here", "_law_many_here"] (spF 2 w_law_take K) []) {f : Addr} {cdv : Value} {A : Around} {outer : List Env} {s : Shared} {H : Hp} {E : XK} (hr : Room 1 (A.deeper (PyProof.Rows.envOfC "_law_odd" (defScope s_law_odd) s.heap.objs.size f cdv))) : QB (cxOf CX0 P w K mg base ["_law_bag_here", "_law_odd_here"] "_law_odd" (defScope s_law_odd) f cdv A outer s H E).nox [.bor, .sh] [.bor, .sh] [.bor, .sh] (defBody s_law_odd) p_law_odd := by
  exact (qb_cons (xs_setG (i := 1) (fun h => ps_set (i := 1) sc_law_odd.nd rfl (by first | exact Or.inl rfl | exact Or.inr rfl) h) (qe_lst (qa_cons qe_str (qa_cons (qe_mul qe_str qe_int) (qa_cons (qe_mul qe_str qe_int) (qa_cons qe_str (qa_cons qe_str (qa_cons qe_non (qa_cons qe_int (qa_cons (qe_lst (qa_cons qe_str qa_nil)) (qa_cons (qe_tup (qa_cons qe_str (qa_cons qe_str qa_nil))) (qa_cons qe_bl (qa_cons qe_dK0 (qa_cons qe_str (qa_cons qe_str (qa_cons qe_str qa_nil))))))))))))))))
  (qb_one (qs_ret (qe_ix (qe_v 1 (pv 1)) (qe_calF c_law_take dfl_nil (hr.mono (j := 1) (by decide)) (by rfl) (qa_cons (qe_v 0 (pv 0)) (qa_cons (qe_cbS len_ok call_lenA T.f_len (by rfl) (by decide +kernel) (qa_cons (qe_v 1 (pv 1)) qa_nil)) qa_nil)))))))
theorem ok_law_odd (T : Tx K mg) (c_law_take : Cal P w K mg base "_law_take" 1 ["_law_bag_here", "_law_many_here"] (spF 2 w_law_take K) []) {f : Addr} {fd : FuncData} (F : FunD K "_law_odd" "_law_odd" (defArgs s_law_odd) (defBody s_law_odd) (defScope s_law_odd) [] [] f fd) : FnOk P w K mg base CX0 2 f fd ["_law_bag_here"] (spF 1 w_law_odd K) := by
  refine F.ok sc_law_odd (fun vs H Q E h => len_F h) (fun cdv A outer s H vs Q E hr h => ?_)
  have hq := q_law_odd (P := P) (w := w) (base := base) (E := E) (H := H) (outer := outer) T c_law_take hr
  rw [e_law_odd, xF_eq] at h
  obtain ⟨t, h1, h2⟩ := body_F (N := ["_law_bag_here", "_law_odd_here"]) (n := 1) hq rfl (by decide) h
  exact ⟨t, PSs.nox h1, h2⟩
abbrev s_is_text_of : Stmt := topS 11
theorem sc_is_text_of : FnScope ["thing", "signs", "least", "most", "sign"] ["thing", "signs", "least", "most"] (defScope s_is_text_of) := ⟨rfl, rfl, rfl, by decide +kernel, rfl, by decide +kernel, by decide +kernel⟩
theorem q_is_text_of (T : Tx K mg)  {f : Addr} {cdv : Value} {A : Around} {outer : List Env} {s : Shared} {H : Hp} {E : XK} (hr : Room 0 (A.deeper (PyProof.Rows.envOfC "is_text_of" (defScope s_is_text_of) s.heap.objs.size f cdv))) : QB (cxOf CX0 P w K mg base ["thing", "signs", "least", "most", "sign"] "is_text_of" (defScope s_is_text_of) f cdv A outer s H E).nox [.bor, .bor, .bor, .bor, .sh] [.bor, .bor, .bor, .bor, .sh] [.bor, .bor, .bor, .bor, .sh] (defBody s_is_text_of) p_is_text_of := by
  exact (qb_cons (qs_if (qt_w (qw_or (qt_not (qt_tru (qe_cbS isB_ok call_isB T.f_isinstance (by rfl) (by decide +kernel) (qa_cons (qe_v 0 (pv 0)) (qa_cons (qe_ty .str T.f_str (by rfl) (by decide +kernel)) qa_nil))))) (qw_or1 (qt_not (qt_chain op_leA op_leA le_ok le_ok (qe_v 2 (pv 2)) (qe_cbS len_ok call_lenA T.f_len (by rfl) (by decide +kernel) (qa_cons (qe_v 0 (pv 0)) qa_nil)) (qe_v 3 (pv 3))))))) (qb_one (qs_ret qe_bl)) qb_nil)
  (qb_one (qs_ret (qe_cbS all_ok (cr_all (by rfl)) T.f_all (by rfl) (by decide +kernel) (qa_cons (xe_lc (own := [("sign", 4)]) (fun hi hg ht he => pe_lc (own := [("sign", 4)]) (by rfl) sc_is_text_of.nd hi (blkOk_by (own := [("sign", 4)]) (by kernel_rfl)) hg ht he) (qi_str (qe_v 0 (pv 0))) (fun _ _ _ _ _ => (xq_name (i := 4) (pg_name (i := 4) sc_is_text_of.nd rfl (by first | exact Or.inl rfl | exact Or.inr rfl)))) (fun _ _ _ _ _ => by exact qts_nil) (fun _ _ _ _ _ => by exact (qe_in  (qe_v 4 (pv 4)) (qe_v 1 (pv 1))))) qa_nil)))))
theorem ok_is_text_of (T : Tx K mg)  {f : Addr} {fd : FuncData} (F : FunD K "is_text_of" "is_text_of" (defArgs s_is_text_of) (defBody s_is_text_of) (defScope s_is_text_of) [] [] f fd) : FnOk P w K mg base CX0 1 f fd ["thing", "signs", "least", "most"] (spF 4 w_is_text_of K) := by
  refine F.ok sc_is_text_of (fun vs H Q E h => len_F h) (fun cdv A outer s H vs Q E hr h => ?_)
  have hq := q_is_text_of (P := P) (w := w) (base := base) (E := E) (H := H) (outer := outer) T  hr
  rw [e_is_text_of, xF_eq] at h
  obtain ⟨t, h1, h2⟩ := body_F (N := ["thing", "signs", "least", "most", "sign"]) (n := 4) hq rfl (by decide) h
  exact ⟨t, PSs.nox h1, h2⟩
abbrev s_is_gapped : Stmt := topS 12
theorem sc_is_gapped : FnScope ["thing"] ["thing"] (defScope s_is_gapped) := ⟨rfl, rfl, rfl, by decide +kernel, rfl, by decide +kernel, by decide +kernel⟩
theorem q_is_gapped (T : Tx K mg) (c_is_text_of : Cal P w K mg base "is_text_of" 1 ["thing", "signs", "least", "most"] (spF 4 w_is_text_of K) []) {f : Addr} {cdv : Value} {A : Around} {outer : List Env} {s : Shared} {H : Hp} {E : XK} (hr : Room 1 (A.deeper (PyProof.Rows.envOfC "is_gapped" (defScope s_is_gapped) s.heap.objs.size f cdv))) : QB (cxOf CX0 P w K mg base ["thing"] "is_gapped" (defScope s_is_gapped) f cdv A outer s H E).nox [.bor] [.bor] [.bor] (defBody s_is_gapped) p_is_gapped := by
  exact (qb_one (qs_ret (qe_calF c_is_text_of dfl_nil (hr.mono (j := 1) (by decide)) (by rfl) (qa_cons (qe_v 0 (pv 0)) (qa_cons (qe_add (qe_g T.g_LETTERS (by rfl)) (qe_g T.g_GAP_kinds (by rfl))) (qa_cons qe_int (qa_cons (qe_g T.g_LONGEST_PATH (by rfl)) qa_nil)))))))
theorem ok_is_gapped (T : Tx K mg) (c_is_text_of : Cal P w K mg base "is_text_of" 1 ["thing", "signs", "least", "most"] (spF 4 w_is_text_of K) []) {f : Addr} {fd : FuncData} (F : FunD K "is_gapped" "is_gapped" (defArgs s_is_gapped) (defBody s_is_gapped) (defScope s_is_gapped) [] [] f fd) : FnOk P w K mg base CX0 2 f fd ["thing"] (spF 1 w_is_gapped K) := by
  refine F.ok sc_is_gapped (fun vs H Q E h => len_F h) (fun cdv A outer s H vs Q E hr h => ?_)
  have hq := q_is_gapped (P := P) (w := w) (base := base) (E := E) (H := H) (outer := outer) T c_is_text_of hr
  rw [e_is_gapped, xF_eq] at h
  obtain ⟨t, h1, h2⟩ := body_F (N := ["thing"]) (n := 1) hq rfl (by decide) h
  exact ⟨t, PSs.nox h1, h2⟩
abbrev s_Wrong_init : Stmt := inClass (topS 2) 0
theorem sc_Wrong_init : FnScope ["self", "at"] ["self", "at"] (defScope s_Wrong_init) := ⟨rfl, rfl, rfl, by decide +kernel, rfl, by decide +kernel, by decide +kernel⟩
theorem q_Wrong_init (T : Tx K mg) {f : Addr} {cdv : Value} {A : Around} {outer : List Env} {s : Shared} {H : Hp} {E : XK} (hr : Room 0 (A.deeper (PyProof.Rows.envOfC "Wrong.__init__" (defScope s_Wrong_init) s.heap.objs.size f cdv))) : PSs (cxOf CX0 P w K mg base ["self", "at"] "Wrong.__init__" (defScope s_Wrong_init) f cdv A outer s H E).nox (defBody s_Wrong_init) (tSeq (tDrop (tVeI K (tCons (tVar 0) (tCons (tC (.str "not what this place wants")) tNil)))) (tOst K (exF "Wrong") (tVar 0) (tVar 1))) := by
  exact (pss_cons (ps_expr (pe_layinit T.l_LayError (by rfl) T.r_LayError (pa_cons (pv 0) (pa_cons pe_str pa_nil)))) (pss_one (ps_ost (pv 0) (pv 1))))
theorem ok_Wrong_init (T : Tx K mg) {f : Addr} {fd : FuncData} (F : FunD K "__init__" "Wrong.__init__" (defArgs s_Wrong_init) (defBody s_Wrong_init) (defScope s_Wrong_init) [] [] f fd) : FnOk P w K mg base CX0 1 f fd ["self", "at"] (spE "Wrong" K) := by
  refine F.ok sc_Wrong_init (fun vs H Q E h => len_E h) (fun cdv A outer s H vs Q E hr h => ?_)
  have hq := q_Wrong_init (P := P) (w := w) (base := base) (E := E) (H := H) (outer := outer) T hr
  obtain ⟨t, h1, h2⟩ := body_E (N := ["self", "at"]) T.e_Wrong hq h
  exact ⟨t, PSs.nox h1, h2⟩
abbrev s_Unlike_init : Stmt := inClass (topS 4) 0
theorem sc_Unlike_init : FnScope ["self"] ["self"] (defScope s_Unlike_init) := ⟨rfl, rfl, rfl, by decide +kernel, rfl, by decide +kernel, by decide +kernel⟩
theorem q_Unlike_init (T : Tx K mg) {f : Addr} {cdv : Value} {A : Around} {outer : List Env} {s : Shared} {H : Hp} {E : XK} (hr : Room 0 (A.deeper (PyProof.Rows.envOfC "Unlike.__init__" (defScope s_Unlike_init) s.heap.objs.size f cdv))) : PSs (cxOf CX0 P w K mg base ["self"] "Unlike.__init__" (defScope s_Unlike_init) f cdv A outer s H E).nox (defBody s_Unlike_init) (tDrop (tVeI K (tCons (tVar 0) (tCons (tC (.str "they do not go together")) tNil)))) := by
  exact (pss_one (ps_expr (pe_layinit T.l_LayError (by rfl) T.r_LayError (pa_cons (pv 0) (pa_cons pe_str pa_nil)))))
theorem ok_Unlike_init (T : Tx K mg) {f : Addr} {fd : FuncData} (F : FunD K "__init__" "Unlike.__init__" (defArgs s_Unlike_init) (defBody s_Unlike_init) (defScope s_Unlike_init) [] [] f fd) : FnOk P w K mg base CX0 1 f fd ["self"] (spE0 "Unlike" K) := by
  refine F.ok sc_Unlike_init (fun vs H Q E h => len_E0 h) (fun cdv A outer s H vs Q E hr h => ?_)
  have hq := q_Unlike_init (P := P) (w := w) (base := base) (E := E) (H := H) (outer := outer) T hr
  obtain ⟨t, h1, h2⟩ := body_E0 (N := ["self"]) T.e_Unlike hq h
  exact ⟨t, PSs.nox h1, h2⟩
abbrev s_Bare_init : Stmt := inClass (topS 6) 0
theorem sc_Bare_init : FnScope ["self", "at"] ["self", "at"] (defScope s_Bare_init) := ⟨rfl, rfl, rfl, by decide +kernel, rfl, by decide +kernel, by decide +kernel⟩
theorem q_Bare_init (T : Tx K mg) {f : Addr} {cdv : Value} {A : Around} {outer : List Env} {s : Shared} {H : Hp} {E : XK} (hr : Room 0 (A.deeper (PyProof.Rows.envOfC "Bare.__init__" (defScope s_Bare_init) s.heap.objs.size f cdv))) : PSs (cxOf CX0 P w K mg base ["self", "at"] "Bare.__init__" (defScope s_Bare_init) f cdv A outer s H E).nox (defBody s_Bare_init) (tSeq (tDrop (tVeI K (tCons (tVar 0) (tCons (tC (.str "no letter stands there")) tNil)))) (tOst K (exF "Bare") (tVar 0) (tVar 1))) := by
  exact (pss_cons (ps_expr (pe_layinit T.l_LayError (by rfl) T.r_LayError (pa_cons (pv 0) (pa_cons pe_str pa_nil)))) (pss_one (ps_ost (pv 0) (pv 1))))
theorem ok_Bare_init (T : Tx K mg) {f : Addr} {fd : FuncData} (F : FunD K "__init__" "Bare.__init__" (defArgs s_Bare_init) (defBody s_Bare_init) (defScope s_Bare_init) [] [] f fd) : FnOk P w K mg base CX0 1 f fd ["self", "at"] (spE "Bare" K) := by
  refine F.ok sc_Bare_init (fun vs H Q E h => len_E h) (fun cdv A outer s H vs Q E hr h => ?_)
  have hq := q_Bare_init (P := P) (w := w) (base := base) (E := E) (H := H) (outer := outer) T hr
  obtain ⟨t, h1, h2⟩ := body_E (N := ["self", "at"]) T.e_Bare hq h
  exact ⟨t, PSs.nox h1, h2⟩
abbrev s_path_between_X : Stmt := topS 15
theorem sc_path_between_X : FnScope ["one", "other", "steps", "at", "sign", "behind"] ["one", "other"] (defScope s_path_between_X) := ⟨rfl, rfl, rfl, by decide +kernel, rfl, by decide +kernel, by decide +kernel⟩
theorem q_path_between_X (T : Tx K mg) (c_is_gapped : Cal P w K mg base "is_gapped" 2 ["thing"] (spF 1 w_is_gapped K) []) (xe_Wrong : CalE P w K mg base "Wrong" 1 ["self", "at"]) (xe_Unlike : CalE0 P w K mg base "Unlike" 1 ["self"]) (xe_Bare : CalE P w K mg base "Bare" 1 ["self", "at"]) {f : Addr} {cdv : Value} {A : Around} {outer : List Env} {s : Shared} {H : Hp} {E : XK} (hr : Room 2 (A.deeper (PyProof.Rows.envOfC "path_between" (defScope s_path_between_X) s.heap.objs.size f cdv))) : QBX (cxOf (L2.CX P w) P w K mg base ["one", "other", "steps", "at", "sign", "behind"] "path_between" (defScope s_path_between_X) f cdv A outer s H E) (fun cls d _ H => E cls d H) none [.bor, .bor, .own, .sh, .sh, .sh] [.bor, .bor, .own, .sh, .sh, .sh] [.bor, .bor, .own, .sh, .sh, .sh] (defBody s_path_between_X) p_path_between_X := by
  have tk := takes_def (CX := L2.CX P w) (P := P) (w := w) (K := K) (mg := mg) (base := base) (N := ["one", "other", "steps", "at", "sign", "behind"]) (qual := "path_between") (scope := defScope s_path_between_X) (f := f) (cd := cdv) (A := A) (outer := outer) (s := s) (H := H) (E := E)
  have hpo := passes_def (P := P) (w := w) (K := K) (mg := mg) (base := base) (N := ["one", "other", "steps", "at", "sign", "behind"]) (qual := "path_between") (scope := defScope s_path_between_X) (f := f) (cd := cdv) (A := A) (outer := outer) (s := s) (H := H) (E := E)
  exact (qbx_cons (qsx_if (qt_not (qt_tru (qe_calF c_is_gapped dfl_nil (hr.mono (j := 2) (by decide)) (by rfl) (qa_cons (qe_v 0 (pv 0)) qa_nil)))) (qbx_one (qsx_raise xe_Wrong (by rfl) tk (hr.mono (j := 2) (by decide)) (by rfl) qe_int (by intro k h; cases h <;> rfl))) qbx_nil)
  (qbx_cons (qsx_if (qt_not (qt_tru (qe_calF c_is_gapped dfl_nil (hr.mono (j := 2) (by decide)) (by rfl) (qa_cons (qe_v 1 (pv 1)) qa_nil)))) (qbx_one (qsx_raise xe_Wrong (by rfl) tk (hr.mono (j := 2) (by decide)) (by rfl) qe_int (by intro k h; cases h <;> rfl))) qbx_nil)
  (qbx_cons (qsx_if (qt_ne (hr.units) (qe_cbS len_ok call_lenA T.f_len (by rfl) (by decide +kernel) (qa_cons (qe_v 0 (pv 0)) qa_nil)) (qe_cbS len_ok call_lenA T.f_len (by rfl) (by decide +kernel) (qa_cons (qe_v 1 (pv 1)) qa_nil))) (qbx_one (qsx_raise0 xe_Unlike (by rfl) tk (hr.mono (j := 2) (by decide)) (by rfl) (by intro k h; cases h <;> rfl))) qbx_nil)
  (qbx_cons (qx_of (xs_setN (i := 2) (fun h => ps_set (i := 2) sc_path_between_X.nd rfl (by first | exact Or.inl rfl | exact Or.inr rfl) h) (qn_lst qa_nil)))
  (qbx_cons (qsx_for (js := [3, 4, 5]) (fun h1 h2 h3 => ps_for hpo rfl h1 h2 h3) (qi_enzSS (by rfl) T.f_enumerate (by rfl) T.f_zip (qa_cons (qe_v 0 (pv 0)) (qa_cons (qe_v 1 (pv 1)) qa_nil))) (qg_tup (by rfl) (qgs_cons (xq_name (i := 3) (pg_name (i := 3) sc_path_between_X.nd rfl (by first | exact Or.inl rfl | exact Or.inr rfl))) (qgs_cons (qg_tup (by rfl) (qgs_cons (xq_name (i := 4) (pg_name (i := 4) sc_path_between_X.nd rfl (by first | exact Or.inl rfl | exact Or.inr rfl))) (qgs_cons (xq_name (i := 5) (pg_name (i := 5) sc_path_between_X.nd rfl (by first | exact Or.inl rfl | exact Or.inr rfl))) qgs_nil)) (ml_cons xmg_name (ml_cons xmg_name ml_nil))) qgs_nil)) (ml_cons xmg_name (ml_cons (mg_tup (ml_cons xmg_name (ml_cons xmg_name ml_nil)) (me_cons xmg_name (me_cons xmg_name me_nil))) ml_nil))) (qbx_cons (qsx_if (qt_w (qw_and (qt_eq (hr.units) (qe_v 4 (pv 4)) (qe_g T.g_GAP_paths (by rfl))) (qw_and1 (qt_eq (hr.units) (qe_v 5 (pv 5)) (qe_g T.g_GAP_paths (by rfl)))))) (qbx_one (qsx_raise xe_Bare (by rfl) tk (hr.mono (j := 2) (by decide)) (by rfl) (qe_v 3 (pv 3)) (by intro k h; cases h <;> rfl))) qbx_nil)
  (qbx_one (qx_of (qs_if (qt_eq (hr.units) (qe_v 4 (pv 4)) (qe_g T.g_GAP_paths (by rfl))) (qb_one (xs_app (i := 2) (fun h => ps_expr (pe_bm PySem.F.plainAttrs_list PySem.F.slot_list_append PySem.F.type_list_append mt_append (pv 2) (pa_cons h pa_nil))) qe_str)) (qb_one (xs_app (i := 2) (fun h => ps_expr (pe_bm PySem.F.plainAttrs_list PySem.F.slot_list_append PySem.F.type_list_append mt_append (pv 2) (pa_cons h pa_nil))) (qe_ifE (qt_eq (hr.units) (qe_v 5 (pv 5)) (qe_g T.g_GAP_paths (by rfl))) qe_str qe_str))))))))
  (qbx_one (qx_of (qs_ret (qe_join qe_str (qe_v 2 (pv 2)))))))))))
theorem ok_path_between_X (T : Tx K mg) (c_is_gapped : Cal P w K mg base "is_gapped" 2 ["thing"] (spF 1 w_is_gapped K) []) (xe_Wrong : CalE P w K mg base "Wrong" 1 ["self", "at"]) (xe_Unlike : CalE0 P w K mg base "Unlike" 1 ["self"]) (xe_Bare : CalE P w K mg base "Bare" 1 ["self", "at"]) {f : Addr} {fd : FuncData} (F : FunD K "path_between" "path_between" (defArgs s_path_between_X) (defBody s_path_between_X) (defScope s_path_between_X) [] [] f fd) : FnOk P w K mg base (L2.CX P w) 3 f fd ["one", "other"] (spFX 2 w_path_between_X K) := by
  refine F.ok sc_path_between_X (fun vs H Q E h => len_FX h) (fun cdv A outer s H vs Q E hr h => ?_)
  have hq := q_path_between_X (P := P) (w := w) (base := base) (E := E) (H := H) (outer := outer) (s := s) T c_is_gapped xe_Wrong xe_Unlike xe_Bare hr
  rw [e_path_between_X, xFX_eq] at h
  exact body_FX (N := ["one", "other", "steps", "at", "sign", "behind"]) (n := 2) hq rfl (by decide) h
abbrev s_law_told : Stmt := topS 24
theorem sc_law_told : FnScope ["_law_one", "_law_other", "e", "_law_some"] ["_law_one", "_law_other"] (defScope s_law_told) := ⟨rfl, rfl, rfl, by decide +kernel, rfl, by decide +kernel, by decide +kernel⟩
theorem q_law_told (T : Tx K mg) (xc_path_between_X : CalX P w K mg base "path_between" 3 ["one", "other"] (spFX 2 w_path_between_X K) []) {f : Addr} {cdv : Value} {A : Around} {outer : List Env} {s : Shared} {H : Hp} {E : XK} (hr : Room 3 (A.deeper (PyProof.Rows.envOfC "_law_told" (defScope s_law_told) s.heap.objs.size f cdv))) : QB (cxOf CX0 P w K mg base ["_law_one", "_law_other", "e", "_law_some"] "_law_told" (defScope s_law_told) f cdv A outer s H E).nox [.bor, .bor, .sh, .sh] [.bor, .bor, .sh, .sh] [.bor, .bor, .sh, .sh] (defBody s_law_told) p_law_told := by
  exact (qb_one (qs_try 2 ["Bare", "Unlike", "Wrong"] "LayError" rfl rfl sc_law_told.nd rfl rfl T.r_LayError (by rfl) T.m_Bare_Unlike_Wrong__LayError (fun W pn xe tk hpo => by exact (qbx_one (qsx_ret (qex_tup (qax_cons (qex_of qe_str) (qax_cons (qex_calF xc_path_between_X tk dfl_nil (hr.mono (j := 3) (by decide)) (by rfl) (qa_cons (qe_v 0 (pv 0)) (qa_cons (qe_v 1 (pv 1)) qa_nil))) qax_nil))) (by intro k h; cases h <;> rfl)))) (fun c a oe d pn hcs hz hv => by exact (qb_cons (xs_setG (i := 3) (fun h => ps_set (i := 3) sc_law_told.nd rfl (by first | exact Or.inl rfl | exact Or.inr rfl) h) (qe_lst (qa_cons (qe_isX 2 (u := .ref (He.ga _ "Wrong")) (cv := .ref (He.ga _ "Wrong")) (T.h_Bare_Unlike_Wrong c hcs) hz hv (fun _ z => z) (T.i_Bare_Unlike_Wrong__Wrong c hcs) T.f_isinstance (by rfl) (pv 2) (pe_gref T.r_Wrong (by rfl))) (qa_cons (qe_isX 2 (u := .ref (He.ga _ "Unlike")) (cv := .ref (He.ga _ "Unlike")) (T.h_Bare_Unlike_Wrong c hcs) hz hv (fun _ z => z) (T.i_Bare_Unlike_Wrong__Unlike c hcs) T.f_isinstance (by rfl) (pv 2) (pe_gref T.r_Unlike (by rfl))) (qa_cons (qe_isX 2 (u := .ref (He.ga _ "Bare")) (cv := .ref (He.ga _ "Bare")) (T.h_Bare_Unlike_Wrong c hcs) hz hv (fun _ z => z) (T.i_Bare_Unlike_Wrong__Bare c hcs) T.f_isinstance (by rfl) (pv 2) (pe_gref T.r_Bare (by rfl))) (qa_cons (qe_isXT 2 ["NoLetter", "NoPlace"] (T.h_Bare_Unlike_Wrong c hcs) hz hv (by intro n hn; simp only [List.mem_cons, List.not_mem_nil, or_false] at hn; rcases hn with rfl | rfl; exact (T.i_Bare_Unlike_Wrong__NoLetter c hcs); exact (T.i_Bare_Unlike_Wrong__NoPlace c hcs)) T.f_isinstance (by rfl) (pv 2) (pa_cons (pe_gref T.r_NoLetter (by rfl)) (pa_cons (pe_gref T.r_NoPlace (by rfl)) pa_nil))) qa_nil))))))
  (qb_cons (qs_if (qt_w (qw_or (qt_not (qt_tru (qe_isX 2 (u := .ty "ValueError") (cv := .type "ValueError") (T.h_Bare_Unlike_Wrong c hcs) hz hv (fun _ z => z) (T.t_Bare_Unlike_Wrong__ValueError c hcs) T.f_isinstance (by rfl) (pv 2) (pe_bltn (v := .ty "ValueError") (by rfl) T.f_ValueError (by decide +kernel) rfl)))) (qw_or (qt_ne (hr.units) (qe_lb PySem.F.slot_list_count PySem.F.type_list_count mt_cntB (qe_v 3 (pv 3)) (qa_cons qe_bl qa_nil)) qe_int) (qw_or1 (qt_tru (qe_ix (qe_v 3 (pv 3)) qe_int)))))) (qb_one (qs_ret (qe_tup (qa_cons qe_str (qa_cons qe_non qa_nil))))) qb_nil)
  (qb_one (qs_ret (qe_ifE (qt_tru (qe_ix (qe_v 3 (pv 3)) qe_int)) (qe_tup (qa_cons qe_str (qa_cons qe_non qa_nil))) (qe_tup (qa_cons (qe_ix (qe_lst (qa_cons qe_str (qa_cons qe_str (qa_cons qe_str qa_nil)))) (qe_lb PySem.F.slot_list_index PySem.F.type_list_index mt_idxB (qe_v 3 (pv 3)) (qa_cons qe_bl qa_nil))) (qa_cons (qe_exF 2 (T.h_Bare_Unlike_Wrong c hcs) hz hv (T.n_Bare_Unlike_Wrong__at c hcs) (pv 2)) qa_nil)))))))))))
theorem ok_law_told (T : Tx K mg) (xc_path_between_X : CalX P w K mg base "path_between" 3 ["one", "other"] (spFX 2 w_path_between_X K) []) {f : Addr} {fd : FuncData} (F : FunD K "_law_told" "_law_told" (defArgs s_law_told) (defBody s_law_told) (defScope s_law_told) [] [] f fd) : FnOk P w K mg base CX0 4 f fd ["_law_one", "_law_other"] (spF 2 w_law_told K) := by
  refine F.ok sc_law_told (fun vs H Q E h => len_F h) (fun cdv A outer s H vs Q E hr h => ?_)
  have hq := q_law_told (P := P) (w := w) (base := base) (E := E) (H := H) (outer := outer) T xc_path_between_X hr
  rw [e_law_told, xF_eq] at h
  obtain ⟨t, h1, h2⟩ := body_F (N := ["_law_one", "_law_other", "e", "_law_some"]) (n := 2) hq rfl (by decide) h
  exact ⟨t, PSs.nox h1, h2⟩
abbrev s_law_alike : Stmt := topS 19
theorem sc_law_alike : FnScope ["_law_found", "_law_due_here"] ["_law_found", "_law_due_here"] (defScope s_law_alike) := ⟨rfl, rfl, rfl, by decide +kernel, rfl, by decide +kernel, by decide +kernel⟩
theorem q_law_alike (T : Tx K mg)  {f : Addr} {cdv : Value} {A : Around} {outer : List Env} {s : Shared} {H : Hp} {E : XK} (hgu : A.guards = some []) (hr : Room 0 (A.deeper (PyProof.Rows.envOfC "_law_alike" (defScope s_law_alike) s.heap.objs.size f cdv))) : QB (cxOf CX0 P w K mg base ["_law_found", "_law_due_here"] "_law_alike" (defScope s_law_alike) f cdv A outer s H E).nox [.bor, .bor] [.bor, .bor] [.bor, .bor] (defBody s_law_alike) p_law_alike := by
  exact (qb_one (qs_ret (qe_andV (qe_eq (hr.units) (qe_v 0 (pv 0)) (qe_v 1 (pv 1))) (qe_one (qe_eqS (hr.units) (qe_repr T.f_repr (by rfl) (by exact hgu) hr.units (qa_cons (qe_v 0 (pv 0)) qa_nil)) (qe_repr T.f_repr (by rfl) (by exact hgu) hr.units (qa_cons (qe_v 1 (pv 1)) qa_nil)))))))
theorem ok_law_alike (T : Tx K mg)  {f : Addr} {fd : FuncData} (F : FunD K "_law_alike" "_law_alike" (defArgs s_law_alike) (defBody s_law_alike) (defScope s_law_alike) [] [] f fd) : FnG P w K mg base 1 f fd ["_law_found", "_law_due_here"] (spF 2 w_law_alike K) := by
  refine okG F sc_law_alike (fun vs H Q E h => len_F h) (fun cdv A outer s H vs Q E hgu hr h => ?_)
  have hq := q_law_alike (P := P) (w := w) (base := base) (E := E) (H := H) (outer := outer) T  hgu hr
  rw [e_law_alike, xF_eq] at h
  obtain ⟨t, h1, h2⟩ := body_F (N := ["_law_found", "_law_due_here"]) (n := 2) hq rfl (by decide) h
  exact ⟨t, PSs.nox h1, h2⟩
abbrev s_law_bag : Stmt := topS 17
theorem sc_law_bag : FnScope ["_law_script", "_law_cell"] ["_law_script"] (defScope s_law_bag) := ⟨rfl, rfl, rfl, by decide +kernel, rfl, by decide +kernel, by decide +kernel⟩
abbrev s_law : Stmt := topS 26
theorem sc_law : FnScope ["_law_script", "_law_bag_here", "_law_k", "_law_one", "_law_other", "_law_due_here", "_law_things", "_law_place", "_law_again"] ["_law_script"] (defScope s_law) := ⟨rfl, rfl, rfl, by decide +kernel, rfl, by decide +kernel, by decide +kernel⟩
end
section
variable {P : Program} {w : World} {K : Vl.Fg} {mg : Str → Option Value} {base : Heap}
theorem td_law_take (T : Tx K mg) {f : Addr} {cdv : Value} {A : Around} {outer : List Env} {s : Shared} {H : Hp} {E : XK} (hr : Room 0 (A.deeper (PyProof.Rows.envOfC "_law_take" (defScope s_law_take) s.heap.objs.size f cdv))) : PSs (cxOf CX0 P w K mg base ["_law_bag_here", "_law_many_here", "_law_cell", "_law_value", "_law_first", "_law_second"] "_law_take" (defScope s_law_take) f cdv A outer s H E).nox (defBody s_law_take) (t_take K) := by
  exact (pss_cons (ps_if (pt_cmpR (op_eqA hr.units) (pe_ix ix_seq (pv 0) pe_int (fun _ _ => rfl)) pe_int (nomark _)) (pss_cons (ps_set (i := 2) sc_law_take.nd rfl (by first | exact Or.inl rfl | exact Or.inr rfl) pe_int)
  (pss_cons (ps_if (pt_cmpR op_ltA (pe_ix ix_seq (pv 0) pe_int (fun _ _ => rfl)) (pe_callB call_lenA (by rfl) T.f_len (by decide +kernel) (pa_cons (pe_ix ix_seq (pv 0) pe_int (fun _ _ => rfl)) pa_nil)) (nomark _)) (pss_one (ps_set (i := 2) sc_law_take.nd rfl (by first | exact Or.inl rfl | exact Or.inr rfl) (pe_ix ix_seq (pe_ix ix_seq (pv 0) pe_int (fun _ _ => rfl)) (pe_ix ix_seq (pv 0) pe_int (fun _ _ => rfl)) (fun _ _ => rfl)))) pss_nil)
  (pss_cons (ps_augS (pv 0) pe_int get_list pe_int ip_addA set_list)
  (pss_cons (ps_if (pt_cmpR op_geA (pv 2) pe_int (nomark _)) (pss_one (ps_asg (pv 2) (pg_sub (pv 0) pe_int set_list))) pss_nil)
  (pss_one (ps_asg (pe_op op_modA (pe_op op_addA (pe_op op_addA (pe_op op_mulA (pe_ix ix_seq (pv 0) pe_int (fun _ _ => rfl)) pe_int) (pe_op op_modA (pv 2) pe_int)) (pe_op op_mulA pe_int (pe_ix ix_seq (pv 0) pe_int (fun _ _ => rfl)))) pe_int) (pg_sub (pv 0) pe_int set_list))))))) pss_nil)
  (pss_cons (ps_if (pt_cmpR op_gtA (pe_ix ix_seq (pv 0) pe_int (fun _ _ => rfl)) pe_int (nomark _)) (pss_cons (ps_set (i := 3) sc_law_take.nd rfl (by first | exact Or.inl rfl | exact Or.inr rfl) (pe_op op_modA (pe_ix ix_seq (pv 0) pe_int (fun _ _ => rfl)) (pv 1)))
  (pss_cons (ps_asg (pe_op op_divA (pe_ix ix_seq (pv 0) pe_int (fun _ _ => rfl)) (pv 1)) (pg_sub (pv 0) pe_int set_list)) (pss_one (ps_ret (pv 3))))) pss_nil)
  (pss_cons (ps_set (i := 4) sc_law_take.nd rfl (by first | exact Or.inl rfl | exact Or.inr rfl) (pe_op op_modA (pe_op op_mulA (pe_op op_addA (pe_ix ix_seq (pv 0) pe_int (fun _ _ => rfl)) pe_int) pe_int) pe_int))
  (pss_cons (ps_set (i := 5) sc_law_take.nd rfl (by first | exact Or.inl rfl | exact Or.inr rfl) (pe_op op_modA (pe_op op_mulA (pe_op op_modA (pe_op op_mulA (pv 4) (pv 4)) pe_int) pe_int) pe_int))
  (pss_cons (ps_if (pt_cmpR op_gtA (pv 1) pe_int (nomark _)) (pss_one (ps_ret (pe_op op_modA (pe_op op_addA (pe_op op_mulA (pv 5) pe_int) (pv 4)) (pv 1)))) pss_nil)
  (pss_one (ps_ret (pe_op op_modA (pe_op op_divA (pv 5) pe_int) (pv 1)))))))))
theorem ok_law_take (T : Tx K mg) {f : Addr} {fd : FuncData} (F : FunD K "_law_take" "_law_take" (defArgs s_law_take) (defBody s_law_take) (defScope s_law_take) [] [] f fd) : FnOk P w K mg base CX0 1 f fd ["_law_bag_here", "_law_many_here"] (spF 2 w_law_take K) := by
  refine F.ok sc_law_take (fun vs H Q E h => len_F h) (fun cdv A outer s H vs Q E hr h => ?_)
  exact ⟨_, PSs.nox (td_law_take T hr), pure_take h⟩
theorem td_law_bag (T : Tx K mg) {f : Addr} {cdv : Value} {A : Around} {outer : List Env} {s : Shared} {H : Hp} {E : XK} (hr : Room 0 (A.deeper (PyProof.Rows.envOfC "_law_bag" (defScope s_law_bag) s.heap.objs.size f cdv))) : PSs (cxOf CX0 P w K mg base ["_law_script", "_law_cell"] "_law_bag" (defScope s_law_bag) f cdv A outer s H E).nox (defBody s_law_bag) (t_bag K) := by
  exact (pss_one (ps_ret (pe_lst (pa_cons pe_int (pa_cons pe_int (pa_cons pe_int (pa_cons (pe_lc (own := [("_law_cell", 1)]) (by rfl) sc_law_bag.nd (pi_list (pe_slice sl_list (pv 0) po_none (po_some pe_int))) (blkOk_by (own := [("_law_cell", 1)]) (by kernel_rfl)) (fun _ _ _ _ _ => pg_name (i := 1) sc_law_bag.nd rfl (by first | exact Or.inl rfl | exact Or.inr rfl)) (fun _ _ _ _ _ => by exact pts_nil) (fun _ _ _ _ _ => by exact pe_callB call_absA (by rfl) T.f_abs (by decide +kernel) (pa_cons (pv 1) pa_nil))) pa_nil)))))))
theorem ok_law_bag (T : Tx K mg) {f : Addr} {fd : FuncData} (F : FunD K "_law_bag" "_law_bag" (defArgs s_law_bag) (defBody s_law_bag) (defScope s_law_bag) [] [] f fd) : FnOk P w K mg base CX0 1 f fd ["_law_script"] (spBag K) := by
  refine F.ok sc_law_bag (fun vs H Q E h => by obtain ⟨_, _, rfl, _⟩ := h; rfl) (fun cdv A outer s H vs Q E hr h => ?_)
  exact ⟨_, PSs.nox (td_law_bag T hr), pure_bag h⟩
theorem q_law (T : Tx K mg) (c_law_pair : Cal P w K mg base "_law_pair" 3 ["_law_bag_here"] (spF 1 w_law_pair K) []) (c_law_take : Cal P w K mg base "_law_take" 1 ["_law_bag_here", "_law_many_here"] (spF 2 w_law_take K) []) (c_law_gapped : Cal P w K mg base "_law_gapped" 2 ["_law_bag_here", "_law_many_here"] (spF 2 w_law_gapped K) []) (c_law_due : Cal P w K mg base "_law_due" 1 ["_law_one", "_law_other"] (spF 2 w_law_due K) []) (c_law_odd : Cal P w K mg base "_law_odd" 2 ["_law_bag_here"] (spF 1 w_law_odd K) []) (c_law_told : Cal P w K mg base "_law_told" 4 ["_law_one", "_law_other"] (spF 2 w_law_told K) []) (c_law_alike : CalG P w K mg base 1 "_law_alike" (spF 2 w_law_alike K) []) (c_law_bag : Cal P w K mg base "_law_bag" 1 ["_law_script"] (spBag K) []) {f : Addr} {cdv : Value} {A : Around} {outer : List Env} {s : Shared} {H : Hp} {E : XK} (hgu : A.guards = some []) (hr : Room 4 (A.deeper (PyProof.Rows.envOfC "law" (defScope s_law) s.heap.objs.size f cdv))) : QB (cxOf CX0 P w K mg base ["_law_script", "_law_bag_here", "_law_k", "_law_one", "_law_other", "_law_due_here", "_law_things", "_law_place", "_law_again"] "law" (defScope s_law) f cdv A outer s H E).nox [.bor, .sh, .sh, .sh, .sh, .sh, .own, .sh, .sh] [.bor, .sh, .sh, .sh, .sh, .sh, .own, .sh, .sh] [.bor, .sh, .sh, .sh, .sh, .sh, .own, .sh, .sh] (defBody s_law).tail p_law := by
  exact (qb_cons (yq_for (qs_for (js := [2]) (fun h1 h2 h3 => ps_for PassesOwn.never rfl h1 h2 h3) (qi_rng (by rfl) T.f_range qe_int) (xq_name (i := 2) (pg_name (i := 2) sc_law.nd rfl (by first | exact Or.inl rfl | exact Or.inr rfl))) (qb_cons (qs_asg (js := [3, 4]) (fun h1 h2 => ps_asg h1 h2) (qe_calF c_law_pair dfl_nil (hr.mono (j := 3) (by decide)) (by rfl) (qa_cons (qe_v 1 (pv 1)) qa_nil)) (qg_tup (by rfl) (qgs_cons (xq_name (i := 3) (pg_name (i := 3) sc_law.nd rfl (by first | exact Or.inl rfl | exact Or.inr rfl))) (qgs_cons (xq_name (i := 4) (pg_name (i := 4) sc_law.nd rfl (by first | exact Or.inl rfl | exact Or.inr rfl))) qgs_nil)) (ml_cons xmg_name (ml_cons xmg_name ml_nil))))
  (jq (qb_cons (qs_if (qt_eq (hr.units) (qe_calF c_law_take dfl_nil (hr.mono (j := 1) (by decide)) (by rfl) (qa_cons (qe_v 1 (pv 1)) (qa_cons qe_int qa_nil))) qe_int) (qb_one (xs_setG (i := 4) (fun h => ps_set (i := 4) sc_law.nd rfl (by first | exact Or.inl rfl | exact Or.inr rfl) h) (qe_sl (qe_add (qe_sl (qe_v 4 (pv 4)) qo_none (qo_some (qe_calF c_law_take dfl_nil (hr.mono (j := 1) (by decide)) (by rfl) (qa_cons (qe_v 1 (pv 1)) (qa_cons (qe_add (qe_cbS len_ok call_lenA T.f_len (by rfl) (by decide +kernel) (qa_cons (qe_v 4 (pv 4)) qa_nil)) qe_int) qa_nil))))) (qe_calF c_law_gapped dfl_nil (hr.mono (j := 2) (by decide)) (by rfl) (qa_cons (qe_v 1 (pv 1)) (qa_cons (qe_calF c_law_take dfl_nil (hr.mono (j := 1) (by decide)) (by rfl) (qa_cons (qe_v 1 (pv 1)) (qa_cons qe_int qa_nil))) qa_nil)))) qo_none (qo_some qe_int)))) qb_nil)
  (qb_cons (xs_setG (i := 5) (fun h => ps_set (i := 5) sc_law.nd rfl (by first | exact Or.inl rfl | exact Or.inr rfl) h) (qe_calF c_law_due dfl_nil (hr.mono (j := 1) (by decide)) (by rfl) (qa_cons (qe_v 3 (pv 3)) (qa_cons (qe_v 4 (pv 4)) qa_nil))))
  (qb_cons (xs_setN (i := 6) (fun h => ps_set (i := 6) sc_law.nd rfl (by first | exact Or.inl rfl | exact Or.inr rfl) h) (qn_lst (qa_cons (qe_v 3 (pv 3)) (qa_cons (qe_v 4 (pv 4)) qa_nil))))
  (qb_cons (xs_setG (i := 7) (fun h => ps_set (i := 7) sc_law.nd rfl (by first | exact Or.inl rfl | exact Or.inr rfl) h) (qe_calF c_law_take dfl_nil (hr.mono (j := 1) (by decide)) (by rfl) (qa_cons (qe_v 1 (pv 1)) (qa_cons qe_int qa_nil))))
  (jq (qb_cons (qs_if (qt_lt  (qe_v 7 (pv 7)) qe_int) (qb_cons (xs_setIx (i := 6) (fun h1 h2 => ps_asg h1 (pg_sub (pv 6) h2 set_list)) (qe_calF c_law_odd dfl_nil (hr.mono (j := 2) (by decide)) (by rfl) (qa_cons (qe_v 1 (pv 1)) qa_nil)) (qe_v 7 (pv 7)))
  (jq (qb_cons (qs_if (qt_w (qw_and (qt_eq (hr.units) (qe_v 7 (pv 7)) qe_int) (qw_and1 (qt_eq (hr.units) (qe_calF c_law_take dfl_nil (hr.mono (j := 1) (by decide)) (by rfl) (qa_cons (qe_v 1 (pv 1)) (qa_cons qe_int qa_nil))) qe_int)))) (qb_one (xs_setIx (i := 6) (fun h1 h2 => ps_asg h1 (pg_sub (pv 6) h2 set_list)) (qe_calF c_law_odd dfl_nil (hr.mono (j := 2) (by decide)) (by rfl) (qa_cons (qe_v 1 (pv 1)) qa_nil)) qe_int)) qb_nil)
  (qb_one (xs_setG (i := 5) (fun h => ps_set (i := 5) sc_law.nd rfl (by first | exact Or.inl rfl | exact Or.inr rfl) h) (qe_tup (qa_cons qe_str (qa_cons (qe_v 7 (pv 7)) qa_nil)))))))) qb_nil)
  (qb_cons (yq_for (qs_for (js := [8]) (fun h1 h2 h3 => ps_for PassesOwn.never rfl h1 h2 h3) (qi_rng (by rfl) T.f_range (qe_add qe_int (qe_calF c_law_take dfl_nil (hr.mono (j := 1) (by decide)) (by rfl) (qa_cons (qe_v 1 (pv 1)) (qa_cons qe_int qa_nil))))) (xq_name (i := 8) (pg_name (i := 8) sc_law.nd rfl (by first | exact Or.inl rfl | exact Or.inr rfl))) (qb_one (qs_if (qt_not (qt_tru (qe_calGF c_law_alike dfl_nil (by exact hgu) (hr.mono (j := 1) (by decide)) (by decide) (by rfl) (qa_cons (qe_calF c_law_told dfl_nil (hr.mono (j := 4) (by decide)) (by rfl) (qa_cons (qe_ixO 6 (pv 6) qe_int) (qa_cons (qe_ixO 6 (pv 6) qe_int) qa_nil))) (qa_cons (qe_v 5 (pv 5)) qa_nil))))) (qb_one (qs_ret qe_bl)) qb_nil))))
  (qb_one (qs_if (qt_not (qt_tru (qe_calGF c_law_alike dfl_nil (by exact hgu) (hr.mono (j := 1) (by decide)) (by decide) (by rfl) (qa_cons (qe_calF c_law_told dfl_nil (hr.mono (j := 4) (by decide)) (by rfl) (qa_cons qe_str (qa_cons qe_str qa_nil))) (qa_cons (qe_tup (qa_cons qe_str (qa_cons qe_str qa_nil))) qa_nil))))) (qb_one (qs_ret qe_bl)) qb_nil)))))))))))))
  (qb_one (qs_ret qe_bl)))
theorem ok_law (hp : p_law lawD (lawG 9)) (T : Tx K mg) (c_law_pair : Cal P w K mg base "_law_pair" 3 ["_law_bag_here"] (spF 1 w_law_pair K) []) (c_law_take : Cal P w K mg base "_law_take" 1 ["_law_bag_here", "_law_many_here"] (spF 2 w_law_take K) []) (c_law_gapped : Cal P w K mg base "_law_gapped" 2 ["_law_bag_here", "_law_many_here"] (spF 2 w_law_gapped K) []) (c_law_due : Cal P w K mg base "_law_due" 1 ["_law_one", "_law_other"] (spF 2 w_law_due K) []) (c_law_odd : Cal P w K mg base "_law_odd" 2 ["_law_bag_here"] (spF 1 w_law_odd K) []) (c_law_told : Cal P w K mg base "_law_told" 4 ["_law_one", "_law_other"] (spF 2 w_law_told K) []) (c_law_alike : CalG P w K mg base 1 "_law_alike" (spF 2 w_law_alike K) []) (c_law_bag : Cal P w K mg base "_law_bag" 1 ["_law_script"] (spBag K) []) {f : Addr} {fd : FuncData} (F : FunD K "law" "law" (defArgs s_law) (defBody s_law) (defScope s_law) [] [] f fd) : FnG P w K mg base 5 f fd ["_law_script"] (spLaw K) := by
  refine okG F sc_law (fun vs H Q E h => by obtain ⟨_, _, rfl, _⟩ := h; rfl) (fun cdv A outer s H vs Q E hgu hr h => ?_)
  have hq := q_law (P := P) (w := w) (base := base) (E := E) (H := H) (outer := outer) T c_law_pair c_law_take c_law_gapped c_law_due c_law_odd c_law_told c_law_alike c_law_bag hgu hr
  obtain ⟨t, h1, h2⟩ := body_law (N := ["_law_script", "_law_bag_here", "_law_k", "_law_one", "_law_other", "_law_due_here", "_law_things", "_law_place", "_law_again"]) (ps_set (i := 1) sc_law.nd rfl (by first | exact Or.inl rfl | exact Or.inr rfl) (pe_cal c_law_bag (hr.mono (j := 1) (by decide)) (by rfl) (pa_cons (pv 0) pa_nil))) hq rfl (by decide) hp h
  exact ⟨t, PSs.nox h1, h2⟩
end
def dd_law_take : He.DefD := ⟨("_law_take", none), "_law_take", "_law_take", defArgs s_law_take, defBody s_law_take, defScope s_law_take, [], []⟩
def dd_law_many : He.DefD := ⟨("_law_many", none), "_law_many", "_law_many", defArgs s_law_many, defBody s_law_many, defScope s_law_many, [], []⟩
def dd_law_gapped : He.DefD := ⟨("_law_gapped", none), "_law_gapped", "_law_gapped", defArgs s_law_gapped, defBody s_law_gapped, defScope s_law_gapped, [], []⟩
def dd_law_pair : He.DefD := ⟨("_law_pair", none), "_law_pair", "_law_pair", defArgs s_law_pair, defBody s_law_pair, defScope s_law_pair, [], []⟩
def dd_law_due : He.DefD := ⟨("_law_due", none), "_law_due", "_law_due", defArgs s_law_due, defBody s_law_due, defScope s_law_due, [], []⟩
def dd_law_odd : He.DefD := ⟨("_law_odd", none), "_law_odd", "_law_odd", defArgs s_law_odd, defBody s_law_odd, defScope s_law_odd, [], []⟩
def dd_is_text_of : He.DefD := ⟨("is_text_of", none), "is_text_of", "is_text_of", defArgs s_is_text_of, defBody s_is_text_of, defScope s_is_text_of, [], []⟩
def dd_is_gapped : He.DefD := ⟨("is_gapped", none), "is_gapped", "is_gapped", defArgs s_is_gapped, defBody s_is_gapped, defScope s_is_gapped, [], []⟩
def dd_Wrong_init : He.DefD := ⟨("Wrong", some "__init__"), "__init__", "Wrong.__init__", defArgs s_Wrong_init, defBody s_Wrong_init, defScope s_Wrong_init, [], []⟩
def dd_Unlike_init : He.DefD := ⟨("Unlike", some "__init__"), "__init__", "Unlike.__init__", defArgs s_Unlike_init, defBody s_Unlike_init, defScope s_Unlike_init, [], []⟩
def dd_Bare_init : He.DefD := ⟨("Bare", some "__init__"), "__init__", "Bare.__init__", defArgs s_Bare_init, defBody s_Bare_init, defScope s_Bare_init, [], []⟩
def dd_path_between_X : He.DefD := ⟨("path_between", none), "path_between", "path_between", defArgs s_path_between_X, defBody s_path_between_X, defScope s_path_between_X, [], []⟩
def dd_law_told : He.DefD := ⟨("_law_told", none), "_law_told", "_law_told", defArgs s_law_told, defBody s_law_told, defScope s_law_told, [], []⟩
def dd_law_alike : He.DefD := ⟨("_law_alike", none), "_law_alike", "_law_alike", defArgs s_law_alike, defBody s_law_alike, defScope s_law_alike, [], []⟩
def dd_law_bag : He.DefD := ⟨("_law_bag", none), "_law_bag", "_law_bag", defArgs s_law_bag, defBody s_law_bag, defScope s_law_bag, [], []⟩
def dd_law : He.DefD := ⟨("law", none), "law", "law", defArgs s_law, defBody s_law, defScope s_law, [], []⟩
def fn : List He.DefD := [dd_law_take, dd_law_many, dd_law_gapped, dd_law_pair, dd_law_due, dd_law_odd, dd_is_text_of, dd_is_gapped, dd_Wrong_init, dd_Unlike_init, dd_Bare_init, dd_path_between_X, dd_law_told, dd_law_alike, dd_law_bag, dd_law]
def fa : List He.Fa := [.free "ValueError", .free "abs", .free "all", .free "enumerate", .free "int", .free "isinstance", .free "len", .free "range", .free "repr", .free "str", .free "zip", .glo "Bare", .glo "LayError", .glo "NoLetter", .glo "NoPlace", .glo "Unlike", .glo "Wrong", .glo "_law_take", .glo "_law_many", .glo "_law_gapped", .glo "_law_pair", .glo "_law_due", .glo "_law_odd", .glo "is_text_of", .glo "is_gapped", .glo "path_between", .glo "_law_told", .glo "_law_alike", .glo "_law_bag", .glo "law"]
def exl : List (Vl.Fg → Bool) := [fun K => raiB K "Bare", fun K => raiB K "Unlike", fun K => raiB K "Wrong", fun K => gvB K "GAP_kinds" (.str "-"), fun K => gvB K "GAP_paths" (.str "-"), fun K => gvB K "LETTERS" (.str "abcdefghijklmnopqrstuvwxyz"), fun K => gvB K "LONGEST_PATH" (.int 120), fun K => hansB K ["Bare", "Unlike", "Wrong"], fun K => kitsB K ["Bare", "Unlike", "Wrong"] "Bare", fun K => kitsB K ["Bare", "Unlike", "Wrong"] "NoLetter", fun K => kitsB K ["Bare", "Unlike", "Wrong"] "NoPlace", fun K => kitsB K ["Bare", "Unlike", "Wrong"] "Unlike", fun K => kitsB K ["Bare", "Unlike", "Wrong"] "Wrong", fun K => layB K "LayError", fun K => exmsB K ["Bare", "Unlike", "Wrong"] "LayError", fun K => nofB K ["Bare", "Unlike", "Wrong"] "at", fun K => kitTB K ["Bare", "Unlike", "Wrong"] "ValueError"]
abbrev R : PySem.W.OpenRow := PySem.W.OpenLaw.row PySem.Challenge.rw_laybeside_k28_between_refused
abbrev hk : PySem.W.Hook := Vl.hookS 4 fa fn (fun K => exl.all fun f => f K)
def ob (s : PySem.W.SharedT) : He.AlD × Bool := Vl.obsS 4 fa fn (fun K => exl.all fun f => f K) (HandSHeadRun.getT s)
theorem ob_eq (s : PySem.W.SharedT) : ob s = hk.obs s.abs := Vl.obsS_eq (HandSHeadRun.getT_eq s)
def nm0 : List PySem.Str := ["LayError", "Wrong", "NoLetter", "Unlike", "NoPlace", "Bare", "LONGEST_PATH", "LETTERS", "GAP_kinds", "is_text_of", "is_gapped", "GAP_paths", "path_between", "_law_bag", "_law_take", "_law_alike", "_law_gapped", "_law_many", "_law_pair", "_law_due", "_law_told", "_law_odd"]
abbrev loose : List PySem.Str := nm0
theorem run (w : World) : HandSHeadRun.RunEq R (PySem.W.view R.prog [26]) hk ob 200000 loose w := by
  intro os
  kernel_rfl
section
variable {P : Program} {w : World} {K : Vl.Fg} {h : Heap} {mg : Str → Option Value}
theorem tx (X : K.In h) (G : h.Ns mainGlobals mg) (c : Vl.SaysS fa fn (fun K => exl.all fun f => f K) K) : Tx K mg :=
  ⟨raiB_ok (all_at 0 c.more rfl),
   raiB_ok (all_at 1 c.more rfl),
   raiB_ok (all_at 2 c.more rfl),
   He.free_ok X G (c.d.fact 0 rfl),
   He.free_ok X G (c.d.fact 1 rfl),
   He.free_ok X G (c.d.fact 2 rfl),
   He.free_ok X G (c.d.fact 3 rfl),
   He.free_ok X G (c.d.fact 4 rfl),
   He.free_ok X G (c.d.fact 5 rfl),
   He.free_ok X G (c.d.fact 6 rfl),
   He.free_ok X G (c.d.fact 7 rfl),
   He.free_ok X G (c.d.fact 8 rfl),
   He.free_ok X G (c.d.fact 9 rfl),
   He.free_ok X G (c.d.fact 10 rfl),
   gvB_ok X G (all_at 3 c.more rfl),
   gvB_ok X G (all_at 4 c.more rfl),
   gvB_ok X G (all_at 5 c.more rfl),
   gvB_ok X G (all_at 6 c.more rfl),
   hansB_ok (all_at 7 c.more rfl),
   kitsB_ok (all_at 8 c.more rfl),
   kitsB_ok (all_at 9 c.more rfl),
   kitsB_ok (all_at 10 c.more rfl),
   kitsB_ok (all_at 11 c.more rfl),
   kitsB_ok (all_at 12 c.more rfl),
   layB_ok (all_at 13 c.more rfl),
   exmsB_ok (all_at 14 c.more rfl),
   nofB_ok (all_at 15 c.more rfl),
   He.glo_ok X G (c.d.fact 11 rfl),
   He.glo_ok X G (c.d.fact 12 rfl),
   He.glo_ok X G (c.d.fact 13 rfl),
   He.glo_ok X G (c.d.fact 14 rfl),
   He.glo_ok X G (c.d.fact 15 rfl),
   He.glo_ok X G (c.d.fact 16 rfl),
   kitTB_ok (all_at 16 c.more rfl)⟩
theorem facts {f : Addr} (X : K.In h) (G : h.Ns mainGlobals mg) (hp : p_law lawD (lawG 9)) (hfa : mg ("law" : Str) = some (.ref f)) (c : Vl.SaysS fa fn (fun K => exl.all fun f => f K) K) :
    ∃ fd : FuncData, (∀ (s : Shared) (v : Value), BindsTo s fd ⟨[v], []⟩ [("_law_script", v)]) ∧ ∀ base : Heap, K.In base → base.Ns mainGlobals mg → FnG P w K mg base 5 f fd ["_law_script"] (spLaw K) := by
  have T := tx X G c
  obtain ⟨fd_law, F_law⟩ := c.d.def_ 15 (d := dd_law) rfl
  have e := hfa.symm.trans (He.glo_ok X G (c.d.fact 29 rfl))
  cases e
  have b := FunD.bindsA (ps := ["_law_script"]) F_law fun _ _ _ _ _ _ us hl => match us, hl with | [_], _ => rfl
  refine ⟨fd_law, fun s v => b s [v] rfl, fun base _ _ => ?_⟩
  obtain ⟨fd_law_take, F_law_take⟩ := c.d.def_ 0 (d := dd_law_take) rfl
  have o_law_take := ok_law_take (P := P) (w := w) (base := base) T  F_law_take
  have c_law_take : Cal P w K mg base "_law_take" 1 ["_law_bag_here", "_law_many_here"] (spF 2 w_law_take K) [] := ⟨fd_law_take, [], o_law_take, (F_law_take.bindsN fun _ _ _ _ _ _ us hl => match us, hl with | [_, _], _ => rfl), .nil, He.glo_ok X G (c.d.fact 17 rfl), F_law_take.kp⟩
  obtain ⟨fd_law_many, F_law_many⟩ := c.d.def_ 1 (d := dd_law_many) rfl
  have o_law_many := ok_law_many (P := P) (w := w) (base := base) T c_law_take F_law_many
  have c_law_many : Cal P w K mg base "_law_many" 2 ["_law_bag_here"] (spF 1 w_law_many K) [] := ⟨fd_law_many, [], o_law_many, (F_law_many.bindsN fun _ _ _ _ _ _ us hl => match us, hl with | [_], _ => rfl), .nil, He.glo_ok X G (c.d.fact 18 rfl), F_law_many.kp⟩
  obtain ⟨fd_law_gapped, F_law_gapped⟩ := c.d.def_ 2 (d := dd_law_gapped) rfl
  have o_law_gapped := ok_law_gapped (P := P) (w := w) (base := base) T c_law_take F_law_gapped
  have c_law_gapped : Cal P w K mg base "_law_gapped" 2 ["_law_bag_here", "_law_many_here"] (spF 2 w_law_gapped K) [] := ⟨fd_law_gapped, [], o_law_gapped, (F_law_gapped.bindsN fun _ _ _ _ _ _ us hl => match us, hl with | [_, _], _ => rfl), .nil, He.glo_ok X G (c.d.fact 19 rfl), F_law_gapped.kp⟩
  obtain ⟨fd_law_pair, F_law_pair⟩ := c.d.def_ 3 (d := dd_law_pair) rfl
  have o_law_pair := ok_law_pair (P := P) (w := w) (base := base) T c_law_many c_law_gapped c_law_take F_law_pair
  have c_law_pair : Cal P w K mg base "_law_pair" 3 ["_law_bag_here"] (spF 1 w_law_pair K) [] := ⟨fd_law_pair, [], o_law_pair, (F_law_pair.bindsN fun _ _ _ _ _ _ us hl => match us, hl with | [_], _ => rfl), .nil, He.glo_ok X G (c.d.fact 20 rfl), F_law_pair.kp⟩
  obtain ⟨fd_law_due, F_law_due⟩ := c.d.def_ 4 (d := dd_law_due) rfl
  have o_law_due := ok_law_due (P := P) (w := w) (base := base) T  F_law_due
  have c_law_due : Cal P w K mg base "_law_due" 1 ["_law_one", "_law_other"] (spF 2 w_law_due K) [] := ⟨fd_law_due, [], o_law_due, (F_law_due.bindsN fun _ _ _ _ _ _ us hl => match us, hl with | [_, _], _ => rfl), .nil, He.glo_ok X G (c.d.fact 21 rfl), F_law_due.kp⟩
  obtain ⟨fd_law_odd, F_law_odd⟩ := c.d.def_ 5 (d := dd_law_odd) rfl
  have o_law_odd := ok_law_odd (P := P) (w := w) (base := base) T c_law_take F_law_odd
  have c_law_odd : Cal P w K mg base "_law_odd" 2 ["_law_bag_here"] (spF 1 w_law_odd K) [] := ⟨fd_law_odd, [], o_law_odd, (F_law_odd.bindsN fun _ _ _ _ _ _ us hl => match us, hl with | [_], _ => rfl), .nil, He.glo_ok X G (c.d.fact 22 rfl), F_law_odd.kp⟩
  obtain ⟨fd_is_text_of, F_is_text_of⟩ := c.d.def_ 6 (d := dd_is_text_of) rfl
  have o_is_text_of := ok_is_text_of (P := P) (w := w) (base := base) T  F_is_text_of
  have c_is_text_of : Cal P w K mg base "is_text_of" 1 ["thing", "signs", "least", "most"] (spF 4 w_is_text_of K) [] := ⟨fd_is_text_of, [], o_is_text_of, (F_is_text_of.bindsN fun _ _ _ _ _ _ us hl => match us, hl with | [_, _, _, _], _ => rfl), .nil, He.glo_ok X G (c.d.fact 23 rfl), F_is_text_of.kp⟩
  obtain ⟨fd_is_gapped, F_is_gapped⟩ := c.d.def_ 7 (d := dd_is_gapped) rfl
  have o_is_gapped := ok_is_gapped (P := P) (w := w) (base := base) T c_is_text_of F_is_gapped
  have c_is_gapped : Cal P w K mg base "is_gapped" 2 ["thing"] (spF 1 w_is_gapped K) [] := ⟨fd_is_gapped, [], o_is_gapped, (F_is_gapped.bindsN fun _ _ _ _ _ _ us hl => match us, hl with | [_], _ => rfl), .nil, He.glo_ok X G (c.d.fact 24 rfl), F_is_gapped.kp⟩
  obtain ⟨fd_Wrong_init, F_Wrong_init⟩ := c.d.def_ 8 (d := dd_Wrong_init) rfl
  have o_Wrong_init := ok_Wrong_init (P := P) (w := w) (base := base) T  F_Wrong_init
  have xe_Wrong : CalE P w K mg base "Wrong" 1 ["self", "at"] := ⟨fd_Wrong_init, o_Wrong_init, (F_Wrong_init.bindsN fun _ _ _ _ _ _ us hl => match us, hl with | [_, _], _ => rfl), T.e_Wrong, He.glo_ok X G (c.d.fact 16 rfl)⟩
  obtain ⟨fd_Unlike_init, F_Unlike_init⟩ := c.d.def_ 9 (d := dd_Unlike_init) rfl
  have o_Unlike_init := ok_Unlike_init (P := P) (w := w) (base := base) T  F_Unlike_init
  have xe_Unlike : CalE0 P w K mg base "Unlike" 1 ["self"] := ⟨fd_Unlike_init, o_Unlike_init, (F_Unlike_init.bindsN fun _ _ _ _ _ _ us hl => match us, hl with | [_], _ => rfl), T.e_Unlike, He.glo_ok X G (c.d.fact 15 rfl)⟩
  obtain ⟨fd_Bare_init, F_Bare_init⟩ := c.d.def_ 10 (d := dd_Bare_init) rfl
  have o_Bare_init := ok_Bare_init (P := P) (w := w) (base := base) T  F_Bare_init
  have xe_Bare : CalE P w K mg base "Bare" 1 ["self", "at"] := ⟨fd_Bare_init, o_Bare_init, (F_Bare_init.bindsN fun _ _ _ _ _ _ us hl => match us, hl with | [_, _], _ => rfl), T.e_Bare, He.glo_ok X G (c.d.fact 11 rfl)⟩
  obtain ⟨fd_path_between_X, F_path_between_X⟩ := c.d.def_ 11 (d := dd_path_between_X) rfl
  have o_path_between_X := ok_path_between_X (P := P) (w := w) (base := base) T c_is_gapped xe_Wrong xe_Unlike xe_Bare F_path_between_X
  have xc_path_between_X : CalX P w K mg base "path_between" 3 ["one", "other"] (spFX 2 w_path_between_X K) [] := ⟨fd_path_between_X, [], o_path_between_X, (F_path_between_X.bindsN fun _ _ _ _ _ _ us hl => match us, hl with | [_, _], _ => rfl), .nil, He.glo_ok X G (c.d.fact 25 rfl), F_path_between_X.kp⟩
  obtain ⟨fd_law_told, F_law_told⟩ := c.d.def_ 12 (d := dd_law_told) rfl
  have o_law_told := ok_law_told (P := P) (w := w) (base := base) T xc_path_between_X F_law_told
  have c_law_told : Cal P w K mg base "_law_told" 4 ["_law_one", "_law_other"] (spF 2 w_law_told K) [] := ⟨fd_law_told, [], o_law_told, (F_law_told.bindsN fun _ _ _ _ _ _ us hl => match us, hl with | [_, _], _ => rfl), .nil, He.glo_ok X G (c.d.fact 26 rfl), F_law_told.kp⟩
  obtain ⟨fd_law_alike, F_law_alike⟩ := c.d.def_ 13 (d := dd_law_alike) rfl
  have o_law_alike := ok_law_alike (P := P) (w := w) (base := base) T  F_law_alike
  have c_law_alike : CalG P w K mg base 1 "_law_alike" (spF 2 w_law_alike K) [] := ⟨_, fd_law_alike, ["_law_found", "_law_due_here"], [], o_law_alike, He.glo_ok X G (c.d.fact 27 rfl), F_law_alike.kp, (F_law_alike.bindsN fun _ _ _ _ _ _ us hl => match us, hl with | [_, _], _ => rfl), .nil⟩
  obtain ⟨fd_law_bag, F_law_bag⟩ := c.d.def_ 14 (d := dd_law_bag) rfl
  have o_law_bag := ok_law_bag (P := P) (w := w) (base := base) T  F_law_bag
  have c_law_bag : Cal P w K mg base "_law_bag" 1 ["_law_script"] (spBag K) [] := ⟨fd_law_bag, [], o_law_bag, (F_law_bag.bindsN fun _ _ _ _ _ _ us hl => match us, hl with | [_], _ => rfl), .nil, He.glo_ok X G (c.d.fact 28 rfl), F_law_bag.kp⟩
  exact ok_law hp T c_law_pair c_law_take c_law_gapped c_law_due c_law_odd c_law_told c_law_alike c_law_bag F_law
end
end Lw
namespace Lw
open PySem PySem.Spec L2 Lb Vl
local macro_rules | `(tactic| walk_at "sd") => `(tactic| first | with_reducible rfl | assumption | omega | (simp only [List.length_map, List.length_range, List.length_append, List.length_cons, List.length_nil]; omega) | rfl | (constructor <;> omega) | (simp only [List.length_map, List.length_range]; constructor <;> omega) | (refine few ?_; simp; done) | (refine few ?_; simp; omega) | (refine few ?_; omega) | (refine few1 ?_; simp; done) | (refine few1 ?_; simp; omega) | walk_at "sdx" | (simp; done) | (simp; omega))
local macro_rules | `(tactic| walk_at "sdx") => `(tactic| fail)
local macro_rules | `(tactic| walk_at "call") => `(tactic| fail)
local macro_rules | `(tactic| walk_at "go1") => `(tactic| first | walk_at "call" | refine And.intro (by walk_at "sd") ?_ | refine bift (by walk_at "sd") ?_ | refine biff (by walk_at "sd") ?_ | refine nbift (by walk_at "sd") ?_ | refine nbiff (by walk_at "sd") ?_ | with_reducible refine yfor_cons ?_ | with_reducible refine yfor_nil ?_ | with_reducible refine ylc_cons ?_ | with_reducible refine ylc_nil ?_ | rw [peq_int])
local macro_rules | `(tactic| walk_at "go") => `(tactic| ((repeat ((conv => whnf); walk_at "go1")); try (conv => whnf)))
/-- a comprehension whose element is told for each item -/
theorem lcM {α : Type} {g : GG} {e : GE} {γ : G} {h f : α → PV} : ∀ {l : List α} {Q : List PV → Prop}, (∀ a ∈ l, ∀ Q, Q (f a) → g (h a) γ fun γ2 => e γ2 Q) → Q (l.map f) → lcP g pYes e γ (l.map h) Q
  | [], _, _, k => k
  | a :: l, Q, hf, k => by
    show g (h a) γ fun γ2 => pYes γ2 fun b => bfi b (e γ2 fun y => lcP g pYes e γ (l.map h) fun ys => Q (y :: ys)) (lcP g pYes e γ (l.map h) Q)
    exact hf a (by simp) _ (lcM (fun b m => hf b (by simp [m])) k)
theorem len_pv {α : Type} {f : α → PV} {l : List α} (h : l.length ≤ 1000) : (l.map f).length ≤ sizeLine := by rw [List.length_map]; exact few h
theorem peq_int (i j : Int) : peq (.int i) (.int j) = decide (i = j) := by
  simp only [peq, toD, PyData.eqv]
  by_cases h : i = j
  · simp [h]
  · simp [h]
theorem atI_at {α β : Type} {f : α → β} {l : List α} {n : Nat} {a : α} (h : l[n]? = some a) : atI (l.map f) (n : Int) = some (f a) := by
  have hn : n < l.length := (List.getElem?_eq_some_iff.mp h).1
  unfold atI ixN
  rw [List.length_map, if_pos (by omega), if_pos (by omega)]
  simp [h]
/-- a field -/
structure Fd where
  pairs : List (List Int)
  over : List Int
  under : List Int
  op : Int
def Fd.pr (F : Fd) (i j : Nat) : Int := (F.pairs.getD i []).getD j 0
def Fd.ov (F : Fd) (i : Nat) : Int := F.over.getD i 0
def Fd.un (F : Fd) (j : Nat) : Int := F.under.getD j 0
end Lw
namespace Lw
open PySem PySem.Spec L2 Lb Vl
local macro_rules | `(tactic| walk_at "sd") => `(tactic| first | with_reducible rfl | assumption | omega | (simp only [List.length_map, List.length_range, List.length_append, List.length_cons, List.length_nil]; omega) | rfl | (constructor <;> omega) | (simp only [List.length_map, List.length_range]; constructor <;> omega) | (refine few ?_; simp; done) | (refine few ?_; simp; omega) | (refine few ?_; omega) | (refine few1 ?_; simp; done) | (refine few1 ?_; simp; omega) | walk_at "sdx" | (simp; done) | (simp; omega))
local macro_rules | `(tactic| walk_at "sdx") => `(tactic| fail)
local macro_rules | `(tactic| walk_at "call") => `(tactic| fail)
local macro_rules | `(tactic| walk_at "go1") => `(tactic| first | walk_at "call" | refine And.intro (by walk_at "sd") ?_ | refine bift (by walk_at "sd") ?_ | refine biff (by walk_at "sd") ?_ | refine nbift (by walk_at "sd") ?_ | refine nbiff (by walk_at "sd") ?_ | with_reducible refine yfor_cons ?_ | with_reducible refine yfor_nil ?_ | with_reducible refine ylc_cons ?_ | with_reducible refine ylc_nil ?_ | rw [peq_int])
local macro_rules | `(tactic| walk_at "go") => `(tactic| ((repeat ((conv => whnf); walk_at "go1")); try (conv => whnf)))
inductive Stp where
  | b | o | u
  deriving DecidableEq
def Stp.s : Stp → Str
  | .b => "b"
  | .o => "o"
  | .u => "u"
structure Ens where
  oh : Bool
  ot : Bool
  uh : Bool
  ut : Bool
theorem bools_f {α : Type} {f : α → Bool} (l : List α) : pBools (l.map fun x => PV.bl (f x)) = some (l.map f) := bools_map l
theorem allB_f {α : Type} {f : α → Bool} (l : List α) : allB (l.map f) = l.all f := by simp [allB]
theorem L_is_text_of {z sg : Str} {lo hi : Int} {Q : PV → Prop} (hz : z.length ≤ 1000) (k : Q (.bl (decide (lo ≤ (z.length : Int) ∧ (z.length : Int) ≤ hi) && z.cps.toList.all fun c => decide (c ∈ sg.cps.toList)))) : w_is_text_of [.str z, .str sg, .int lo, .int hi] Q := by
  rw [e_is_text_of]
  (conv => whnf)
  refine ⟨few hz, ?_⟩
  (conv => whnf)
  by_cases h : lo ≤ (z.length : Int)
  · rw [decide_eq_true h]
    (conv => whnf)
    by_cases h' : (z.length : Int) ≤ hi
    · rw [decide_eq_true h']
      (conv => whnf)
      refine ⟨len_pv (by simpa [Str.length] using hz), lcM (f := fun c => .bl (decide (c ∈ sg.cps.toList))) (fun c m Q k => ⟨rfl, k⟩) ?_⟩
      (conv => whnf)
      rw [bools_f]
      show Q (.bl (allB _))
      rw [allB_f]
      have : decide (lo ≤ (z.length : Int) ∧ (z.length : Int) ≤ hi) = true := decide_eq_true ⟨h, h'⟩
      rw [this, Bool.true_and] at k; exact k
    · rw [decide_eq_false h']
      (conv => whnf)
      have : decide (lo ≤ (z.length : Int) ∧ (z.length : Int) ≤ hi) = false := decide_eq_false (fun z => h' z.2)
      rw [this, Bool.false_and] at k; exact k
  · rw [decide_eq_false h]
    (conv => whnf)
    have : decide (lo ≤ (z.length : Int) ∧ (z.length : Int) ≤ hi) = false := decide_eq_false (fun z => h z.1)
    rw [this, Bool.false_and] at k; exact k
def sw (F : Fd) (e : Ens) (i j : Nat) (s a : Stp) : Int := match s with
  | .b => F.pr i j
  | .o => if (j = 0 ∧ e.oh = true) ∨ (j = F.under.length ∧ e.ot = true) then 0 else -(F.ov i + if a = .o then 0 else F.op)
  | .u => if (i = 0 ∧ e.uh = true) ∨ (i = F.over.length ∧ e.ut = true) then 0 else -(F.un j + if a = .u then 0 else F.op)
end Lw
namespace Lw
open PySem PySem.Spec L2 Lb Vl
local macro_rules | `(tactic| walk_at "sd") => `(tactic| first | with_reducible rfl | assumption | omega | (simp only [List.length_map, List.length_range, List.length_append, List.length_cons, List.length_nil]; omega) | rfl | (constructor <;> omega) | (simp only [List.length_map, List.length_range]; constructor <;> omega) | (refine few ?_; simp; done) | (refine few ?_; simp; omega) | (refine few ?_; omega) | (refine few1 ?_; simp; done) | (refine few1 ?_; simp; omega) | walk_at "sdx" | (simp; done) | (simp; omega))
local macro_rules | `(tactic| walk_at "sdx") => `(tactic| fail)
local macro_rules | `(tactic| walk_at "call") => `(tactic| fail)
local macro_rules | `(tactic| walk_at "go1") => `(tactic| first | walk_at "call" | refine And.intro (by walk_at "sd") ?_ | refine bift (by walk_at "sd") ?_ | refine biff (by walk_at "sd") ?_ | refine nbift (by walk_at "sd") ?_ | refine nbiff (by walk_at "sd") ?_ | with_reducible refine yfor_cons ?_ | with_reducible refine yfor_nil ?_ | with_reducible refine ylc_cons ?_ | with_reducible refine ylc_nil ?_ | rw [peq_int])
local macro_rules | `(tactic| walk_at "go") => `(tactic| ((repeat ((conv => whnf); walk_at "go1")); try (conv => whnf)))
theorem few1 {n : Nat} (h : n + 1 ≤ 1000) : n < sizeLine := few h
structure Ld where
  s : Stp
  i : Nat
  j : Nat
  g : Int
  o : Int
def lds (F : Fd) (e : Ens) (i j : Nat) : List Ld :=
  (if i < F.over.length ∧ j < F.under.length then [⟨.b, i + 1, j + 1, F.pr i j, F.pr i j⟩] else []) ++
  (if i < F.over.length then [⟨.o, i + 1, j, sw F e i j .o .o, sw F e i j .o .b⟩] else []) ++
  (if j < F.under.length then [⟨.u, i, j + 1, sw F e i j .u .u, sw F e i j .u .b⟩] else [])
end Lw
namespace Lw
open PySem PySem.Spec L2 Lb Vl
local macro_rules | `(tactic| walk_at "sd") => `(tactic| first | with_reducible rfl | assumption | omega | (simp only [List.length_map, List.length_range, List.length_append, List.length_cons, List.length_nil]; omega) | rfl | (constructor <;> omega) | (simp only [List.length_map, List.length_range]; constructor <;> omega) | (refine few ?_; simp; done) | (refine few ?_; simp; omega) | (refine few ?_; omega) | (refine few1 ?_; simp; done) | (refine few1 ?_; simp; omega) | walk_at "sdx" | (simp; done) | (simp; omega))
local macro_rules | `(tactic| walk_at "sdx") => `(tactic| fail)
local macro_rules | `(tactic| walk_at "call") => `(tactic| fail)
local macro_rules | `(tactic| walk_at "go1") => `(tactic| first | walk_at "call" | refine And.intro (by walk_at "sd") ?_ | refine bift (by walk_at "sd") ?_ | refine biff (by walk_at "sd") ?_ | refine nbift (by walk_at "sd") ?_ | refine nbiff (by walk_at "sd") ?_ | with_reducible refine yfor_cons ?_ | with_reducible refine yfor_nil ?_ | with_reducible refine ylc_cons ?_ | with_reducible refine ylc_nil ?_ | rw [peq_int])
local macro_rules | `(tactic| walk_at "go") => `(tactic| ((repeat ((conv => whnf); walk_at "go1")); try (conv => whnf)))
abbrev Tb := Nat → Nat → Stp → Int
def tr (f : Tb) (a : Stp) (x : Ld) : Int := f x.i x.j x.s + if x.s = a then x.g else x.o
end Lw
namespace Lw
open PySem PySem.Spec L2 Lb Vl
local macro_rules | `(tactic| walk_at "sd") => `(tactic| first | with_reducible rfl | assumption | omega | (simp only [List.length_map, List.length_range, List.length_append, List.length_cons, List.length_nil]; omega) | rfl | (constructor <;> omega) | (simp only [List.length_map, List.length_range]; constructor <;> omega) | (refine few ?_; simp; done) | (refine few ?_; simp; omega) | (refine few ?_; omega) | (refine few1 ?_; simp; done) | (refine few1 ?_; simp; omega) | walk_at "sdx" | (simp; done) | (simp; omega))
local macro_rules | `(tactic| walk_at "sdx") => `(tactic| fail)
local macro_rules | `(tactic| walk_at "call") => `(tactic| fail)
local macro_rules | `(tactic| walk_at "go1") => `(tactic| first | walk_at "call" | refine And.intro (by walk_at "sd") ?_ | refine bift (by walk_at "sd") ?_ | refine biff (by walk_at "sd") ?_ | refine nbift (by walk_at "sd") ?_ | refine nbiff (by walk_at "sd") ?_ | with_reducible refine yfor_cons ?_ | with_reducible refine yfor_nil ?_ | with_reducible refine ylc_cons ?_ | with_reducible refine ylc_nil ?_ | rw [peq_int])
local macro_rules | `(tactic| walk_at "go") => `(tactic| ((repeat ((conv => whnf); walk_at "go1")); try (conv => whnf)))
theorem lds_len {F : Fd} {e : Ens} {i j : Nat} : (lds F e i j).length ≤ 10 := by
  simp only [lds, List.length_append]
  split <;> split <;> split <;> simp
end Lw
namespace Lw
open PySem PySem.Spec L2 Lb Vl
local macro_rules | `(tactic| walk_at "sd") => `(tactic| first | with_reducible rfl | assumption | omega | (simp only [List.length_map, List.length_range, List.length_append, List.length_cons, List.length_nil]; omega) | rfl | (constructor <;> omega) | (simp only [List.length_map, List.length_range]; constructor <;> omega) | (refine few ?_; simp; done) | (refine few ?_; simp; omega) | (refine few ?_; omega) | (refine few1 ?_; simp; done) | (refine few1 ?_; simp; omega) | walk_at "sdx" | (simp; done) | (simp; omega))
local macro_rules | `(tactic| walk_at "sdx") => `(tactic| fail)
local macro_rules | `(tactic| walk_at "call") => `(tactic| fail)
local macro_rules | `(tactic| walk_at "go1") => `(tactic| first | walk_at "call" | refine And.intro (by walk_at "sd") ?_ | refine bift (by walk_at "sd") ?_ | refine biff (by walk_at "sd") ?_ | refine nbift (by walk_at "sd") ?_ | refine nbiff (by walk_at "sd") ?_ | with_reducible refine yfor_cons ?_ | with_reducible refine yfor_nil ?_ | with_reducible refine ylc_cons ?_ | with_reducible refine ylc_nil ?_ | rw [peq_int])
local macro_rules | `(tactic| walk_at "go") => `(tactic| ((repeat ((conv => whnf); walk_at "go1")); try (conv => whnf)))
end Lw
namespace Lw
open PySem PySem.Spec L2 Lb Vl
local macro_rules | `(tactic| walk_at "sd") => `(tactic| first | with_reducible rfl | assumption | omega | (simp only [List.length_map, List.length_range, List.length_append, List.length_cons, List.length_nil]; omega) | rfl | (constructor <;> omega) | (simp only [List.length_map, List.length_range]; constructor <;> omega) | (refine few ?_; simp; done) | (refine few ?_; simp; omega) | (refine few ?_; omega) | (refine few1 ?_; simp; done) | (refine few1 ?_; simp; omega) | walk_at "sdx" | (simp; done) | (simp; omega))
local macro_rules | `(tactic| walk_at "sdx") => `(tactic| fail)
local macro_rules | `(tactic| walk_at "call") => `(tactic| fail)
local macro_rules | `(tactic| walk_at "go1") => `(tactic| first | walk_at "call" | refine And.intro (by walk_at "sd") ?_ | refine bift (by walk_at "sd") ?_ | refine biff (by walk_at "sd") ?_ | refine nbift (by walk_at "sd") ?_ | refine nbiff (by walk_at "sd") ?_ | with_reducible refine yfor_cons ?_ | with_reducible refine yfor_nil ?_ | with_reducible refine ylc_cons ?_ | with_reducible refine ylc_nil ?_ | rw [peq_int])
local macro_rules | `(tactic| walk_at "go") => `(tactic| ((repeat ((conv => whnf); walk_at "go1")); try (conv => whnf)))
end Lw
namespace Lw
open PySem PySem.Spec L2 Lb Vl
local macro_rules | `(tactic| walk_at "sd") => `(tactic| first | with_reducible rfl | assumption | omega | (simp only [List.length_map, List.length_range, List.length_append, List.length_cons, List.length_nil]; omega) | rfl | (constructor <;> omega) | (simp only [List.length_map, List.length_range]; constructor <;> omega) | (refine few ?_; simp; done) | (refine few ?_; simp; omega) | (refine few ?_; omega) | (refine few1 ?_; simp; done) | (refine few1 ?_; simp; omega) | walk_at "sdx" | (simp; done) | (simp; omega))
local macro_rules | `(tactic| walk_at "sdx") => `(tactic| fail)
local macro_rules | `(tactic| walk_at "call") => `(tactic| fail)
local macro_rules | `(tactic| walk_at "go1") => `(tactic| first | walk_at "call" | refine And.intro (by walk_at "sd") ?_ | refine bift (by walk_at "sd") ?_ | refine biff (by walk_at "sd") ?_ | refine nbift (by walk_at "sd") ?_ | refine nbiff (by walk_at "sd") ?_ | with_reducible refine yfor_cons ?_ | with_reducible refine yfor_nil ?_ | with_reducible refine ylc_cons ?_ | with_reducible refine ylc_nil ?_ | rw [peq_int])
local macro_rules | `(tactic| walk_at "go") => `(tactic| ((repeat ((conv => whnf); walk_at "go1")); try (conv => whnf)))
end Lw
namespace Lw
open PySem PySem.Spec L2 Lb Vl
local macro_rules | `(tactic| walk_at "sd") => `(tactic| first | with_reducible rfl | assumption | omega | (simp only [List.length_map, List.length_range, List.length_append, List.length_cons, List.length_nil]; omega) | rfl | (constructor <;> omega) | (simp only [List.length_map, List.length_range]; constructor <;> omega) | (refine few ?_; simp; done) | (refine few ?_; simp; omega) | (refine few ?_; omega) | (refine few1 ?_; simp; done) | (refine few1 ?_; simp; omega) | walk_at "sdx" | (simp; done) | (simp; omega))
local macro_rules | `(tactic| walk_at "sdx") => `(tactic| fail)
local macro_rules | `(tactic| walk_at "call") => `(tactic| fail)
local macro_rules | `(tactic| walk_at "go1") => `(tactic| first | walk_at "call" | refine And.intro (by walk_at "sd") ?_ | refine bift (by walk_at "sd") ?_ | refine biff (by walk_at "sd") ?_ | refine nbift (by walk_at "sd") ?_ | refine nbiff (by walk_at "sd") ?_ | with_reducible refine yfor_cons ?_ | with_reducible refine yfor_nil ?_ | with_reducible refine ylc_cons ?_ | with_reducible refine ylc_nil ?_ | rw [peq_int])
local macro_rules | `(tactic| walk_at "go") => `(tactic| ((repeat ((conv => whnf); walk_at "go1")); try (conv => whnf)))
end Lw
namespace Lw
open PySem PySem.Spec L2 Lb Vl
local macro_rules | `(tactic| walk_at "sd") => `(tactic| first | with_reducible rfl | assumption | omega | (simp only [List.length_map, List.length_range, List.length_append, List.length_cons, List.length_nil]; omega) | rfl | (constructor <;> omega) | (simp only [List.length_map, List.length_range]; constructor <;> omega) | (refine few ?_; simp; done) | (refine few ?_; simp; omega) | (refine few ?_; omega) | (refine few1 ?_; simp; done) | (refine few1 ?_; simp; omega) | walk_at "sdx" | (simp; done) | (simp; omega))
local macro_rules | `(tactic| walk_at "sdx") => `(tactic| fail)
local macro_rules | `(tactic| walk_at "call") => `(tactic| fail)
local macro_rules | `(tactic| walk_at "go1") => `(tactic| first | walk_at "call" | refine And.intro (by walk_at "sd") ?_ | refine bift (by walk_at "sd") ?_ | refine biff (by walk_at "sd") ?_ | refine nbift (by walk_at "sd") ?_ | refine nbiff (by walk_at "sd") ?_ | with_reducible refine yfor_cons ?_ | with_reducible refine yfor_nil ?_ | with_reducible refine ylc_cons ?_ | with_reducible refine ylc_nil ?_ | rw [peq_int])
local macro_rules | `(tactic| walk_at "go") => `(tactic| ((repeat ((conv => whnf); walk_at "go1")); try (conv => whnf)))
theorem listOf {α β : Type} {f : α → β} {p : α → Prop} : ∀ {ys : List β}, (∀ y ∈ ys, ∃ a, y = f a ∧ p a) → ∃ l : List α, ys = l.map f ∧ ∀ a ∈ l, p a
  | [], _ => ⟨[], rfl, by simp⟩
  | y :: ys, h => by
    obtain ⟨a, rfl, ha⟩ := h y (by simp)
    obtain ⟨l, rfl, hl⟩ := listOf (ys := ys) fun z m => h z (by simp [m])
    exact ⟨a :: l, rfl, fun b m => (List.mem_cons.mp m).elim (fun e => e ▸ ha) (hl b)⟩
end Lw
namespace Lw
open PySem PySem.Spec L2 Lb Vl
local macro_rules | `(tactic| walk_at "sd") => `(tactic| first | with_reducible rfl | assumption | omega | (simp only [List.length_map, List.length_range, List.length_append, List.length_cons, List.length_nil]; omega) | rfl | (constructor <;> omega) | (simp only [List.length_map, List.length_range]; constructor <;> omega) | (refine few ?_; simp; done) | (refine few ?_; simp; omega) | (refine few ?_; omega) | (refine few1 ?_; simp; done) | (refine few1 ?_; simp; omega) | walk_at "sdx" | (simp; done) | (simp; omega))
local macro_rules | `(tactic| walk_at "sdx") => `(tactic| fail)
local macro_rules | `(tactic| walk_at "call") => `(tactic| fail)
local macro_rules | `(tactic| walk_at "go1") => `(tactic| first | walk_at "call" | refine And.intro (by walk_at "sd") ?_ | refine bift (by walk_at "sd") ?_ | refine biff (by walk_at "sd") ?_ | refine nbift (by walk_at "sd") ?_ | refine nbiff (by walk_at "sd") ?_ | with_reducible refine yfor_cons ?_ | with_reducible refine yfor_nil ?_ | with_reducible refine ylc_cons ?_ | with_reducible refine ylc_nil ?_ | rw [peq_int])
local macro_rules | `(tactic| walk_at "go") => `(tactic| ((repeat ((conv => whnf); walk_at "go1")); try (conv => whnf)))
end Lw
namespace Lw
open PySem PySem.Spec L2 Lb Vl
local macro_rules | `(tactic| walk_at "sd") => `(tactic| first | with_reducible rfl | assumption | omega | (simp only [List.length_map, List.length_range, List.length_append, List.length_cons, List.length_nil]; omega) | rfl | (constructor <;> omega) | (simp only [List.length_map, List.length_range]; constructor <;> omega) | (refine few ?_; simp; done) | (refine few ?_; simp; omega) | (refine few ?_; omega) | (refine few1 ?_; simp; done) | (refine few1 ?_; simp; omega) | walk_at "sdx" | (simp; done) | (simp; omega))
local macro_rules | `(tactic| walk_at "sdx") => `(tactic| fail)
local macro_rules | `(tactic| walk_at "call") => `(tactic| fail)
local macro_rules | `(tactic| walk_at "go1") => `(tactic| first | walk_at "call" | refine And.intro (by walk_at "sd") ?_ | refine bift (by walk_at "sd") ?_ | refine biff (by walk_at "sd") ?_ | refine nbift (by walk_at "sd") ?_ | refine nbiff (by walk_at "sd") ?_ | with_reducible refine yfor_cons ?_ | with_reducible refine yfor_nil ?_ | with_reducible refine ylc_cons ?_ | with_reducible refine ylc_nil ?_ | rw [peq_int])
local macro_rules | `(tactic| walk_at "go") => `(tactic| ((repeat ((conv => whnf); walk_at "go1")); try (conv => whnf)))
theorem L_law_alike {x : PV} (h : shw x) {Q : PV → Prop} (k : Q (.bl true)) : w_law_alike [x, x] Q := by
  rw [e_law_alike]
  (conv => whnf)
  refine ⟨h.1, h.1, ?_⟩
  rw [peq_refl h.1]
  (conv => whnf)
  refine ⟨h, ?_⟩
  (conv => whnf)
  refine ⟨h, ?_⟩
  (conv => whnf)
  rw [decide_eq_true rfl]
  exact k
end Lw
namespace Lw
open PySem PySem.Spec L2 Lb Vl
local macro_rules | `(tactic| walk_at "sd") => `(tactic| first | with_reducible rfl | assumption | omega | (simp only [List.length_map, List.length_range, List.length_append, List.length_cons, List.length_nil]; omega) | rfl | (constructor <;> omega) | (simp only [List.length_map, List.length_range]; constructor <;> omega) | (refine few ?_; simp; done) | (refine few ?_; simp; omega) | (refine few ?_; omega) | (refine few1 ?_; simp; done) | (refine few1 ?_; simp; omega) | walk_at "sdx" | (simp; done) | (simp; omega))
local macro_rules | `(tactic| walk_at "sdx") => `(tactic| fail)
local macro_rules | `(tactic| walk_at "call") => `(tactic| fail)
local macro_rules | `(tactic| walk_at "go1") => `(tactic| first | walk_at "call" | refine And.intro (by walk_at "sd") ?_ | refine bift (by walk_at "sd") ?_ | refine biff (by walk_at "sd") ?_ | refine nbift (by walk_at "sd") ?_ | refine nbiff (by walk_at "sd") ?_ | with_reducible refine yfor_cons ?_ | with_reducible refine yfor_nil ?_ | with_reducible refine ylc_cons ?_ | with_reducible refine ylc_nil ?_ | rw [peq_int])
local macro_rules | `(tactic| walk_at "go") => `(tactic| ((repeat ((conv => whnf); walk_at "go1")); try (conv => whnf)))
end Lw
namespace Lw
open PySem PySem.Spec L2 Lb Vl
local macro_rules | `(tactic| walk_at "sd") => `(tactic| first | with_reducible rfl | assumption | omega | (simp only [List.length_map, List.length_range, List.length_append, List.length_cons, List.length_nil]; omega) | rfl | (constructor <;> omega) | (simp only [List.length_map, List.length_range]; constructor <;> omega) | (refine few ?_; simp; done) | (refine few ?_; simp; omega) | (refine few ?_; omega) | (refine few1 ?_; simp; done) | (refine few1 ?_; simp; omega) | walk_at "sdx" | (simp; done) | (simp; omega))
local macro_rules | `(tactic| walk_at "sdx") => `(tactic| fail)
local macro_rules | `(tactic| walk_at "call") => `(tactic| fail)
local macro_rules | `(tactic| walk_at "go1") => `(tactic| first | walk_at "call" | refine And.intro (by walk_at "sd") ?_ | refine bift (by walk_at "sd") ?_ | refine biff (by walk_at "sd") ?_ | refine nbift (by walk_at "sd") ?_ | refine nbiff (by walk_at "sd") ?_ | with_reducible refine yfor_cons ?_ | with_reducible refine yfor_nil ?_ | with_reducible refine ylc_cons ?_ | with_reducible refine ylc_nil ?_ | rw [peq_int])
local macro_rules | `(tactic| walk_at "go") => `(tactic| ((repeat ((conv => whnf); walk_at "go1")); try (conv => whnf)))
def Stp.c : Stp → Nat
  | .b => 98
  | .o => 111
  | .u => 117
theorem stp_s (s : Stp) : s.s = ⟨#[s.c]⟩ := by cases s <;> decide +kernel
def pst (p : List Stp) : Str := ⟨(p.map Stp.c).toArray⟩
theorem join_nil : ∀ ys : List (List Nat), TL.joinL [] ys = ys.flatten
  | [] => rfl
  | [p] => by simp [TL.joinL]
  | p :: q :: r => by
    have := join_nil (q :: r)
    simp only [TL.joinL, this, List.nil_append, List.flatten_cons]
theorem flat_c (p : List Stp) : (p.map fun s => [s.c]).flatten = p.map Stp.c := by
  induction p with
  | nil => rfl
  | cons s t ih => simp only [List.map_cons, List.flatten_cons, ih]; rfl
theorem join_p (p : List Stp) : Txt.join (Str.ofString "") (p.map Stp.s) = pst p := by
  have h : p.map Stp.s = (p.map fun s => [s.c]).map SX.S := by
    rw [List.map_map]; apply List.map_congr_left; intro s _; rw [stp_s]; rfl
  have e : (Str.ofString "") = SX.S [] := by decide +kernel
  rw [h, e, SX.join_S, join_nil, flat_c]; rfl
theorem strs_p (p : List Stp) : pStrs (p.map fun s => PV.str s.s) = some (p.map Stp.s) := by
  induction p with
  | nil => rfl
  | cons s t ih => simp only [List.map_cons, pStrs, ih]; rfl
theorem lens_p (p : List Stp) : ((p.map Stp.s).map (·.length)).sum = p.length := by
  induction p with
  | nil => rfl
  | cons s t ih =>
    simp only [List.map_cons, List.sum_cons, List.length_cons, ih]
    rw [stp_s]; show 1 + _ = _; omega
theorem dat_p (p : List Stp) : dat 8 (.str (pst p)) = true := by
  show (pst p).cps.all (· < 0x110000) = true
  unfold pst
  simp only [List.all_toArray, List.all_map, List.all_eq_true]
  intro s _
  cases s <;> rfl
theorem lds_len3 {F : Fd} {e : Ens} {i j : Nat} : (lds F e i j).length ≤ 1000 := by
  have := lds_len (F := F) (e := e) (i := i) (j := j); omega
local macro_rules | `(tactic| walk_at "sdx") => `(tactic| exact len_pv lds_len3)
end Lw
namespace Lw
open PySem PySem.Spec L2 Lb Vl
local macro_rules | `(tactic| walk_at "sd") => `(tactic| first | with_reducible rfl | assumption | omega | (simp only [List.length_map, List.length_range, List.length_append, List.length_cons, List.length_nil]; omega) | rfl | (constructor <;> omega) | (simp only [List.length_map, List.length_range]; constructor <;> omega) | (refine few ?_; simp; done) | (refine few ?_; simp; omega) | (refine few ?_; omega) | (refine few1 ?_; simp; done) | (refine few1 ?_; simp; omega) | walk_at "sdx" | (simp; done) | (simp; omega))
local macro_rules | `(tactic| walk_at "sdx") => `(tactic| fail)
local macro_rules | `(tactic| walk_at "call") => `(tactic| fail)
local macro_rules | `(tactic| walk_at "go1") => `(tactic| first | walk_at "call" | refine And.intro (by walk_at "sd") ?_ | refine bift (by walk_at "sd") ?_ | refine biff (by walk_at "sd") ?_ | refine nbift (by walk_at "sd") ?_ | refine nbiff (by walk_at "sd") ?_ | with_reducible refine yfor_cons ?_ | with_reducible refine yfor_nil ?_ | with_reducible refine ylc_cons ?_ | with_reducible refine ylc_nil ?_ | rw [peq_int])
local macro_rules | `(tactic| walk_at "go") => `(tactic| ((repeat ((conv => whnf); walk_at "go1")); try (conv => whnf)))
local macro_rules | `(tactic| walk_at "sdx") => `(tactic| exact len_pv lds_len3)
def Stp.di : Stp → Nat
  | .u => 0
  | _ => 1
def Stp.dj : Stp → Nat
  | .o => 0
  | _ => 1
def Goes (h w : Nat) : Nat → Nat → List Stp → Prop
  | i, j, [] => i = h ∧ j = w
  | i, j, s :: t => i + s.di ≤ h ∧ j + s.dj ≤ w ∧ Goes h w (i + s.di) (j + s.dj) t
theorem Goes.len {h w : Nat} : ∀ {p : List Stp} {i j : Nat}, Goes h w i j p → i ≤ h ∧ j ≤ w ∧ p.length ≤ (h - i) + (w - j)
  | [], i, j, g => by obtain ⟨rfl, rfl⟩ := g; simp
  | s :: t, i, j, g => by
    obtain ⟨g1, g2, g3⟩ := g
    have := Goes.len g3
    cases s <;> simp [Stp.di, Stp.dj] at * <;> omega
end Lw
namespace Lw
open PySem PySem.Spec L2 Lb Vl
local macro_rules | `(tactic| walk_at "sd") => `(tactic| first | with_reducible rfl | assumption | omega | (simp only [List.length_map, List.length_range, List.length_append, List.length_cons, List.length_nil]; omega) | rfl | (constructor <;> omega) | (simp only [List.length_map, List.length_range]; constructor <;> omega) | (refine few ?_; simp; done) | (refine few ?_; simp; omega) | (refine few ?_; omega) | (refine few1 ?_; simp; done) | (refine few1 ?_; simp; omega) | walk_at "sdx" | (simp; done) | (simp; omega))
local macro_rules | `(tactic| walk_at "sdx") => `(tactic| fail)
local macro_rules | `(tactic| walk_at "call") => `(tactic| fail)
local macro_rules | `(tactic| walk_at "go1") => `(tactic| first | walk_at "call" | refine And.intro (by walk_at "sd") ?_ | refine bift (by walk_at "sd") ?_ | refine biff (by walk_at "sd") ?_ | refine nbift (by walk_at "sd") ?_ | refine nbiff (by walk_at "sd") ?_ | with_reducible refine yfor_cons ?_ | with_reducible refine yfor_nil ?_ | with_reducible refine ylc_cons ?_ | with_reducible refine ylc_nil ?_ | rw [peq_int])
local macro_rules | `(tactic| walk_at "go") => `(tactic| ((repeat ((conv => whnf); walk_at "go1")); try (conv => whnf)))
local macro_rules | `(tactic| walk_at "sdx") => `(tactic| exact len_pv lds_len3)
theorem len_p (p : List Stp) : (pst p).length = p.length := by simp [pst, Str.length]
def ct (t : Stp) (p : List Stp) : Nat := p.countP (fun s => decide (s = t))
end Lw
namespace Lw
open PySem PySem.Spec L2 Lb Vl
local macro_rules | `(tactic| walk_at "sd") => `(tactic| first | with_reducible rfl | assumption | omega | (simp only [List.length_map, List.length_range, List.length_append, List.length_cons, List.length_nil]; omega) | rfl | (constructor <;> omega) | (simp only [List.length_map, List.length_range]; constructor <;> omega) | (refine few ?_; simp; done) | (refine few ?_; simp; omega) | (refine few ?_; omega) | (refine few1 ?_; simp; done) | (refine few1 ?_; simp; omega) | walk_at "sdx" | (simp; done) | (simp; omega))
local macro_rules | `(tactic| walk_at "sdx") => `(tactic| fail)
local macro_rules | `(tactic| walk_at "call") => `(tactic| fail)
local macro_rules | `(tactic| walk_at "go1") => `(tactic| first | walk_at "call" | refine And.intro (by walk_at "sd") ?_ | refine bift (by walk_at "sd") ?_ | refine biff (by walk_at "sd") ?_ | refine nbift (by walk_at "sd") ?_ | refine nbiff (by walk_at "sd") ?_ | with_reducible refine yfor_cons ?_ | with_reducible refine yfor_nil ?_ | with_reducible refine ylc_cons ?_ | with_reducible refine ylc_nil ?_ | rw [peq_int])
local macro_rules | `(tactic| walk_at "go") => `(tactic| ((repeat ((conv => whnf); walk_at "go1")); try (conv => whnf)))
local macro_rules | `(tactic| walk_at "sdx") => `(tactic| exact len_pv lds_len3)
end Lw
namespace Lw
open PySem PySem.Spec L2 Lb Vl
local macro_rules | `(tactic| walk_at "sd") => `(tactic| first | with_reducible rfl | assumption | omega | (simp only [List.length_map, List.length_range, List.length_append, List.length_cons, List.length_nil]; omega) | rfl | (constructor <;> omega) | (simp only [List.length_map, List.length_range]; constructor <;> omega) | (refine few ?_; simp; done) | (refine few ?_; simp; omega) | (refine few ?_; omega) | (refine few1 ?_; simp; done) | (refine few1 ?_; simp; omega) | walk_at "sdx" | (simp; done) | (simp; omega))
local macro_rules | `(tactic| walk_at "sdx") => `(tactic| fail)
local macro_rules | `(tactic| walk_at "call") => `(tactic| fail)
local macro_rules | `(tactic| walk_at "go1") => `(tactic| first | walk_at "call" | refine And.intro (by walk_at "sd") ?_ | refine bift (by walk_at "sd") ?_ | refine biff (by walk_at "sd") ?_ | refine nbift (by walk_at "sd") ?_ | refine nbiff (by walk_at "sd") ?_ | with_reducible refine yfor_cons ?_ | with_reducible refine yfor_nil ?_ | with_reducible refine ylc_cons ?_ | with_reducible refine ylc_nil ?_ | rw [peq_int])
local macro_rules | `(tactic| walk_at "go") => `(tactic| ((repeat ((conv => whnf); walk_at "go1")); try (conv => whnf)))
local macro_rules | `(tactic| walk_at "sdx") => `(tactic| exact len_pv lds_len3)
def abA : List Nat := (Str.ofString "abcdefghijklmnopqrstuvwxyz").cps.toList
def txA (l : List Nat) : Str := ⟨l.toArray⟩
def chA (c : Nat) : PV := .str ⟨#[c]⟩
theorem toN {n : Int} (h : 0 ≤ n) : ∃ k : Nat, n = k := Int.eq_ofNat_of_zero_le h
theorem tx_len (l : List Nat) : (txA l).length = l.length := by show (List.toArray _).size = _; simp
theorem ab_tx : (Str.ofString "abcdefghijklmnopqrstuvwxyz") = txA abA := by unfold txA abA; simp
theorem nil_tx : Str.ofString "" = txA [] := by decide +kernel
theorem ab_len : abA.length = 26 := by decide +kernel
theorem chars_tx (l : List Nat) : chars (txA l) = l.map chA := by unfold chars txA; simp; intro a _; rfl
theorem tx_snoc (l : List Nat) (c : Nat) : txA l ++ (⟨#[c]⟩ : Str) = txA (l ++ [c]) := by
  show (⟨l.toArray ++ #[c]⟩ : Str) = txA (l ++ [c])
  unfold txA; simp
theorem tx_app (l m : List Nat) : txA l ++ txA m = txA (l ++ m) := by
  show (⟨l.toArray ++ m.toArray⟩ : Str) = txA (l ++ m)
  unfold txA; simp
theorem tx_cut (l : List Nat) (i j : Option Int) : cutS (txA l) i j = txA ((l.drop (HT.sIx l.length 0 i)).take (HT.sIx l.length l.length j - HT.sIx l.length 0 i)) := by
  unfold cutS
  rw [tx_len]
  unfold txA
  simp
theorem tx_cps (l : List Nat) : (txA l).cps.toList = l := by simp [txA]
theorem tx_sz (l : List Nat) : (txA l).cps.size = l.length := by simp [txA]
end Lw
namespace Lw
open PySem PySem.Spec L2 Lb Vl
local macro_rules | `(tactic| walk_at "sd") => `(tactic| first | with_reducible rfl | assumption | omega | (simp only [List.length_map, List.length_range, List.length_append, List.length_cons, List.length_nil]; omega) | rfl | (constructor <;> omega) | (simp only [List.length_map, List.length_range]; constructor <;> omega) | (refine few ?_; simp; done) | (refine few ?_; simp; omega) | (refine few ?_; omega) | (refine few1 ?_; simp; done) | (refine few1 ?_; simp; omega) | walk_at "sdx" | (simp; done) | (simp; omega))
local macro_rules | `(tactic| walk_at "sdx") => `(tactic| fail)
local macro_rules | `(tactic| walk_at "call") => `(tactic| fail)
local macro_rules | `(tactic| walk_at "go1") => `(tactic| first | walk_at "call" | refine And.intro (by walk_at "sd") ?_ | refine bift (by walk_at "sd") ?_ | refine biff (by walk_at "sd") ?_ | refine nbift (by walk_at "sd") ?_ | refine nbiff (by walk_at "sd") ?_ | with_reducible refine yfor_cons ?_ | with_reducible refine yfor_nil ?_ | with_reducible refine ylc_cons ?_ | with_reducible refine ylc_nil ?_ | rw [peq_int])
local macro_rules | `(tactic| walk_at "go") => `(tactic| ((repeat ((conv => whnf); walk_at "go1")); try (conv => whnf)))
local macro_rules | `(tactic| walk_at "sdx") => `(tactic| exact len_pv lds_len3)
theorem joinA_nil : ∀ ys : List (List Nat), TL.joinL [] ys = ys.flatten
  | [] => rfl
  | [p] => by simp [TL.joinL]
  | p :: q :: r => by
    have := joinA_nil (q :: r)
    simp only [TL.joinL, this, List.nil_append, List.flatten_cons]
def sgn (c : Nat) : Str := ⟨#[c]⟩
theorem flatA (l : List Nat) : (l.map fun c => [c]).flatten = l := by
  induction l with
  | nil => rfl
  | cons s t ih => simp only [List.map_cons, List.flatten_cons, ih]; rfl
theorem join_a (l : List Nat) : Txt.join (Str.ofString "") (l.map sgn) = txA l := by
  have h : l.map sgn = (l.map fun c => [c]).map SX.S := by rw [List.map_map]; rfl
  have e : (Str.ofString "") = SX.S [] := by decide +kernel
  rw [h, e, SX.join_S, joinA_nil, flatA]; rfl
theorem strs_a (l : List Nat) : pStrs (l.map chA) = some (l.map sgn) := by
  induction l with
  | nil => rfl
  | cons s t ih => simp only [List.map_cons, chA, pStrs]; rw [show pStrs (t.map chA) = _ from ih]; rfl
theorem lens_a (l : List Nat) : ((l.map sgn).map (·.length)).sum = l.length := by
  induction l with
  | nil => rfl
  | cons s t ih => simp only [List.map_cons, List.sum_cons, List.length_cons, ih]; show 1 + _ = _; omega
theorem atI_nat {α : Type} {l : List α} {n : Nat} (h : n < l.length) : atI l (n : Int) = some l[n] := by
  have := atI_at (f := fun x : α => x) (List.getElem?_eq_getElem h)
  rw [List.map_id'] at this
  exact this
theorem tx_sub (l : List Nat) (i j : Option Int) : ∃ m, cutS (txA l) i j = txA m ∧ m.length ≤ l.length ∧ ∀ c ∈ m, c ∈ l := by
  refine ⟨_, tx_cut l i j, ?_, fun c hc => List.mem_of_mem_drop (List.mem_of_mem_take hc)⟩
  rw [List.length_take, List.length_drop]
  omega
end Lw
namespace Lw
open PySem PySem.Spec L2 Lb Vl
local macro_rules | `(tactic| walk_at "sd") => `(tactic| first | with_reducible rfl | assumption | omega | (simp only [List.length_map, List.length_range, List.length_append, List.length_cons, List.length_nil]; omega) | rfl | (constructor <;> omega) | (simp only [List.length_map, List.length_range]; constructor <;> omega) | (refine few ?_; simp; done) | (refine few ?_; simp; omega) | (refine few ?_; omega) | (refine few1 ?_; simp; done) | (refine few1 ?_; simp; omega) | walk_at "sdx" | (simp; done) | (simp; omega))
local macro_rules | `(tactic| walk_at "sdx") => `(tactic| fail)
local macro_rules | `(tactic| walk_at "call") => `(tactic| fail)
local macro_rules | `(tactic| walk_at "go1") => `(tactic| first | walk_at "call" | refine And.intro (by walk_at "sd") ?_ | refine bift (by walk_at "sd") ?_ | refine biff (by walk_at "sd") ?_ | refine nbift (by walk_at "sd") ?_ | refine nbiff (by walk_at "sd") ?_ | with_reducible refine yfor_cons ?_ | with_reducible refine yfor_nil ?_ | with_reducible refine ylc_cons ?_ | with_reducible refine ylc_nil ?_ | rw [peq_int])
local macro_rules | `(tactic| walk_at "go") => `(tactic| ((repeat ((conv => whnf); walk_at "go1")); try (conv => whnf)))
local macro_rules | `(tactic| walk_at "sdx") => `(tactic| exact len_pv lds_len3)
end Lw
namespace Lw
open PySem PySem.Spec L2 Lb Vl
local macro_rules | `(tactic| walk_at "sd") => `(tactic| first | with_reducible rfl | assumption | omega | (simp only [List.length_map, List.length_range, List.length_append, List.length_cons, List.length_nil]; omega) | rfl | (constructor <;> omega) | (simp only [List.length_map, List.length_range]; constructor <;> omega) | (refine few ?_; simp; done) | (refine few ?_; simp; omega) | (refine few ?_; omega) | (refine few1 ?_; simp; done) | (refine few1 ?_; simp; omega) | walk_at "sdx" | (simp; done) | (simp; omega))
local macro_rules | `(tactic| walk_at "sdx") => `(tactic| fail)
local macro_rules | `(tactic| walk_at "call") => `(tactic| fail)
local macro_rules | `(tactic| walk_at "go1") => `(tactic| first | walk_at "call" | refine And.intro (by walk_at "sd") ?_ | refine bift (by walk_at "sd") ?_ | refine biff (by walk_at "sd") ?_ | refine nbift (by walk_at "sd") ?_ | refine nbiff (by walk_at "sd") ?_ | with_reducible refine yfor_cons ?_ | with_reducible refine yfor_nil ?_ | with_reducible refine ylc_cons ?_ | with_reducible refine ylc_nil ?_ | rw [peq_int])
local macro_rules | `(tactic| walk_at "go") => `(tactic| ((repeat ((conv => whnf); walk_at "go1")); try (conv => whnf)))
local macro_rules | `(tactic| walk_at "sdx") => `(tactic| exact len_pv lds_len3)
theorem mul_1 (c n : Nat) : Txt.mul ⟨#[c]⟩ (n : Int) = txA (List.replicate n c) := by
  have h := PyProof.Rows.mul_one_list c (n : Int)
  rw [Int.toNat_natCast] at h
  unfold txA
  rw [← h]
theorem mulk_1 (c : Nat) {n : Int} (h0 : -1000 ≤ n) (h : n ≤ 1000) : MulOk ⟨#[c]⟩ n := by
  have hl : (⟨#[c]⟩ : Str).length = 1 := rfl
  refine ⟨by simp; omega, fun h1 _ => ?_, fun _ _ => ?_⟩
  · rw [hl]
    have : (1 : Int) ≤ (2 ^ 63 - 1) / n := by
      apply Int.le_ediv_of_mul_le (by omega)
      omega
    omega
  · rw [hl, Nat.one_mul]
    have := few (show n.toNat ≤ 1000 by omega)
    show decide (n.toNat > sizeLine) = false
    exact decide_eq_false (by omega)
theorem tx_no_k {x sg lo hi : PV} (h : isK .str x = some false) {Q : PV → Prop} (k : Q (.bl false)) : w_is_text_of [x, sg, lo, hi] Q := by
  rw [e_is_text_of]
  (conv => whnf)
  rw [h]
  (conv => whnf)
  exact k
theorem exF_wr : exF "Wrong" = "at" := by decide +kernel
def tUn : PV := .tup [.str (Str.ofString "unlike"), .non]
def tTo (v : PV) : PV := .tup [.str (Str.ofString "told"), v]
def tWr (i : Int) : PV := .tup [.str (Str.ofString "wrong"), .int i]
def fit (F : Fd) (p : List Stp) : Prop := ct .b p + ct .o p = F.over.length ∧ ct .b p + ct .u p = F.under.length
instance (F : Fd) (p : List Stp) : Decidable (fit F p) := inferInstanceAs (Decidable (_ ∧ _))
theorem pst_cat (p q : List Stp) : pst p ++ pst q = pst (p ++ q) := by
  show (⟨(pst p).cps ++ (pst q).cps⟩ : Str) = _
  unfold pst
  simp
theorem pst_one (s : Stp) : (⟨#[s.c]⟩ : Str) = pst [s] := rfl
theorem pst_nil : Str.ofString "" = pst [] := by decide +kernel
end Lw
namespace Lw
open PySem PySem.Spec L2 Lb Vl
local macro_rules | `(tactic| walk_at "sd") => `(tactic| first | with_reducible rfl | assumption | omega | (simp only [List.length_map, List.length_range, List.length_append, List.length_cons, List.length_nil]; omega) | rfl | (constructor <;> omega) | (simp only [List.length_map, List.length_range]; constructor <;> omega) | (refine few ?_; simp; done) | (refine few ?_; simp; omega) | (refine few ?_; omega) | (refine few1 ?_; simp; done) | (refine few1 ?_; simp; omega) | walk_at "sdx" | (simp; done) | (simp; omega))
local macro_rules | `(tactic| walk_at "sdx") => `(tactic| fail)
local macro_rules | `(tactic| walk_at "call") => `(tactic| fail)
local macro_rules | `(tactic| walk_at "go1") => `(tactic| first | walk_at "call" | refine And.intro (by walk_at "sd") ?_ | refine bift (by walk_at "sd") ?_ | refine biff (by walk_at "sd") ?_ | refine nbift (by walk_at "sd") ?_ | refine nbiff (by walk_at "sd") ?_ | with_reducible refine yfor_cons ?_ | with_reducible refine yfor_nil ?_ | with_reducible refine ylc_cons ?_ | with_reducible refine ylc_nil ?_ | rw [peq_int])
local macro_rules | `(tactic| walk_at "go") => `(tactic| ((repeat ((conv => whnf); walk_at "go1")); try (conv => whnf)))
local macro_rules | `(tactic| walk_at "sdx") => `(tactic| exact len_pv lds_len3)
def gpA : List Nat := (Str.ofString "abcdefghijklmnopqrstuvwxyz-").cps.toList
theorem gp_tx : (Str.ofString "abcdefghijklmnopqrstuvwxyz" ++ Str.ofString "-") = txA gpA := by decide +kernel
theorem gp_small : ∀ c ∈ gpA, c < 0x110000 := by decide +kernel
theorem gp_of_ab : ∀ c ∈ abA, c ∈ gpA := by decide +kernel
theorem gap_gp : (45 : Nat) ∈ gpA := by decide +kernel
theorem gap_s : Str.ofString "-" = ⟨#[45]⟩ := by decide +kernel
theorem gapped_b {z : Str} (hz : z.length ≤ 1000) {Q : PV → Prop} (k : Q (.bl (decide (z.length ≤ 120) && z.cps.toList.all fun c => decide (c ∈ gpA)))) : w_is_gapped [.str z] Q := by
  rw [e_is_gapped]
  (conv => whnf)
  refine ⟨few (by decide +kernel), ?_⟩
  refine L_is_text_of hz ?_
  have e1 : decide ((0 : Int) ≤ (z.length : Int) ∧ (z.length : Int) ≤ 120) = decide (z.length ≤ 120) := decide_eq_decide.mpr (by omega)
  have e2 : (Str.ofString "abcdefghijklmnopqrstuvwxyz" ++ Str.ofString "-").cps.toList = gpA := by rw [gp_tx, tx_cps]
  rw [e1]
  show Q (.bl (_ && z.cps.toList.all fun c => decide (c ∈ (Str.ofString "abcdefghijklmnopqrstuvwxyz" ++ Str.ofString "-").cps.toList)))
  rw [e2]
  exact k
theorem L_is_gapped {l : List Nat} (h : l.length ≤ 120) (ha : ∀ c ∈ l, c ∈ gpA) {Q : PV → Prop} (k : Q (.bl true)) : w_is_gapped [.str (txA l)] Q := by
  refine gapped_b (by rw [tx_len]; omega) ?_
  rw [tx_len, tx_cps, decide_eq_true h, Bool.true_and, show (l.all fun c => decide (c ∈ gpA)) = true from List.all_eq_true.mpr fun c hc => decide_eq_true (ha c hc)]
  exact k
def NoGp (x : PV) : Prop := ∀ Q : PV → Prop, Q (.bl false) → w_is_gapped [x] Q
theorem noGp_t {z : Str} (h1 : z.length ≤ 1000) (h : (decide (z.length ≤ 120) && z.cps.toList.all fun c => decide (c ∈ gpA)) = false) : NoGp (.str z) := fun Q k => by
  refine gapped_b h1 ?_
  rw [h]
  exact k
theorem peq_ch {c : Nat} : peq (chA c) (.str (Str.ofString "-")) = decide (c = 45) := by
  rw [gap_s]
  by_cases h : c = 45
  · subst h
    rw [decide_eq_true rfl]
    exact peq_refl (x := chA 45) (by decide +kernel)
  · rw [decide_eq_false h]
    unfold chA
    simp only [peq, toD, PyData.eqv]
    refine decide_eq_false fun z => h ?_
    have := congrArg (fun s : Str => s.cps.toList) z
    simpa using this
def sg2 (a b : Nat) : Stp := if a = 45 then .u else if b = 45 then .o else .b
def btw : Nat → List Nat → List Nat → Nat ⊕ List Stp
  | n, a :: x, b :: y => if a = 45 ∧ b = 45 then .inl n else match btw (n + 1) x y with
    | .inl m => .inl m
    | .inr p => .inr (sg2 a b :: p)
  | _, _, _ => .inr []
def prep (p : List Stp) : Nat ⊕ List Stp → Nat ⊕ List Stp
  | .inl m => .inl m
  | .inr q => .inr (p ++ q)
theorem prep_nil (r : Nat ⊕ List Stp) : prep [] r = r := by cases r <;> rfl
theorem btw_eq (n a b : Nat) (x y : List Nat) : btw n (a :: x) (b :: y) = if a = 45 ∧ b = 45 then .inl n else match btw (n + 1) x y with
    | .inl m => .inl m
    | .inr p => .inr (sg2 a b :: p) := rfl
theorem btw_step {n a b : Nat} {x y : List Nat} (h : ¬ (a = 45 ∧ b = 45)) (p : List Stp) : prep p (btw n (a :: x) (b :: y)) = prep (p ++ [sg2 a b]) (btw (n + 1) x y) := by
  rw [btw_eq, if_neg h]
  cases btw (n + 1) x y with
  | inl m => rfl
  | inr q => show Sum.inr (p ++ sg2 a b :: q) = Sum.inr (p ++ [sg2 a b] ++ q); simp
theorem btw_bare {n a b : Nat} {x y : List Nat} (h : a = 45 ∧ b = 45) (p : List Stp) : prep p (btw n (a :: x) (b :: y)) = .inl n := by
  rw [btw_eq, if_pos h]
  rfl
theorem btw_len : ∀ {x y : List Nat} {n : Nat} {p : List Stp}, btw n x y = .inr p → x.length = y.length → p.length = x.length
  | [], _, _, p, h, _ => by
    have : btw _ [] _ = Sum.inr p := h
    unfold btw at this
    cases this; rfl
  | _ :: _, [], _, _, _, e => by simp at e
  | a :: x, b :: y, n, p, h, e => by
    rw [btw_eq] at h
    split at h
    · cases h
    · cases e2 : btw (n + 1) x y with
      | inl m => rw [e2] at h; cases h
      | inr q =>
        rw [e2] at h
        cases h
        have := btw_len e2 (by simpa using e)
        simp [this]
/-- the items of enumerate(zip(..)) of two texts -/
def ez : Nat → List Nat → List Nat → List (Nat × Nat × Nat)
  | n, a :: x, b :: y => (n, a, b) :: ez (n + 1) x y
  | _, _, _ => []
def ezP (t : Nat × Nat × Nat) : PV := .tup [.int (t.1 : Nat), .tup [chA t.2.1, chA t.2.2]]
theorem ez_eq : ∀ (n : Nat) (x y : List Nat), enumL n (zipL (x.map chA) (y.map chA)) = (ez n x y).map ezP
  | _, [], _ => rfl
  | _, _ :: _, [] => rfl
  | n, a :: x, b :: y => by
    have := ez_eq (n + 1) x y
    simp only [List.map_cons, zipL, enumL, ez, this]
    rfl
theorem dat_gp {c : Nat} (h : c ∈ gpA) : dat 8 (chA c) = true := by
  have := gp_small c h
  show (#[c] : Array Nat).all (· < 0x110000) = true
  simpa using this
theorem dat_gap : dat 8 (.str (Str.ofString "-")) = true := by decide +kernel
theorem X_between {x y : List Nat} (hx : x.length ≤ 120) (gx : ∀ c ∈ x, c ∈ gpA) (hy : y.length ≤ 120) (gy : ∀ c ∈ y, c ∈ gpA) {Q : PV → Prop} {E : XP → Prop} (k0 : x.length ≠ y.length → E ⟨"Unlike", none⟩) (k1 : x.length = y.length → ∀ n : Nat, btw 0 x y = .inl n → E ⟨"Bare", some (.int (n : Nat))⟩)
    (k2 : x.length = y.length → ∀ p, btw 0 x y = .inr p → Q (.str (pst p))) : w_path_between_X [.str (txA x), .str (txA y)] Q E := by
  rw [e_path_between_X]
  (conv => whnf)
  refine L_is_gapped hx gx ?_
  (conv => whnf)
  refine L_is_gapped hy gy ?_
  (conv => whnf)
  refine ⟨by rw [tx_len]; exact few (by omega), ?_⟩
  rw [tx_len]
  (conv => whnf)
  refine ⟨by rw [tx_len]; exact few (by omega), ?_⟩
  rw [tx_len]
  (conv => whnf)
  refine ⟨rfl, rfl, ?_⟩
  rw [peq_int]
  by_cases hl : x.length = y.length
  · rw [decide_eq_true (by omega : (x.length : Int) = y.length)]
    (conv => whnf)
    refine ⟨by rw [tx_sz, tx_sz]; exact hl, ?_⟩
    rw [chars_tx, chars_tx, ez_eq]
    have k1 := k1 hl
    have k2 := k2 hl
    refine sforI (fun l γ => ∃ (n : Nat) (x' y' : List Nat) (p : List Stp) (b3 b4 b5 : Option PV), l = ez n x' y' ∧ x'.length = y'.length ∧ γ = [some (.str (txA x)), some (.str (txA y)), some (.lst (p.map fun s => .str s.s)), b3, b4, b5] ∧ prep p (btw n x' y') = btw 0 x y ∧ p.length + x'.length ≤ 120 ∧ (∀ c ∈ x', c ∈ gpA) ∧ ∀ c ∈ y', c ∈ gpA) ⟨0, x, y, [], none, none, none, rfl, hl, rfl, prep_nil _, by simpa using hx, gx, gy⟩ ?_ ?_
    · rintro t l γ ⟨n, x', y', p, b3, b4, b5, hl', e1, rfl, e2, e3, g1, g2⟩ K hK
      match x', y', hl' with
      | a :: x', b :: y', hl' =>
        obtain ⟨rfl, rfl⟩ := List.cons.inj hl'
        have ga := g1 a (by simp)
        have gb := g2 b (by simp)
        simp only [List.length_cons] at e1 e3
        have nx : ∀ s : Stp, ¬ (a = 45 ∧ b = 45) → s = sg2 a b → K [some (.str (txA x)), some (.str (txA y)), some (.lst ((p ++ [s]).map fun s => .str s.s)), some (.int (n : Nat)), some (chA a), some (chA b)] := fun s h es => by
          subst es
          exact hK _ ⟨n + 1, x', y', p ++ [sg2 a b], _, _, _, rfl, by omega, rfl, by rw [← btw_step h]; exact e2, by rw [List.length_append, List.length_singleton]; omega, fun c hc => g1 c (by simp [hc]), fun c hc => g2 c (by simp [hc])⟩
        have ap : ∀ s : Stp, (p.map fun s => PV.str s.s) ++ [.str s.s] = (p ++ [s]).map fun s => .str s.s := fun s => by simp
        (conv => whnf)
        refine ⟨dat_gp ga, dat_gap, ?_⟩
        rw [peq_ch]
        by_cases ha : a = 45
        · rw [decide_eq_true ha]
          (conv => whnf)
          refine ⟨dat_gp gb, dat_gap, ?_⟩
          rw [peq_ch]
          by_cases hb : b = 45
          · rw [decide_eq_true hb]
            (conv => whnf)
            refine ⟨rfl, k1 n ?_⟩
            rw [← e2]
            exact btw_bare ⟨ha, hb⟩ p
          · rw [decide_eq_false hb]
            (conv => whnf)
            refine ⟨dat_gp ga, dat_gap, ?_⟩
            rw [peq_ch, decide_eq_true ha]
            (conv => whnf)
            refine ⟨by rw [List.length_map]; exact few1 (by omega), ?_⟩
            have := nx .u (fun z => hb z.2) (by unfold sg2; rw [if_pos ha])
            rw [← ap] at this
            exact this
        · rw [decide_eq_false ha]
          (conv => whnf)
          refine ⟨dat_gp ga, dat_gap, ?_⟩
          rw [peq_ch, decide_eq_false ha]
          (conv => whnf)
          refine ⟨dat_gp gb, dat_gap, ?_⟩
          rw [peq_ch]
          by_cases hb : b = 45
          · rw [decide_eq_true hb]
            (conv => whnf)
            refine ⟨by rw [List.length_map]; exact few1 (by omega), ?_⟩
            have := nx .o (fun z => ha z.1) (by unfold sg2; rw [if_neg ha, if_pos hb])
            rw [← ap] at this
            exact this
          · rw [decide_eq_false hb]
            (conv => whnf)
            refine ⟨by rw [List.length_map]; exact few1 (by omega), ?_⟩
            have := nx .b (fun z => ha z.1) (by unfold sg2; rw [if_neg ha, if_neg hb])
            rw [← ap] at this
            exact this
    · rintro γ ⟨n, x', y', p, b3, b4, b5, hl', e1, rfl, e2, e3, -, -⟩
      have en : btw n x' y' = .inr [] := by
        match x', y', e1, hl' with
        | [], [], _, _ => rfl
        | _ :: _, _ :: _, _, hl' => cases hl'
        | _ :: _, [], e1, _ => simp at e1
      rw [en] at e2
      (conv => whnf)
      rw [strs_p]
      (conv => whnf)
      refine ⟨by rw [lens_p]; simp [Str.length]; show p.length + p.length * 0 ≤ _; omega, ?_⟩
      rw [join_p]
      exact k2 p (by rw [← e2]; show Sum.inr (p ++ []) = _; rw [List.append_nil])
  · rw [decide_eq_false (by omega : ¬ (x.length : Int) = y.length)]
    (conv => whnf)
    exact k0 hl
theorem X_between_0 {x y : PV} (h : NoGp x) {Q : PV → Prop} {E : XP → Prop} (k : E ⟨"Wrong", some (.int 0)⟩) : w_path_between_X [x, y] Q E := by
  rw [e_path_between_X]
  (conv => whnf)
  refine h _ ?_
  (conv => whnf)
  exact ⟨rfl, k⟩
theorem X_between_1 {x : List Nat} {y : PV} (hx : x.length ≤ 120) (gx : ∀ c ∈ x, c ∈ gpA) (h : NoGp y) {Q : PV → Prop} {E : XP → Prop} (k : E ⟨"Wrong", some (.int 1)⟩) : w_path_between_X [.str (txA x), y] Q E := by
  rw [e_path_between_X]
  (conv => whnf)
  refine L_is_gapped hx gx ?_
  (conv => whnf)
  refine h _ ?_
  (conv => whnf)
  exact ⟨rfl, k⟩
end Lw
namespace Lw
open PySem PySem.Spec L2 Lb Vl
local macro_rules | `(tactic| walk_at "sd") => `(tactic| first | with_reducible rfl | assumption | omega | (simp only [List.length_map, List.length_range, List.length_append, List.length_cons, List.length_nil]; omega) | rfl | (constructor <;> omega) | (simp only [List.length_map, List.length_range]; constructor <;> omega) | (refine few ?_; simp; done) | (refine few ?_; simp; omega) | (refine few ?_; omega) | (refine few1 ?_; simp; done) | (refine few1 ?_; simp; omega) | walk_at "sdx" | (simp; done) | (simp; omega))
local macro_rules | `(tactic| walk_at "sdx") => `(tactic| fail)
local macro_rules | `(tactic| walk_at "call") => `(tactic| fail)
local macro_rules | `(tactic| walk_at "go1") => `(tactic| first | walk_at "call" | refine And.intro (by walk_at "sd") ?_ | refine bift (by walk_at "sd") ?_ | refine biff (by walk_at "sd") ?_ | refine nbift (by walk_at "sd") ?_ | refine nbiff (by walk_at "sd") ?_ | with_reducible refine yfor_cons ?_ | with_reducible refine yfor_nil ?_ | with_reducible refine ylc_cons ?_ | with_reducible refine ylc_nil ?_ | rw [peq_int])
local macro_rules | `(tactic| walk_at "go") => `(tactic| ((repeat ((conv => whnf); walk_at "go1")); try (conv => whnf)))
local macro_rules | `(tactic| walk_at "sdx") => `(tactic| exact len_pv lds_len3)
def tBa (i : Int) : PV := .tup [.str (Str.ofString "bare"), .int i]
theorem exF_ba : exF "Bare" = "at" := by decide +kernel
theorem told28_w {x y : PV} {i : Int} (h : ∀ (Q : PV → Prop) (E : XP → Prop), E ⟨"Wrong", some (.int i)⟩ → w_path_between_X [x, y] Q E) {Q : PV → Prop} (k : Q (tWr i)) : w_law_told [x, y] Q := by
  rw [e_law_told]
  (conv => whnf)
  refine h _ _ ?_
  (conv => whnf)
  refine ⟨by simp, ?_⟩
  (conv => whnf)
  refine ⟨rfl, rfl, ?_⟩
  (conv => whnf)
  exact ⟨exF_wr, k⟩
theorem told28_b {x y : PV} {i : Int} (h : ∀ (Q : PV → Prop) (E : XP → Prop), E ⟨"Bare", some (.int i)⟩ → w_path_between_X [x, y] Q E) {Q : PV → Prop} (k : Q (tBa i)) : w_law_told [x, y] Q := by
  rw [e_law_told]
  (conv => whnf)
  refine h _ _ ?_
  (conv => whnf)
  refine ⟨by simp, ?_⟩
  (conv => whnf)
  refine ⟨rfl, rfl, ?_⟩
  (conv => whnf)
  exact ⟨exF_ba, k⟩
theorem told28_u {x y : PV} (h : ∀ (Q : PV → Prop) (E : XP → Prop), E ⟨"Unlike", none⟩ → w_path_between_X [x, y] Q E) {Q : PV → Prop} (k : Q tUn) : w_law_told [x, y] Q := by
  rw [e_law_told]
  (conv => whnf)
  refine h _ _ ?_
  (conv => whnf)
  refine ⟨by simp, ?_⟩
  (conv => whnf)
  refine ⟨rfl, rfl, ?_⟩
  (conv => whnf)
  exact k
def dueV (x y : List Nat) : PV := if x.length = y.length then (match btw 0 x y with | .inl n => tBa (n : Nat) | .inr p => tTo (.str (pst p))) else tUn
theorem L28_told {x y : List Nat} (hx : x.length ≤ 120) (gx : ∀ c ∈ x, c ∈ gpA) (hy : y.length ≤ 120) (gy : ∀ c ∈ y, c ∈ gpA) {Q : PV → Prop} (k : Q (dueV x y)) : w_law_told [.str (txA x), .str (txA y)] Q := by
  unfold dueV at k
  by_cases hl : x.length = y.length
  · rw [if_pos hl] at k
    cases e : btw 0 x y with
    | inl n =>
      rw [e] at k
      refine told28_b (i := (n : Nat)) (fun Q E q => X_between hx gx hy gy (fun z => absurd hl z) (fun _ m em => ?_) (fun _ p ep => ?_)) k
      · rw [e] at em; cases em; exact q
      · rw [e] at ep; cases ep
    | inr p =>
      rw [e] at k
      rw [e_law_told]
      (conv => whnf)
      refine X_between hx gx hy gy (fun z => absurd hl z) (fun _ m em => ?_) (fun _ q ep => ?_)
      · rw [e] at em; cases em
      · rw [e] at ep; cases ep
        (conv => whnf)
        exact k
  · rw [if_neg hl] at k
    exact told28_u (fun Q E q => X_between hx gx hy gy (fun _ => q) (fun z => absurd z hl) (fun z => absurd z hl)) k
theorem L28_gapped {n : Nat} (hn : n ≤ 120) {Q : PV → Prop} (k : ∀ l : List Nat, l.length = n → (∀ c ∈ l, c ∈ gpA) → Q (.str (txA l))) : w_law_gapped [.bag, .int (n : Nat)] Q := by
  rw [e_law_gapped]
  (conv => whnf)
  refine ⟨⟨by omega, by omega⟩, ?_⟩
  intro v v1 v2
  obtain ⟨P, hP1, hP2, hP3, hPe⟩ : ∃ P : List Nat, 1 ≤ P.length ∧ P.length ≤ 26 ∧ (∀ c ∈ P, c ∈ gpA) ∧ atI [PV.str (Str.ofString "abcdefghijklmnopqrstuvwxyz"), PV.str (Str.ofString "ab--"), PV.str (Str.ofString "z-"), PV.str (Str.ofString "a")] v = some (.str (txA P)) := by
    have : v = 0 ∨ v = 1 ∨ v = 2 ∨ v = 3 := by omega
    rcases this with rfl | rfl | rfl | rfl
    · exact ⟨abA, by rw [ab_len]; omega, by rw [ab_len]; omega, gp_of_ab, by rw [ab_tx]; rfl⟩
    · exact ⟨[97, 98, 45, 45], by simp, by simp, by decide +kernel, by rw [show Str.ofString "ab--" = txA [97, 98, 45, 45] by decide +kernel]; rfl⟩
    · exact ⟨[122, 45], by simp, by simp, by decide +kernel, by rw [show Str.ofString "z-" = txA [122, 45] by decide +kernel]; rfl⟩
    · exact ⟨[97], by simp, by simp, by decide +kernel, by rw [show Str.ofString "a" = txA [97] by decide +kernel]; rfl⟩
  (conv => whnf)
  rw [hPe]
  (conv => whnf)
  refine ⟨⟨by omega, by omega⟩, ?_⟩
  rw [show ((n : Int)).toNat = n by omega]
  unfold Vl.upTo
  refine ⟨by rw [List.length_map, List.length_range, sizeLine_eq]; omega, ?_⟩
  (conv => whnf)
  refine ylcD (P := fun y => ∃ c : Nat, y = chA c ∧ c ∈ gpA) (fun a ma Q k => ?_) fun ys hl hp => ?_
  · (conv => whnf)
    refine ⟨by rw [tx_len]; exact few (by omega), ?_⟩
    rw [tx_len]
    (conv => whnf)
    refine ⟨⟨by omega, by omega⟩, ?_⟩
    intro x x1 x2
    obtain ⟨x, rfl⟩ := toN x1
    have hx : x < P.length := by omega
    (conv => whnf)
    refine ⟨by rw [tx_len]; exact few (by omega), ?_⟩
    rw [tx_cps, atI_nat hx]
    (conv => whnf)
    exact k _ ⟨_, rfl, hP3 _ (List.getElem_mem hx)⟩
  obtain ⟨cs, rfl, hcs⟩ := listOf hp
  have hcl : cs.length = n := by
    rw [List.length_map, List.length_range] at hl
    omega
  (conv => whnf)
  rw [strs_a]
  (conv => whnf)
  refine ⟨by rw [lens_a, show (Str.ofString "").length = 0 by decide +kernel, List.length_map, Nat.mul_zero]; omega, ?_⟩
  rw [join_a]
  exact k cs hcl hcs
theorem L28_many {Q : PV → Prop} (k : ∀ n : Nat, n ≤ 120 → Q (.int (n : Nat))) : w_law_many [.bag] Q := by
  rw [e_law_many]
  (conv => whnf)
  refine ⟨⟨by omega, by omega⟩, ?_⟩
  intro a a1 a2
  (conv => whnf)
  refine ⟨⟨by omega, by omega⟩, ?_⟩
  intro b b1 b2
  (conv => whnf)
  refine ⟨⟨by omega, by omega⟩, ?_⟩
  intro c c1 c2
  (conv => whnf)
  refine ⟨⟨by omega, by omega⟩, ?_⟩
  intro v v1 v2
  obtain ⟨n, hn, he⟩ : ∃ n : Nat, n ≤ 120 ∧ atI [PV.int a, PV.int b, PV.int c, PV.int 120, PV.int 1] v = some (.int (n : Nat)) := by
    obtain ⟨a, rfl⟩ := toN a1
    obtain ⟨b, rfl⟩ := toN b1
    obtain ⟨c, rfl⟩ := toN c1
    have : v = 0 ∨ v = 1 ∨ v = 2 ∨ v = 3 ∨ v = 4 := by omega
    rcases this with rfl | rfl | rfl | rfl | rfl
    · exact ⟨a, by omega, rfl⟩
    · exact ⟨b, by omega, rfl⟩
    · exact ⟨c, by omega, rfl⟩
    · exact ⟨120, by omega, rfl⟩
    · exact ⟨1, by omega, rfl⟩
  (conv => whnf)
  rw [he]
  (conv => whnf)
  exact k n hn
theorem zip_chA : ∀ x y : List Nat, zipL (x.map chA) (y.map chA) = (x.zip y).map fun p => .tup [chA p.1, chA p.2]
  | [], _ => by simp [zipL]
  | _ :: _, [] => by simp [zipL]
  | a :: x, b :: y => by simp [zipL, zip_chA x y]
theorem q_tx : Str.ofString "q" = ⟨#[113]⟩ := by decide +kernel
theorem put_gp {l : List Nat} {a : Nat} (ha : a < l.length) : ∃ m : List Nat, (cutS (txA l) none (some (a : Int)) ++ Str.ofString "-") ++ cutS (txA l) (some ((a : Int) + 1)) none = txA m ∧ m.length = l.length ∧ (∀ c ∈ m, c ∈ l ∨ c = 45) ∧ (cutS (txA l) none (some (a : Int))).length + (Str.ofString "-").length ≤ l.length ∧ (cutS (txA l) none (some (a : Int)) ++ Str.ofString "-").length + (cutS (txA l) (some ((a : Int) + 1)) none).length ≤ l.length := by
  have e1 : cutS (txA l) none (some (a : Int)) = txA (l.take a) := by
    rw [tx_cut, HT.sIx_none, HT.sIx_nat, List.drop_zero, Nat.sub_zero, Nat.min_eq_left (by omega)]
  have e2 : cutS (txA l) (some ((a : Int) + 1)) none = txA (l.drop (a + 1)) := by
    rw [tx_cut, HT.sIx_none, show ((a : Int) + 1) = ((a + 1 : Nat) : Int) by omega, HT.sIx_nat, Nat.min_eq_left (by omega), List.take_of_length_le (by rw [List.length_drop]; omega)]
  have e3 : txA (l.take a) ++ Str.ofString "-" = txA (l.take a ++ [45]) := by rw [gap_s, tx_snoc]
  have l1 : (l.take a).length = a := by rw [List.length_take]; omega
  have l2 : (l.drop (a + 1)).length = l.length - (a + 1) := List.length_drop
  have lg : (Str.ofString "-").length = 1 := by decide +kernel
  refine ⟨(l.take a ++ [45]) ++ l.drop (a + 1), by rw [e1, e2, e3, tx_app], by simp only [List.length_append, l1, l2, List.length_singleton]; omega, fun c hc => ?_, by rw [e1, tx_len, l1, lg]; omega, by rw [e1, e2, e3, tx_len, tx_len, List.length_append, l1, l2, List.length_singleton]; omega⟩
  rcases List.mem_append.mp hc with hc | hc
  · rcases List.mem_append.mp hc with hc | hc
    · exact .inl (List.mem_of_mem_take hc)
    · exact .inr (List.mem_singleton.mp hc)
  · exact .inl (List.mem_of_mem_drop hc)
theorem L28_pair {Q : PV → Prop} (k : ∀ x y : List Nat, x.length = y.length → x.length ≤ 120 → (∀ c ∈ x, c ∈ gpA) → (∀ c ∈ y, c ∈ gpA) → Q (.tup [.str (txA x), .str (txA y)])) : w_law_pair [.bag] Q := by
  rw [e_law_pair]
  (conv => whnf)
  refine L28_many fun n hn => ?_
  (conv => whnf)
  refine L28_gapped hn fun x lx gx => ?_
  (conv => whnf)
  refine L28_gapped hn fun y ly gy => ?_
  (conv => whnf)
  rw [chars_tx, chars_tx, zip_chA, nil_tx]
  refine yforI (fun l γ => ∃ (f : List Nat) (b5 b6 : Option PV), γ = [some .bag, some (.int (n : Nat)), some (.str (txA x)), some (.str (txA y)), some (.str (txA f)), b5, b6, none, none] ∧ f.length + l.length = n ∧ (∀ c ∈ f, c ∈ gpA) ∧ ∀ p ∈ l, p.1 ∈ gpA ∧ p.2 ∈ gpA) ⟨[], none, none, rfl, by rw [List.length_zip]; simp; omega, by simp, fun p hp => ⟨gx _ (List.of_mem_zip hp).1, gy _ (List.of_mem_zip hp).2⟩⟩ ?_ ?_
  · rintro ⟨a, b⟩ l γ ⟨f, b5, b6, rfl, e1, e2, e3⟩ K hK
    obtain ⟨ga, gb⟩ := e3 (a, b) (by simp)
    simp only [List.length_cons] at e1
    have nx : ∀ c ∈ gpA, K [some .bag, some (.int (n : Nat)), some (.str (txA x)), some (.str (txA y)), some (.str (txA f ++ ⟨#[c]⟩)), some (chA a), some (chA b), none, none] := fun c hc => by
      rw [tx_snoc]
      exact hK _ ⟨f ++ [c], _, _, rfl, by rw [List.length_append, List.length_singleton]; omega, fun d hd => (List.mem_append.mp hd).elim (e2 d) fun z => by rw [List.mem_singleton.mp z]; exact hc, fun p hp => e3 p (by simp [hp])⟩
    have lc : ∀ c : Nat, (⟨#[c]⟩ : Str).length = 1 := fun _ => rfl
    have nq : K [some .bag, some (.int (n : Nat)), some (.str (txA x)), some (.str (txA y)), some (.str (txA f ++ Str.ofString "q")), some (chA a), some (chA b), none, none] := by
      rw [q_tx]; exact nx 113 (by decide +kernel)
    have lq : (txA f).length + (Str.ofString "q").length ≤ 1000 := by rw [tx_len, show (Str.ofString "q").length = 1 by decide +kernel]; omega
    have lb : (txA f).length + (⟨#[b]⟩ : Str).length ≤ 1000 := by rw [tx_len, lc]; omega
    (conv => whnf)
    refine ⟨dat_gp ga, dat_gap, ?_⟩
    rw [peq_ch]
    by_cases ha : a = 45
    · rw [decide_eq_true ha]
      (conv => whnf)
      refine ⟨dat_gp gb, dat_gap, ?_⟩
      rw [peq_ch]
      by_cases hb : b = 45
      · rw [decide_eq_true hb]
        (conv => whnf)
        exact ⟨few lq, nq⟩
      · rw [decide_eq_false hb]
        (conv => whnf)
        exact ⟨few lb, nx b gb⟩
    · rw [decide_eq_false ha]
      (conv => whnf)
      exact ⟨few lb, nx b gb⟩
  rintro γ ⟨f, b5, b6, rfl, e1, e2, -⟩
  rw [List.length_nil, Nat.add_zero] at e1
  (conv => whnf)
  refine ⟨⟨by omega, by omega⟩, ?_⟩
  intro v v1 v2
  obtain ⟨m, hm, he⟩ : ∃ m : Nat, m ≤ 3 ∧ atI [PV.int 0, PV.int 0, PV.int 1, PV.int 3] v = some (.int (m : Nat)) := by
    have : v = 0 ∨ v = 1 ∨ v = 2 ∨ v = 3 := by omega
    rcases this with rfl | rfl | rfl | rfl
    · exact ⟨0, by omega, rfl⟩
    · exact ⟨0, by omega, rfl⟩
    · exact ⟨1, by omega, rfl⟩
    · exact ⟨3, by omega, rfl⟩
  (conv => whnf)
  rw [he]
  (conv => whnf)
  obtain ⟨r, hr, er⟩ : ∃ r : Nat, (0 < r → 0 < n) ∧ ((m : Int) * (if decide ((n : Int) > 0) = true then 1 else 0)) = (r : Nat) ∧ r ≤ 3 := by
    by_cases h : 0 < n
    · exact ⟨m, fun _ => h, by rw [if_pos (decide_eq_true (by omega))]; simp, hm⟩
    · exact ⟨0, fun z => by omega, by rw [if_neg (by simp; omega)]; simp, by omega⟩
  refine ⟨.inl ⟨by omega, by omega⟩, ?_⟩
  rw [show ((m : Int) * (if decide ((0 : Int) < (n : Nat)) = true then (1 : Int) else 0)) = (r : Nat) from er.1]
  (conv => whnf)
  refine ⟨⟨by omega, by omega⟩, ?_⟩
  rw [show ((r : Int)).toNat = r by omega]
  refine yforR (fun _ γ => ∃ (x f : List Nat) (b5 b6 b7 b8 : Option PV), γ = [some .bag, some (.int (n : Nat)), some (.str (txA x)), some (.str (txA y)), some (.str (txA f)), b5, b6, b7, b8] ∧ x.length = n ∧ f.length = n ∧ (∀ c ∈ x, c ∈ gpA) ∧ ∀ c ∈ f, c ∈ gpA) ⟨x, f, _, _, _, _, rfl, lx, e1, gx, e2⟩ ?_ ?_
  · rintro j γ hj ⟨x, f, b5, b6, b7, b8, rfl, lx, lf, gx, gf⟩ K hK
    have n0 : 0 < n := hr (by omega)
    (conv => whnf)
    refine ⟨⟨by omega, by omega⟩, ?_⟩
    intro a a1 a2
    obtain ⟨a, rfl⟩ := toN a1
    have ha : a < n := by omega
    obtain ⟨x', ex, lx', gx', s1, s2⟩ := put_gp (l := x) (a := a) (by omega)
    obtain ⟨f', ef, lf', gf', t1, t2⟩ := put_gp (l := f) (a := a) (by omega)
    (conv => whnf)
    refine ⟨few (by rw [tx_len]; omega), ?_⟩
    (conv => whnf)
    refine ⟨few (by omega), ?_⟩
    (conv => whnf)
    refine ⟨few (by rw [tx_len]; omega), ?_⟩
    (conv => whnf)
    refine ⟨few (by omega), ?_⟩
    rw [ex]
    (conv => whnf)
    refine ⟨few (by rw [tx_len]; omega), ?_⟩
    (conv => whnf)
    refine ⟨few (by omega), ?_⟩
    (conv => whnf)
    refine ⟨few (by rw [tx_len]; omega), ?_⟩
    (conv => whnf)
    refine ⟨few (by omega), ?_⟩
    rw [ef]
    exact hK _ ⟨x', f', _, _, _, _, rfl, by omega, by omega, fun c hc => (gx' c hc).elim (gx c) fun z => by rw [z]; exact gap_gp, fun c hc => (gf' c hc).elim (gf c) fun z => by rw [z]; exact gap_gp⟩
  · rintro γ ⟨x, f, b5, b6, b7, b8, rfl, lx, lf, gx, gf⟩
    (conv => whnf)
    exact k x f (by omega) (by omega) gx gf
theorem L28_due {x y : List Nat} (hx : x.length ≤ 120) (gx : ∀ c ∈ x, c ∈ gpA) (hy : y.length ≤ 120) (gy : ∀ c ∈ y, c ∈ gpA) {Q : PV → Prop} (k : Q (dueV x y)) : w_law_due [.str (txA x), .str (txA y)] Q := by
  rw [e_law_due]
  (conv => whnf)
  refine ⟨by rw [tx_len]; exact few (by omega), ?_⟩
  rw [tx_len]
  (conv => whnf)
  refine ⟨by rw [tx_len]; exact few (by omega), ?_⟩
  rw [tx_len]
  (conv => whnf)
  refine ⟨rfl, rfl, ?_⟩
  rw [peq_int]
  unfold dueV at k
  by_cases hl : x.length = y.length
  · rw [if_pos hl] at k
    rw [decide_eq_true (by omega : (x.length : Int) = y.length)]
    (conv => whnf)
    refine ⟨by rw [tx_len]; exact few (by omega), ?_⟩
    rw [tx_len]
    (conv => whnf)
    refine ⟨⟨by omega, by omega⟩, ?_⟩
    rw [show ((x.length : Int)).toNat = x.length by omega]
    refine yforR (fun m γ => ∃ (p : List Stp) (b3 : Option PV), γ = [some (.str (txA x)), some (.str (txA y)), some (.str (pst p)), b3] ∧ p.length = m ∧ prep p (btw m (x.drop m) (y.drop m)) = btw 0 x y) ⟨[], none, by rw [pst_nil], rfl, prep_nil _⟩ ?_ ?_
    · rintro m γ hm ⟨p, b3, rfl, lp, e2⟩ K hK
      have hmy : m < y.length := by omega
      rw [List.drop_eq_getElem_cons hm, List.drop_eq_getElem_cons hmy] at e2
      have ga := gx _ (List.getElem_mem hm)
      have gb := gy _ (List.getElem_mem hmy)
      have nx : ∀ s : Stp, ¬ (x[m] = 45 ∧ y[m] = 45) → s = sg2 x[m] y[m] → K [some (.str (txA x)), some (.str (txA y)), some (.str (pst p ++ s.s)), some (.int (m : Nat))] := fun s h es => by
        subst es
        rw [stp_s, pst_one, pst_cat]
        exact hK _ ⟨_, _, rfl, by rw [List.length_append, List.length_singleton]; omega, by rw [← btw_step h]; exact e2⟩
      have lx : (txA x).length ≤ 1000 := by rw [tx_len]; omega
      have ly : (txA y).length ≤ 1000 := by rw [tx_len]; omega
      have ls : ∀ s : Stp, (pst p).length + s.s.length ≤ 1000 := fun s => by rw [len_p, stp_s]; show _ + 1 ≤ _; omega
      have ax : atI (txA x).cps.toList (m : Int) = some x[m] := by rw [tx_cps, atI_nat hm]
      have ay : atI (txA y).cps.toList (m : Int) = some y[m] := by rw [tx_cps, atI_nat hmy]
      (conv => whnf)
      refine ⟨few lx, ?_⟩
      rw [ax]
      (conv => whnf)
      refine ⟨dat_gp ga, dat_gap, ?_⟩
      rw [show PV.str ⟨#[x[m]]⟩ = chA x[m] from rfl, peq_ch]
      by_cases ha : x[m] = 45
      · rw [decide_eq_true ha]
        (conv => whnf)
        refine ⟨few ly, ?_⟩
        rw [ay]
        (conv => whnf)
        refine ⟨dat_gp gb, dat_gap, ?_⟩
        rw [show PV.str ⟨#[y[m]]⟩ = chA y[m] from rfl, peq_ch]
        by_cases hb : y[m] = 45
        · rw [decide_eq_true hb]
          (conv => whnf)
          rw [btw_bare ⟨ha, hb⟩] at e2
          rw [← e2] at k
          exact k
        · rw [decide_eq_false hb]
          (conv => whnf)
          refine ⟨few lx, ?_⟩
          rw [ax]
          (conv => whnf)
          refine ⟨dat_gp ga, dat_gap, ?_⟩
          rw [show PV.str ⟨#[x[m]]⟩ = chA x[m] from rfl, peq_ch, decide_eq_true ha]
          (conv => whnf)
          exact ⟨few (ls .u), nx .u (fun z => hb z.2) (by unfold sg2; rw [if_pos ha])⟩
      · rw [decide_eq_false ha]
        (conv => whnf)
        refine ⟨few lx, ?_⟩
        rw [ax]
        (conv => whnf)
        refine ⟨dat_gp ga, dat_gap, ?_⟩
        rw [show PV.str ⟨#[x[m]]⟩ = chA x[m] from rfl, peq_ch, decide_eq_false ha]
        (conv => whnf)
        refine ⟨few ly, ?_⟩
        rw [ay]
        (conv => whnf)
        refine ⟨dat_gp gb, dat_gap, ?_⟩
        rw [show PV.str ⟨#[y[m]]⟩ = chA y[m] from rfl, peq_ch]
        by_cases hb : y[m] = 45
        · rw [decide_eq_true hb]
          (conv => whnf)
          exact ⟨few (ls .o), nx .o (fun z => ha z.1) (by unfold sg2; rw [if_neg ha, if_pos hb])⟩
        · rw [decide_eq_false hb]
          (conv => whnf)
          exact ⟨few (ls .b), nx .b (fun z => ha z.1) (by unfold sg2; rw [if_neg ha, if_neg hb])⟩
    · rintro γ ⟨p, b3, rfl, lp, e2⟩
      rw [List.drop_eq_nil_of_le (by omega)] at e2
      have e3 : Sum.inr (p ++ []) = btw 0 x y := e2
      rw [← e3] at k
      (conv => whnf)
      rw [List.append_nil] at k
      exact k
  · rw [if_neg hl] at k
    rw [decide_eq_false (by omega : ¬ (x.length : Int) = y.length)]
    (conv => whnf)
    exact k
theorem noGp_k {x : PV} (h : isK .str x = some false) : NoGp x := fun Q k => by
  rw [e_is_gapped]
  (conv => whnf)
  refine ⟨few (by decide +kernel), ?_⟩
  exact tx_no_k h k
theorem L28_odd {Q : PV → Prop} (k : ∀ z, NoGp z → Q z) : w_law_odd [.bag] Q := by
  rw [e_law_odd]
  (conv => whnf)
  have big : ∀ c : Nat, NoGp (.str (Txt.mul ⟨#[c]⟩ 121)) := fun c => by
    rw [show (121 : Int) = ((121 : Nat) : Int) from rfl, mul_1]
    refine noGp_t (by rw [tx_len, List.length_replicate]; omega) ?_
    rw [tx_len, List.length_replicate]
    rfl
  rw [show Str.ofString "a" = (⟨#[97]⟩ : Str) by decide +kernel]
  refine ⟨mulk_1 97 (by omega) (by omega), ?_⟩
  (conv => whnf)
  rw [gap_s]
  refine ⟨mulk_1 45 (by omega) (by omega), ?_⟩
  (conv => whnf)
  refine ⟨⟨by simp, by simp⟩, ?_⟩
  intro v v1 v2
  have v2 : v < 14 := v2
  have st : ∀ z : Str, z.length ≤ 100 → (z.cps.toList.all fun c => decide (c ∈ gpA)) = false → NoGp (.str z) := fun z h1 h2 => noGp_t (by omega) (by rw [h2, Bool.and_false])
  obtain ⟨z, hz, ez⟩ : ∃ z, NoGp z ∧ atI [PV.str (Str.ofString "A"), PV.str (Txt.mul ⟨#[97]⟩ 121), PV.str (Txt.mul ⟨#[45]⟩ 121), PV.str (Str.ofString "a b"), PV.str (Str.ofString "a."), PV.non, PV.int 5, PV.lst [PV.str ⟨#[97]⟩], PV.tup [PV.str ⟨#[97]⟩, PV.str ⟨#[45]⟩], PV.bl true, PV.dK [], PV.str (Str.ofString "a_b"), PV.str (Str.ofString "\n"), PV.str (Str.ofString "a1")] v = some z := by
    have : v = 0 ∨ v = 1 ∨ v = 2 ∨ v = 3 ∨ v = 4 ∨ v = 5 ∨ v = 6 ∨ v = 7 ∨ v = 8 ∨ v = 9 ∨ v = 10 ∨ v = 11 ∨ v = 12 ∨ v = 13 := by omega
    rcases this with rfl | rfl | rfl | rfl | rfl | rfl | rfl | rfl | rfl | rfl | rfl | rfl | rfl | rfl
    · exact ⟨_, st _ (by decide +kernel) (by decide +kernel), rfl⟩
    · exact ⟨_, big 97, rfl⟩
    · exact ⟨_, big 45, rfl⟩
    · exact ⟨_, st _ (by decide +kernel) (by decide +kernel), rfl⟩
    · exact ⟨_, st _ (by decide +kernel) (by decide +kernel), rfl⟩
    · exact ⟨_, noGp_k rfl, rfl⟩
    · exact ⟨_, noGp_k rfl, rfl⟩
    · exact ⟨_, noGp_k rfl, rfl⟩
    · exact ⟨_, noGp_k rfl, rfl⟩
    · exact ⟨_, noGp_k rfl, rfl⟩
    · exact ⟨_, noGp_k rfl, rfl⟩
    · exact ⟨_, st _ (by decide +kernel) (by decide +kernel), rfl⟩
    · exact ⟨_, st _ (by decide +kernel) (by decide +kernel), rfl⟩
    · exact ⟨_, st _ (by decide +kernel) (by decide +kernel), rfl⟩
  (conv => whnf)
  rw [ez]
  (conv => whnf)
  exact k z hz
theorem dat_un : dat 8 tUn = true := by unfold tUn; simp only [dat, dats, Bool.and_true]; decide +kernel
theorem shw_To {p : List Stp} (h : p.length ≤ 120) : shw (tTo (.str (pst p))) := by
  have e : (pst p).cps.size = p.length := by show (List.toArray _).size = _; simp
  refine shw_of ?_ ?_ ?_
  · unfold tTo; simp only [dat, dats, Bool.and_true, Bool.and_eq_true]; exact ⟨by decide +kernel, dat_p p⟩
  · unfold tTo; simp only [smp, smps, Bool.and_true, Bool.and_eq_true]; exact ⟨by decide +kernel, dat_p p⟩
  · have : (Str.ofString "told").cps.size = 4 := by decide +kernel
    simp only [tTo, wgt, wgts, this, e]; omega
theorem shw_Un : shw tUn := by
  refine shw_of dat_un ?_ ?_
  · unfold tUn; simp only [smp, smps, Bool.and_true]; decide +kernel
  · have : (Str.ofString "unlike").cps.size = 6 := by decide +kernel
    simp only [tUn, wgt, wgts, this]; omega
theorem shw_si {z : Str} {i : Int} (hz : z.cps.all (· < 0x110000) = true) (h1 : z.cps.size ≤ 100) (h2 : i.natAbs < 10 ^ 18) : shw (.tup [.str z, .int i]) := by
  refine shw_of ?_ ?_ ?_
  · simp only [dat, dats, Bool.and_true]; exact hz
  · simp only [smp, smps, Bool.and_true, Bool.and_eq_true]; exact ⟨hz, decide_eq_true h2⟩
  · simp only [wgt, wgts]; omega
theorem shw_Ba {n : Nat} (h : n ≤ 1000) : shw (tBa (n : Nat)) := shw_si (by decide +kernel) (by decide +kernel) (by omega)
theorem shw_Wr {n : Nat} (h : n ≤ 1000) : shw (tWr (n : Nat)) := shw_si (by decide +kernel) (by decide +kernel) (by omega)
theorem btw_at : ∀ {x y : List Nat} {n m : Nat}, btw n x y = .inl m → m < n + x.length
  | [], _, _, _, h => by
    have : btw _ [] _ = Sum.inl _ := h
    unfold btw at this
    cases this
  | _ :: _, [], _, _, h => by
    have : btw _ (_ :: _) [] = Sum.inl _ := h
    unfold btw at this
    cases this
  | a :: x, b :: y, n, m, h => by
    rw [btw_eq] at h
    split at h
    · cases h; simp
    · cases e2 : btw (n + 1) x y with
      | inl m' =>
        rw [e2] at h
        cases h
        have := btw_at e2
        simp only [List.length_cons]; omega
      | inr q => rw [e2] at h; cases h
theorem shw_due {x y : List Nat} (hx : x.length ≤ 120) : shw (dueV x y) := by
  unfold dueV
  split
  · rename_i hl
    cases e : btw 0 x y with
    | inl n => exact shw_Ba (by have := btw_at e; omega)
    | inr p => exact shw_To (by rw [btw_len e hl]; exact hx)
  · exact shw_Un
theorem bif28 {c : Bool} {A B : Prop} (h1 : c = true → A) (h2 : c = false → B) : bfi c A B := by cases c; exact h2 rfl; exact h1 rfl
/-- both things, and what is due -/
def Ask28 (z1 z2 due : PV) : Prop := shw due ∧ ∀ Q : PV → Prop, Q due → w_law_told [z1, z2] Q
theorem law_plain : p_law lawD (lawG 9) := by
  (conv => whnf)
  refine ⟨⟨by omega, by omega⟩, ?_⟩
  refine yforR (fun _ γ => ∃ b2 b3 b4 b5 b6 b7 b8, γ = [none, some .bag, b2, b3, b4, b5, b6, b7, b8]) ⟨_, _, _, _, _, _, _, rfl⟩ ?_ ?_
  · rintro m γ hm ⟨b2, b3, b4, b5, b6, b7, b8, rfl⟩ K hK
    (conv => whnf)
    refine L28_pair fun x y hxy hx gx gy => ?_
    (conv => whnf)
    refine j_by (fun γ => ∃ y : List Nat, y.length ≤ 120 ∧ (∀ c ∈ y, c ∈ gpA) ∧ γ = [none, some .bag, some (.int (m : Nat)), some (.str (txA x)), some (.str (txA y)), b5, b6, b7, b8]) (fun K2 hK2 => ?_) ?_
    · (conv => whnf)
      refine ⟨⟨by omega, by omega⟩, ?_⟩
      intro v v1 v2
      (conv => whnf)
      refine ⟨rfl, rfl, ?_⟩
      rw [peq_int]
      refine bif28 (fun _ => ?_) fun _ => ?_
      · (conv => whnf)
        refine ⟨by rw [tx_len]; exact few (by omega), ?_⟩
        rw [tx_len]
        (conv => whnf)
        refine ⟨⟨by omega, by omega⟩, ?_⟩
        intro a a1 a2
        obtain ⟨y1, e1, l1, g1⟩ := tx_sub y none (some a)
        (conv => whnf)
        refine ⟨by rw [tx_len]; exact few (by omega), ?_⟩
        rw [e1]
        (conv => whnf)
        refine ⟨⟨by omega, by omega⟩, ?_⟩
        intro c c1 c2
        obtain ⟨c, rfl⟩ := toN c1
        (conv => whnf)
        refine L28_gapped (n := c) (by omega) fun y2 l2 g2 => ?_
        (conv => whnf)
        refine ⟨few (by rw [tx_len, tx_len]; omega), ?_⟩
        rw [tx_app]
        (conv => whnf)
        refine ⟨few (by rw [tx_len, List.length_append]; omega), ?_⟩
        rw [show (120 : Int) = ((120 : Nat) : Int) from rfl, tx_cut, HT.sIx_none, HT.sIx_nat]
        refine hK2 _ ⟨_, ?_, fun d hd => ?_, rfl⟩
        · rw [List.length_take]; omega
        · have := List.mem_of_mem_drop (List.mem_of_mem_take hd)
          exact (List.mem_append.mp this).elim (fun z => gy d (g1 d z)) (g2 d)
      · (conv => whnf)
        exact hK2 _ ⟨y, by omega, gy, rfl⟩
    rintro γ ⟨y, hy, gy, rfl⟩
    (conv => whnf)
    refine L28_due hx gx hy gy ?_
    (conv => whnf)
    refine ⟨⟨by omega, by omega⟩, ?_⟩
    intro w w1 w2
    have g0 : Ask28 (.str (txA x)) (.str (txA y)) (dueV x y) := ⟨shw_due hx, fun Q q => L28_told hx gx hy gy q⟩
    (conv => whnf)
    refine j_by (fun γ => ∃ z1 z2 due : PV, Ask28 z1 z2 due ∧ γ = [none, some .bag, some (.int (m : Nat)), some (.str (txA x)), some (.str (txA y)), some due, some (.lst [z1, z2]), some (.int w), b8]) (fun K2 hK2 => ?_) ?_
    · (conv => whnf)
      refine bif28 (fun hw => ?_) fun _ => ?_
      · have hw := of_decide_eq_true hw
        have : w = 0 ∨ w = 1 := by omega
        rcases this with rfl | rfl
        · (conv => whnf)
          refine L28_odd fun z hz => ?_
          have g1 : ∀ y : PV, Ask28 z y (tWr ((0 : Nat) : Int)) := fun y => ⟨shw_Wr (by omega), fun Q q => told28_w (fun Q E q => X_between_0 hz q) q⟩
          (conv => whnf)
          refine j_by (fun γ => ∃ y' : PV, γ = [none, some .bag, some (.int (m : Nat)), some (.str (txA x)), some (.str (txA y)), some (dueV x y), some (.lst [z, y']), some (.int 0), b8]) (fun K3 hK3 => ?_) ?_
          · (conv => whnf)
            refine ⟨rfl, rfl, ?_⟩
            (conv => whnf)
            refine ⟨⟨by omega, by omega⟩, ?_⟩
            intro u u1 u2
            (conv => whnf)
            refine ⟨rfl, rfl, ?_⟩
            rw [peq_int]
            refine bif28 (fun _ => ?_) fun _ => ?_
            · (conv => whnf)
              refine L28_odd fun z2 hz2 => ?_
              (conv => whnf)
              exact hK3 _ ⟨_, rfl⟩
            · (conv => whnf)
              exact hK3 _ ⟨_, rfl⟩
          · rintro γ ⟨y', rfl⟩
            (conv => whnf)
            exact hK2 _ ⟨_, _, _, g1 _, rfl⟩
        · (conv => whnf)
          refine L28_odd fun z hz => ?_
          have g1 : Ask28 (.str (txA x)) z (tWr ((1 : Nat) : Int)) := ⟨shw_Wr (by omega), fun Q q => told28_w (fun Q E q => X_between_1 hx gx hz q) q⟩
          (conv => whnf)
          refine j_go ?_
          (conv => whnf)
          refine ⟨rfl, rfl, ?_⟩
          (conv => whnf)
          exact hK2 _ ⟨_, _, _, g1, rfl⟩
      · (conv => whnf)
        exact hK2 _ ⟨_, _, _, g0, rfl⟩
    rintro γ ⟨z1, z2, due, ⟨hs1, hd1⟩, rfl⟩
    (conv => whnf)
    refine ⟨⟨by omega, by omega⟩, ?_⟩
    intro u u1 u2
    (conv => whnf)
    refine ⟨⟨by omega, by omega⟩, ?_⟩
    refine yforR (fun _ γ => ∃ b8, γ = [none, some .bag, some (.int (m : Nat)), some (.str (txA x)), some (.str (txA y)), some due, some (.lst [z1, z2]), some (.int w), b8]) ⟨_, rfl⟩ ?_ ?_
    · rintro n γ hn ⟨b8, rfl⟩ K3 hK3
      (conv => whnf)
      refine hd1 _ ?_
      (conv => whnf)
      refine L_law_alike hs1 ?_
      (conv => whnf)
      exact hK3 _ ⟨_, rfl⟩
    · rintro γ ⟨b8, rfl⟩
      (conv => whnf)
      rw [show Str.ofString "a-" = txA [97, 45] by decide +kernel, show Str.ofString "ba" = txA [98, 97] by decide +kernel]
      refine L28_told (by simp) (by decide +kernel) (by simp) (by decide +kernel) ?_
      have e : dueV [97, 45] [98, 97] = tTo (.str (pst [.b, .u])) := rfl
      rw [e]
      (conv => whnf)
      rw [show Str.ofString "bu" = pst [.b, .u] by decide +kernel]
      refine L_law_alike (x := tTo (.str (pst [.b, .u]))) (shw_To (by simp)) ?_
      (conv => whnf)
      exact hK _ ⟨_, _, _, _, _, _, _, rfl⟩
  · rintro γ ⟨b2, b3, b4, b5, b6, b7, b8, rfl⟩
    (conv => whnf)
end Lw
open PySem PySem.W PySem.Calls PyProof.Rows
theorem PySem.Challenge.cw_laybeside_k28_between_refused_holds : PySem.Challenge.rw_laybeside_k28_between_refused.Holds := by
  w_on; o_law
  refine HandSHeadRun.head_any (r := OpenLaw.row PySem.Challenge.rw_laybeside_k28_between_refused) (q := view (OpenLaw.row PySem.Challenge.rw_laybeside_k28_between_refused).prog [26]) (H := Lw.hk) (ob := Lw.ob) (M := 200000) (loose := Lw.loose) (d := HandSHeadRun.topDef (OpenLaw.row PySem.Challenge.rw_laybeside_k28_between_refused).prog 26) (kwd := []) Lw.ob_eq
    (by kernel_rfl) (fun s => by kernel_rfl) Lw.run (by kernel_rfl) (by kernel_rfl) (by kernel_rfl) (by rfl) (by first | assumption | decide +kernel) (by decide +kernel) ⟨rfl, rfl, rfl, rfl, rfl, by decide +kernel⟩ ?hw ?hc
  case hw => w_witness2
  case hc =>
    refine Vl.walkG (l := PySem.Challenge.rw_laybeside_k28_between_refused) (n := 63) (k := 5) (x := "_law_script") rfl (by decide) (by kernel_rfl) ⟨rfl, by decide, by decide⟩ ?F
    intro w mg fa h Y G hmg0
    obtain ⟨K, KX, c⟩ := Y
    have hmg : mg ("law" : PySem.Str) = some (.ref fa) := by
      have e : (HandSHeadRun.topDef (OpenLaw.row PySem.Challenge.rw_laybeside_k28_between_refused).prog 26).name = ("law" : PySem.Str) := by kernel_rfl
      rw [← e]
      exact hmg0
    obtain ⟨fd, hb, hF⟩ := Lw.facts (P := (PySem.Challenge.rw_laybeside_k28_between_refused).prog) (w := w) KX G Lw.law_plain hmg c
    exact ⟨K, fd, Vl.spLaw K, KX, hb, fun H a ns hl _ hS => ⟨a, ns, rfl, hS, by rw [sizeLine_eq]; omega, fun _ => rfl⟩, hF⟩
